import PyProof.Rows.All
import Wide.All
import OpenK.AllK
import Wide.FinOn
import HandS.ForMost
import HandS.ForExc
import HandS.TryMany
import HandS.DictComp
import HandS.Defaults
import HandS.Deep
import HandS.TupAny
import HandS.Wide
import HandS.Style
import HandS.IsInst
import HandS.WordsDict
import HandS.TupLen
import HandS.Conv
import HandS.Iter
import HandS.Zip
import HandS.Sort
import KE.SortData
import HandS.Set
import HandS.RaiseMore
import HandS.SetBool
import KE.GoesMore
import KE.DataMinMax
import HandS.TupSets
import HandS.Head0
import HandS.Head1
import HandS.Head2
import HandS.HeadEnd
import HandS.HeadHook1
import HandS.HeadHook2
import PySem.Challenge.RW_shutnames_k06_whole_turns_by_turns
set_option Elab.async false
set_option linter.all false
section
set_option maxRecDepth 100000
set_option maxHeartbeats 2000000
/-! The functional layer, part 1: data, what is owned, the state's relation, the meaning of code as functions. -/
namespace DL
open PySem PySem.Spec PyProof.Rows L2
abbrev D := PyData
abbrev Frag := PySem.W.Frag
/-! ### data in the heap -/
def kD : Key → D
  | .inl i => .int i
  | .inr x => .str x
mutual
inductive Rp (K : Frag) (F : Hp) : V → D → Prop
  | non : Rp K F .non .none
  | bl (b : Bool) : Rp K F (.bl b) (.bool b)
  | int (i : Int) : Rp K F (.int i) (.int i)
  | str (x : Str) : Rp K F (.str x) (.str x)
  | lst {a : Addr} {xs : List V} {ds : List D} : F a = some (.lst xs) → RpAll K F xs ds → Rp K F (.ref a) (.list ds)
  | scr {a : Addr} {xs : List V} {ds : List D} : SqL K F a xs → RpAll K F xs ds → Rp K F (.ref a) (.dict [(.none, .list ds)])
  | tup {a : Addr} {xs : List V} {ds : List D} : SqT K F a xs → RpAll K F xs ds → Rp K F (.ref a) (.tuple ds)
  | dcK {a : Addr} {ob : Obj} {kvs : List (Key × V)} {ds : List D} : F a = some (.frz ob (.dK kvs)) → RpAll K F (kvs.map (·.2)) ds → Rp K F (.ref a) (.dict ((kvs.map fun p => kD p.1).zip ds))
inductive RpAll (K : Frag) (F : Hp) : List V → List D → Prop
  | nil : RpAll K F [] []
  | cons {v : V} {vs : List V} {d : D} {ds : List D} : Rp K F v d → RpAll K F vs ds → RpAll K F (v :: vs) (d :: ds)
end
theorem sq_l {K : Frag} {F F' : Hp} {a : Addr} {xs : List V} (e : Same F F') (h : SqL K F a xs) : SqL K F' a xs := e.seq h
theorem sq_t {K : Frag} {F F' : Hp} {a : Addr} {xs : List V} (e : Same F F') (h : SqT K F a xs) : SqT K F' a xs := by
  rcases h with (h | ⟨o, h⟩) | h
  · exact .inl (.inl (e _ _ h))
  · exact .inl (.inr ⟨o, e _ _ h⟩)
  · exact .inr h
mutual
theorem Rp.mono {K : Frag} {F F' : Hp} (e : Same F F') : ∀ {v : V} {d : D}, Rp K F v d → Rp K F' v d
  | _, _, .non => .non
  | _, _, .bl b => .bl b
  | _, _, .int i => .int i
  | _, _, .str x => .str x
  | _, _, .lst h r => .lst (e _ _ h) (RpAll.mono e r)
  | _, _, .scr h r => .scr (sq_l e h) (RpAll.mono e r)
  | _, _, .tup h r => .tup (sq_t e h) (RpAll.mono e r)
  | _, _, .dcK h r => .dcK (e _ _ h) (RpAll.mono e r)
theorem RpAll.mono {K : Frag} {F F' : Hp} (e : Same F F') : ∀ {vs : List V} {ds : List D}, RpAll K F vs ds → RpAll K F' vs ds
  | _, _, .nil => .nil
  | _, _, .cons h r => .cons (Rp.mono e h) (RpAll.mono e r)
end
section
variable {K : Frag} {F : Hp}
theorem RpAll.length : ∀ {vs : List V} {ds : List D}, RpAll K F vs ds → vs.length = ds.length
  | _, _, .nil => rfl
  | _, _, .cons _ r => by rw [List.length_cons, List.length_cons, RpAll.length r]
theorem RpAll.get : ∀ {vs : List V} {ds : List D} {i : Nat} {v : V}, RpAll K F vs ds → vs[i]? = some v → ∃ d, ds[i]? = some d ∧ Rp K F v d
  | _, _, _, _, .nil, e => by simp at e
  | _, _, 0, _, .cons h _, e => by simp at e; subst e; exact ⟨_, rfl, h⟩
  | _, _, i + 1, _, .cons _ r, e => by
    obtain ⟨d, h1, h2⟩ := RpAll.get (i := i) r (by simpa using e)
    exact ⟨d, by simpa using h1, h2⟩
theorem RpAll.getD : ∀ {vs : List V} {ds : List D} {i : Nat} {d : D}, RpAll K F vs ds → ds[i]? = some d → ∃ v, vs[i]? = some v ∧ Rp K F v d
  | _, _, _, _, .nil, e => by simp at e
  | _, _, 0, _, .cons h _, e => by simp at e; subst e; exact ⟨_, rfl, h⟩
  | _, _, i + 1, _, .cons _ r, e => by
    obtain ⟨d, h1, h2⟩ := RpAll.getD (i := i) r (by simpa using e)
    exact ⟨d, by simpa using h1, h2⟩
theorem RpAll.append : ∀ {vs ws : List V} {ds es : List D}, RpAll K F vs ds → RpAll K F ws es → RpAll K F (vs ++ ws) (ds ++ es)
  | _, _, _, _, .nil, s => s
  | _, _, _, _, .cons h r, s => .cons h (RpAll.append r s)
theorem RpAll.take : ∀ {vs : List V} {ds : List D} (n : Nat), RpAll K F vs ds → RpAll K F (vs.take n) (ds.take n)
  | _, _, 0, _ => by simpa using RpAll.nil
  | _, _, _ + 1, .nil => .nil
  | _, _, n + 1, .cons h r => .cons h (RpAll.take n r)
theorem RpAll.drop : ∀ {vs : List V} {ds : List D} (n : Nat), RpAll K F vs ds → RpAll K F (vs.drop n) (ds.drop n)
  | _, _, 0, r => r
  | _, _, _ + 1, .nil => .nil
  | _, _, n + 1, .cons _ r => RpAll.drop n r
theorem RpAll.set {v : V} {d : D} (h : Rp K F v d) : ∀ {vs : List V} {ds : List D} (i : Nat), RpAll K F vs ds → RpAll K F (vs.set i v) (ds.set i d)
  | _, _, _, .nil => .nil
  | _, _, 0, .cons _ r => .cons h r
  | _, _, i + 1, .cons q r => .cons q (RpAll.set h i r)
theorem RpAll.erase : ∀ {vs : List V} {ds : List D} (i : Nat), RpAll K F vs ds → RpAll K F (vs.eraseIdx i) (ds.eraseIdx i)
  | _, _, _, .nil => .nil
  | _, _, 0, .cons _ r => r
  | _, _, i + 1, .cons q r => .cons q (RpAll.erase i r)
theorem RpAll.one {v : V} {d : D} (h : Rp K F v d) : RpAll K F [v] [d] := .cons h .nil
theorem RpAll.rev {vs : List V} {ds : List D} (h : RpAll K F vs ds) : RpAll K F vs.reverse ds.reverse := by
  induction vs generalizing ds with
  | nil => cases h; exact .nil
  | cons v vs ih =>
    cases h with
    | cons h r =>
      rw [List.reverse_cons, List.reverse_cons]
      exact (ih r).append (.one h)
end

/-! ### what is owned -/
/-- a value that code holds: data, or a list, a dict, an object that it alone holds and may change -/
inductive OV where
  | d (x : D)
  | lst (xs : List D)
  | dct (kvs : List (D × D))
  | dctT (kvs : List (D × D))
  | obj (c : Str) (fs : List (Str × OV))
mutual
/-- v stands for o: what is owned stands at O, not in the frozen part F -/
inductive OwR (K : Frag) (ca : Str → Addr) (F H : Hp) : V → OV → List Addr → Prop
  | d {v : V} {x : D} : Rp K F v x → OwR K ca F H v (.d x) []
  | lst {p : Addr} {vs : List V} {xs : List D} : H p = some (.lst vs) → RpAll K F vs xs → OwR K ca F H (.ref p) (.lst xs) [p]
  | dcK {p : Addr} {kvs : List (Key × V)} {ds : List D} : H p = some (.dK kvs) → RpAll K F (kvs.map (·.2)) ds → OwR K ca F H (.ref p) (.dct ((kvs.map fun q => kD q.1).zip ds)) [p]
  | dcT {p : Addr} {kvs : List (List Key × V)} {ds : List D} : H p = some (.dT kvs) → RpAll K F (kvs.map (·.2)) ds → OwR K ca F H (.ref p) (.dctT ((kvs.map fun q => PyData.tuple (q.1.map kD)).zip ds)) [p]
  | obj {p dx : Addr} {c : Str} {fvs : List (Str × V)} {fs : List (Str × OV)} {O : List Addr} : H p = some (.ins (ca c) dx fvs) → H dx = some (.own p) → OwF K ca F H fvs fs O → OwR K ca F H (.ref p) (.obj c fs) (p :: dx :: O)
inductive OwF (K : Frag) (ca : Str → Addr) (F H : Hp) : List (Str × V) → List (Str × OV) → List Addr → Prop
  | nil : OwF K ca F H [] [] []
  | cons {x : Str} {v : V} {o : OV} {r : List (Str × V)} {s : List (Str × OV)} {A B : List Addr} : OwR K ca F H v o A → OwF K ca F H r s B → OwF K ca F H ((x, v) :: r) ((x, o) :: s) (A ++ B)
end
mutual
theorem OwR.mono {K : Frag} {ca : Str → Addr} {F F' H H' : Hp} (e : Same F F') : ∀ {v : V} {o : OV} {O : List Addr}, OwR K ca F H v o O → (∀ b ∈ O, H' b = H b) → OwR K ca F' H' v o O
  | _, _, _, .d r, _ => .d (r.mono e)
  | _, _, _, .lst h r, k => .lst ((k _ (List.mem_singleton_self _)).trans h) (r.mono e)
  | _, _, _, .dcK h r, k => .dcK ((k _ (List.mem_singleton_self _)).trans h) (r.mono e)
  | _, _, _, .dcT h r, k => .dcT ((k _ (List.mem_singleton_self _)).trans h) (r.mono e)
  | _, _, _, .obj h1 h2 r, k => .obj ((k _ (by simp)).trans h1) ((k _ (by simp)).trans h2) (OwF.mono e r fun b hb => k b (by simp [hb]))
theorem OwF.mono {K : Frag} {ca : Str → Addr} {F F' H H' : Hp} (e : Same F F') : ∀ {fvs : List (Str × V)} {fs : List (Str × OV)} {O : List Addr}, OwF K ca F H fvs fs O → (∀ b ∈ O, H' b = H b) → OwF K ca F' H' fvs fs O
  | _, _, _, .nil, _ => .nil
  | _, _, _, .cons h r, k => .cons (OwR.mono e h fun b hb => k b (by simp [hb])) (OwF.mono e r fun b hb => k b (by simp [hb]))
end
mutual
theorem OwR.there {K : Frag} {ca : Str → Addr} {F H : Hp} : ∀ {v : V} {o : OV} {O : List Addr}, OwR K ca F H v o O → ∀ b ∈ O, H b ≠ none
  | _, _, _, .d _, b, hb => by simp at hb
  | _, _, _, .lst h _, b, hb => by rw [List.mem_singleton] at hb; rw [hb, h]; simp
  | _, _, _, .dcK h _, b, hb => by rw [List.mem_singleton] at hb; rw [hb, h]; simp
  | _, _, _, .dcT h _, b, hb => by rw [List.mem_singleton] at hb; rw [hb, h]; simp
  | _, _, _, .obj h1 h2 r, b, hb => by
    rcases List.mem_cons.mp hb with e | hb
    · rw [e, h1]; simp
    · rcases List.mem_cons.mp hb with e | hb
      · rw [e, h2]; simp
      · exact OwF.there r b hb
theorem OwF.there {K : Frag} {ca : Str → Addr} {F H : Hp} : ∀ {fvs : List (Str × V)} {fs : List (Str × OV)} {O : List Addr}, OwF K ca F H fvs fs O → ∀ b ∈ O, H b ≠ none
  | _, _, _, .nil, b, hb => by simp at hb
  | _, _, _, .cons h r, b, hb => by
    rcases List.mem_append.mp hb with hb | hb
    · exact OwR.there h b hb
    · exact OwF.there r b hb
end

/-! ### what may be looked at: data, or an owned list or dict as it stands -/
inductive RpB (K : Frag) (F H : Hp) : V → D → Prop
  | d {v : V} {x : D} : Rp K F v x → RpB K F H v x
  | lst {p : Addr} {vs : List V} {xs : List D} : H p = some (.lst vs) → RpAll K F vs xs → RpB K F H (.ref p) (.list xs)
  | dcK {p : Addr} {kvs : List (Key × V)} {ds : List D} : Rd H p (.dK kvs) → RpAll K F (kvs.map (·.2)) ds → RpB K F H (.ref p) (.dict ((kvs.map fun q => kD q.1).zip ds))
theorem rd_mono {H H' : Hp} (k : Same H H') {a : Addr} {u : HO} (h : Rd H a u) : Rd H' a u := h.elim (fun h => .inl (k _ _ h)) fun ⟨o, h⟩ => .inr ⟨o, k _ _ h⟩
theorem RpB.mono {K : Frag} {F F' H H' : Hp} (e : Same F F') (k : Same H H') {v : V} {x : D} (h : RpB K F H v x) : RpB K F' H' v x := by
  cases h with
  | d r => exact .d (r.mono e)
  | lst h r => exact .lst (k _ _ h) (r.mono e)
  | dcK h r => exact .dcK (rd_mono k h) (r.mono e)
def OV.look : OV → Option D
  | .d x => some x
  | .lst xs => some (.list xs)
  | .dct kvs => some (.dict kvs)
  | _ => none
/-- what may be frozen as it stands -/
def OV.frz : OV → Option D
  | .d x => some x
  | .lst xs => some (.list xs)
  | _ => none
theorem OwR.look {K : Frag} {ca : Str → Addr} {F H : Hp} {v : V} {o : OV} {O : List Addr} {x : D} (h : OwR K ca F H v o O) (e : o.look = some x) : RpB K F H v x := by
  cases h with
  | d r => cases e; exact .d r
  | lst h r => cases e; exact .lst h r
  | dcK h r => cases e; exact .dcK (.inl h) r
  | dcT h r => cases e
  | obj _ _ _ => cases e

/-! ### slots -/
abbrev Env := List (Option OV)
abbrev Sl := L2.St
inductive SlR (K : Frag) (ca : Str → Addr) (F H : Hp) : Sl → Env → List Addr → Prop
  | nil : SlR K ca F H [] [] []
  | no {v : Option V} {σ : Sl} {ρ : Env} {O : List Addr} : SlR K ca F H σ ρ O → SlR K ca F H (v :: σ) (none :: ρ) O
  | so {v : V} {o : OV} {A : List Addr} {σ : Sl} {ρ : Env} {O : List Addr} : OwR K ca F H v o A → SlR K ca F H σ ρ O → SlR K ca F H (some v :: σ) (some o :: ρ) (A ++ O)
section
variable {K : Frag} {ca : Str → Addr} {F F' H H' : Hp}
theorem SlR.length : ∀ {σ : Sl} {ρ : Env} {O : List Addr}, SlR K ca F H σ ρ O → σ.length = ρ.length
  | _, _, _, .nil => rfl
  | _, _, _, .no r => by rw [List.length_cons, List.length_cons, r.length]
  | _, _, _, .so _ r => by rw [List.length_cons, List.length_cons, r.length]
theorem SlR.mono (e : Same F F') : ∀ {σ : Sl} {ρ : Env} {O : List Addr}, SlR K ca F H σ ρ O → (∀ b ∈ O, H' b = H b) → SlR K ca F' H' σ ρ O
  | _, _, _, .nil, _ => .nil
  | _, _, _, .no r, k => .no (r.mono e k)
  | _, _, _, .so h r, k => .so (h.mono e fun b hb => k b (by simp [hb])) (r.mono e fun b hb => k b (by simp [hb]))
theorem SlR.there : ∀ {σ : Sl} {ρ : Env} {O : List Addr}, SlR K ca F H σ ρ O → ∀ b ∈ O, H b ≠ none
  | _, _, _, .nil, b, hb => by simp at hb
  | _, _, _, .no r, b, hb => r.there b hb
  | _, _, _, .so h r, b, hb => by
    rcases List.mem_append.mp hb with hb | hb
    · exact h.there b hb
    · exact r.there b hb
/-- the slot i taken out: its own addresses A, the others' R -/
theorem SlR.at : ∀ {σ : Sl} {ρ : Env} {O : List Addr} {i : Nat} {o : OV}, SlR K ca F H σ ρ O → ρ[i]? = some (some o) →
    ∃ v A R, σ[i]? = some (some v) ∧ OwR K ca F H v o A ∧ O.Perm (A ++ R) ∧ ∀ F' H', Same F F' → (∀ b ∈ R, H' b = H b) →
      SlR K ca F' H' σ (ρ.set i none) R ∧ ∀ v' o' A', OwR K ca F' H' v' o' A' → ∃ O', SlR K ca F' H' (σ.set i (some v')) (ρ.set i (some o')) O' ∧ O'.Perm (A' ++ R)
  | _, _, _, _, _, .nil, e => by simp at e
  | v :: σ, none :: ρ, O, 0, o, .no r, e => by simp at e
  | v :: σ, none :: ρ, O, i + 1, o, .no r, e => by
    obtain ⟨w, A, R, h1, h2, h3, h4⟩ := SlR.at (i := i) r (by simpa using e)
    refine ⟨w, A, R, by simpa using h1, h2, h3, fun F' H' eF k => ?_⟩
    obtain ⟨k1, k2⟩ := h4 F' H' eF k
    refine ⟨.no k1, fun v' o' A' q => ?_⟩
    obtain ⟨O', q1, q2⟩ := k2 v' o' A' q
    exact ⟨O', .no q1, q2⟩
  | some v :: σ, some o' :: ρ, _, 0, o, .so (O := O) (A := A) h r, e => by
    have e' : o' = o := by simpa using e
    subst e'
    refine ⟨v, A, O, rfl, h, List.Perm.refl _, fun F' H' eF k => ⟨.no (r.mono eF k), fun v' o' A' q => ⟨A' ++ O, .so q (r.mono eF k), List.Perm.refl _⟩⟩⟩
  | some v :: σ, some o' :: ρ, _, i + 1, o, .so (O := O) (A := A) h r, e => by
    obtain ⟨w, A1, R, h1, h2, h3, h4⟩ := SlR.at (i := i) r (by simpa using e)
    refine ⟨w, A1, A ++ R, by simpa using h1, h2, ?_, fun F' H' eF k => ?_⟩
    · refine (List.Perm.append_left A h3).trans ?_
      rw [← List.append_assoc, ← List.append_assoc]
      exact List.Perm.append_right R List.perm_append_comm
    · obtain ⟨k1, k2⟩ := h4 F' H' eF fun b hb => k b (by simp [hb])
      refine ⟨.so (h.mono eF fun b hb => k b (by simp [hb])) k1, fun v' o' A' q => ?_⟩
      obtain ⟨O', q1, q2⟩ := k2 v' o' A' q
      refine ⟨A ++ O', .so (h.mono eF fun b hb => k b (by simp [hb])) q1, ?_⟩
      refine (List.Perm.append_left A q2).trans ?_
      rw [← List.append_assoc, ← List.append_assoc]
      exact List.Perm.append_right R List.perm_append_comm
/-- a slot set anew, whatever it held -/
theorem SlR.put : ∀ {σ : Sl} {ρ : Env} {O : List Addr} {i : Nat}, SlR K ca F H σ ρ O → i < σ.length →
    ∃ R, (∀ b ∈ R, b ∈ O) ∧ (O.Nodup → R.Nodup) ∧ (∀ x : Option V, SlR K ca F H (σ.set i x) (ρ.set i none) R) ∧ ∀ v o A, OwR K ca F H v o A → ∃ O', SlR K ca F H (σ.set i (some v)) (ρ.set i (some o)) O' ∧ O'.Perm (A ++ R)
  | _, _, _, _, .nil, e => by simp at e
  | v :: σ, none :: ρ, O, 0, .no r, e => ⟨O, fun _ h => h, fun h => h, fun x => .no r, fun v o A q => ⟨A ++ O, .so q r, List.Perm.refl _⟩⟩
  | v :: σ, none :: ρ, O, i + 1, .no r, e => by
    obtain ⟨R, h1, h2, h3, h4⟩ := SlR.put (i := i) r (by simpa using e)
    refine ⟨R, h1, h2, fun x => .no (h3 x), fun v o A q => ?_⟩
    obtain ⟨O', q1, q2⟩ := h4 v o A q
    exact ⟨O', .no q1, q2⟩
  | some v :: σ, some o' :: ρ, _, 0, .so (O := O) (A := A) h r, e => ⟨O, fun b hb => by simp [hb], fun n => (List.nodup_append.mp n).2.1, fun x => .no r, fun v o A q => ⟨A ++ O, .so q r, List.Perm.refl _⟩⟩
  | some v :: σ, some o' :: ρ, _, i + 1, .so (O := O) (A := A) h r, e => by
    obtain ⟨R, h1, h2, h3, h4⟩ := SlR.put (i := i) r (by simpa using e)
    refine ⟨A ++ R, fun b hb => ?_, fun n => ?_, fun x => .so h (h3 x), fun v o A1 q => ?_⟩
    · rcases List.mem_append.mp hb with hb | hb
      · simp [hb]
      · simp [h1 b hb]
    · obtain ⟨n1, n2, n3⟩ := List.nodup_append.mp n
      exact List.nodup_append.mpr ⟨n1, h2 n2, fun a ha b hb => n3 a ha b (h1 b hb)⟩
    · obtain ⟨O', q1, q2⟩ := h4 v o A1 q
      refine ⟨A ++ O', .so h q1, ?_⟩
      refine (List.Perm.append_left A q2).trans ?_
      rw [← List.append_assoc, ← List.append_assoc]
      exact List.Perm.append_right R List.perm_append_comm
end
end DL
end
section
set_option maxRecDepth 100000
set_option maxHeartbeats 2000000
/-! The functional layer, part 2: the state's relation, the meaning of code, the readings. -/
namespace DL
open PySem PySem.Spec PyProof.Rows L2
/-- an exception: its class, its fields -/
inductive ECls where
  | own (x : Str) | blt (n : String)
  deriving DecidableEq
structure Exc where
  c : ECls
  fs : List (Str × D)
/-- what code comes to -/
inductive Res (α : Type) where
  | ok (a : α) (ρ : Env)
  | ex (ξ : Exc) (ρ : Env)
  | bad
abbrev M (α : Type) := Env → Res α
def Res.bind {α β : Type} : Res α → (α → Env → Res β) → Res β
  | .ok a ρ, k => k a ρ
  | .ex ξ ρ, _ => .ex ξ ρ
  | .bad, _ => .bad
def Res.post {α : Type} (r : Res α) (P : α → Env → Prop) (E : Exc → Env → Prop) : Prop := match r with
  | .ok a ρ => P a ρ
  | .ex ξ ρ => E ξ ρ
  | .bad => False
theorem Res.post_bind {α β : Type} {r : Res α} {k : α → Env → Res β} {P : β → Env → Prop} {E : Exc → Env → Prop} (h : (r.bind k).post P E) : r.post (fun a ρ => (k a ρ).post P E) E := by
  cases r <;> exact h
theorem Res.post_imp {α : Type} {r : Res α} {P P' : α → Env → Prop} {E E' : Exc → Env → Prop} (h : r.post P E) (p : ∀ a ρ, P a ρ → P' a ρ) (e : ∀ ξ ρ, E ξ ρ → E' ξ ρ) : r.post P' E' := by
  cases r with
  | ok a ρ => exact p a ρ h
  | ex ξ ρ => exact e ξ ρ h
  | bad => exact h
def ofO {α : Type} (o : Option α) (ρ : Env) : Res α := match o with
  | some a => .ok a ρ
  | none => .bad
theorem post_ofO {α : Type} {o : Option α} {ρ : Env} {P : α → Env → Prop} {E : Exc → Env → Prop} (h : (ofO o ρ).post P E) : ∃ a, o = some a ∧ P a ρ := by
  cases o with
  | none => exact h.elim
  | some a => exact ⟨a, rfl, h⟩

/-- the entry of the code: the frozen part, the heap, what is owned, the slots that hold owned arguments, the slots; what is wished of exceptions -/
structure Ct where
  ca : Str → Addr
  F : Hp
  H : Hp
  O : List Addr
  fx : List Nat
  σ : Sl
  W : WX
abbrev Ct.nox (c : Ct) : Ct := { c with W := fun _ _ _ _ => False }
abbrev Ct.wish (c : Ct) (W : WX) : Ct := { c with W := W }
structure EnvR (K : Frag) (c : Ct) (F H : Hp) (σ : Sl) (ρ : Env) (O : List Addr) : Prop where
  sub : Same F H
  f0 : Same c.F F
  h0 : ∀ b o, c.H b = some o → b ∉ c.O → H b = some o
  n0 : ∀ b, c.H b ≠ none → b ∉ c.O → c.F b = none → F b = none
  sl : SlR K c.ca F H σ ρ O
  nd : O.Nodup
  ow : ∀ p ∈ O, F p = none ∧ (p ∈ c.O ∨ c.H p = none)
  fx : ∀ i ∈ c.fx, σ[i]? = c.σ[i]?
/-- new things alone -/
structure New (F H F' H' : Hp) : Prop where
  fF : Same F F'
  hH : Same H H'
  sub : Same F' H'
  nw : ∀ b, H b ≠ none → F b = none → F' b = none
theorem New.refl {F H : Hp} (h : Same F H) : New F H F H := ⟨Same.refl _, Same.refl _, h, fun _ _ h => h⟩
theorem New.trans {F H F1 H1 F2 H2 : Hp} (a : New F H F1 H1) (b : New F1 H1 F2 H2) : New F H F2 H2 :=
  ⟨a.fF.trans b.fF, a.hH.trans b.hH, b.sub, fun c h1 h2 => b.nw c (fun z => h1 (a.hH.free z)) (a.nw c h1 h2)⟩
theorem same_upd {F : Hp} {p : Addr} (h : F p = none) (o : HO) : Same F (upd F p o) := fun b u q => by rw [upd_ne (ne_of_none q h)]; exact q
/-- one new thing, frozen -/
theorem New.one {F H : Hp} (s : Same F H) {p : Addr} (h : H p = none) (o : HO) : New F H (upd F p o) (upd H p o) where
  fF := same_upd (s.free h) o
  hH := same_upd h o
  sub := fun b u q => by
    by_cases e : b = p
    · subst e; rw [upd_same] at q ⊢; exact q
    · rw [upd_ne e] at q ⊢; exact s _ _ q
  nw := fun b h1 h2 => by
    have e : b ≠ p := fun e => h1 (by rw [e]; exact h)
    rw [upd_ne e]; exact h2
/-- one new thing, not frozen -/
theorem New.own {F H : Hp} (s : Same F H) {p : Addr} (h : H p = none) (o : HO) : New F H F (upd H p o) where
  fF := Same.refl _
  hH := same_upd h o
  sub := s.trans (same_upd h o)
  nw := fun b h1 h2 => h2
section
variable {K : Frag} {c : Ct} {F F' H H' : Hp} {σ : Sl} {ρ ρ' : Env} {O : List Addr}
theorem keep_of {H H' : Hp} (h : Same H H') {O : List Addr} (t : ∀ b ∈ O, H b ≠ none) : ∀ b ∈ O, H' b = H b := fun b hb => by
  cases e : H b with
  | none => exact absurd e (t b hb)
  | some o => exact h b o e
theorem EnvR.new (e : EnvR K c F H σ ρ O) (n : New F H F' H') : EnvR K c F' H' σ ρ O where
  sub := n.sub
  f0 := e.f0.trans n.fF
  h0 := fun b o q h => n.hH _ _ (e.h0 b o q h)
  n0 := fun b h1 h2 h3 => n.nw b (fun z => by
    cases q : c.H b with
    | none => exact h1 q
    | some o =>
      rw [e.h0 b o q h2] at z
      cases z) (e.n0 b h1 h2 h3)
  sl := e.sl.mono n.fF (keep_of n.hH e.sl.there)
  nd := e.nd
  ow := fun p hp => ⟨n.nw p (e.sl.there p hp) (e.ow p hp).1, (e.ow p hp).2⟩
  fx := e.fx
theorem EnvR.nox (e : EnvR K c F H σ ρ O) : EnvR K c.nox F H σ ρ O := ⟨e.sub, e.f0, e.h0, e.n0, e.sl, e.nd, e.ow, e.fx⟩
theorem EnvR.unnox (e : EnvR K c.nox F H σ ρ O) : EnvR K c F H σ ρ O := ⟨e.sub, e.f0, e.h0, e.n0, e.sl, e.nd, e.ow, e.fx⟩
theorem EnvR.wish {W : WX} (e : EnvR K c F H σ ρ O) : EnvR K (c.wish W) F H σ ρ O := ⟨e.sub, e.f0, e.h0, e.n0, e.sl, e.nd, e.ow, e.fx⟩
theorem EnvR.unwish {W : WX} (e : EnvR K (c.wish W) F H σ ρ O) : EnvR K c F H σ ρ O := ⟨e.sub, e.f0, e.h0, e.n0, e.sl, e.nd, e.ow, e.fx⟩
end

/-! ### exceptions -/
def ecV (ca : Str → Addr) : ECls → Value
  | .own x => .ref (ca x)
  | .blt n => .type n
def XR (K : Frag) (ca : Str → Addr) (F H : Hp) (cls : Value) (d : Option Addr) (ξ : Exc) : Prop :=
  cls = ecV ca ξ.c ∧ (ξ.fs ≠ [] → ∃ dd fvs, d = some dd ∧ H dd = some (.xd fvs) ∧ fvs.map (·.1) = ξ.fs.map (·.1) ∧ RpAll K F (fvs.map (·.2)) (ξ.fs.map (·.2)))

/-! ### readings -/
abbrev Val (K : Frag) (hk : Bool) (F H : Hp) (v : V) (x : D) : Prop := match hk with
  | true => RpB K F H v x
  | false => Rp K F v x
theorem Val.up {K : Frag} {hk pu : Bool} {F H F' H' : Hp} {v : V} {x : D} (h : Val K hk F H v x) (s : Same F F') (p : pu = true → Same H H') (k : hk = true → pu = true) : RpB K F' H' v x := by
  cases hk with
  | true => exact RpB.mono s (p (k rfl)) h
  | false => exact .d (Rp.mono s h)
theorem Val.up0 {K : Frag} {hk : Bool} {F H : Hp} {v : V} {x : D} (h : Val K hk F H v x) : RpB K F H v x := by
  cases hk with
  | true => exact h
  | false => exact .d h
/-- fresh things that an expression hands over: A, apart from the slots' O -/
structure Apart (c : Ct) (F : Hp) (A O : List Addr) : Prop where
  nd : (A ++ O).Nodup
  ow : ∀ p ∈ A, F p = none ∧ (p ∈ c.O ∨ c.H p = none)
def PV (K : Frag) (c : Ct) (hk pu : Bool) (F H : Hp) (σ : Sl) (Q : VK) (x : D) (ρ' : Env) : Prop :=
  ∀ F' H' O' v, EnvR K c F' H' σ ρ' O' → Same F F' → (pu = true → Same H H') → Val K hk F' H' v x → Q v H'
def PO (K : Frag) (c : Ct) (F H : Hp) (σ : Sl) (Q : VK) (o : OV) (ρ' : Env) : Prop :=
  ∀ F' H' O' A v, EnvR K c F' H' σ ρ' O' → Same F F' → OwR K c.ca F' H' v o A → Apart c F' A O' → Q v H'
def PB (K : Frag) (c : Ct) (pu : Bool) (F H : Hp) (σ : Sl) (Q : Bool → Hp → Prop) (b : Bool) (ρ' : Env) : Prop :=
  ∀ F' H' O', EnvR K c F' H' σ ρ' O' → Same F F' → (pu = true → Same H H') → Q b H'
def PX (K : Frag) (c : Ct) (σ : Sl) (ξ : Exc) (ρ' : Env) : Prop :=
  ∀ F' H' O' cls d, EnvR K c F' H' σ ρ' O' → XR K c.ca F' H' cls d ξ → c.W cls d σ H'
/-- data; hk: perhaps only to be looked at; pu: nothing owned changes -/
def te (K : Frag) (c : Ct) (hk pu : Bool) (m : M D) : TE := fun σ H Q => ∃ F ρ O, EnvR K c F H σ ρ O ∧ (m ρ).post (PV K c hk pu F H σ Q) (PX K c σ)
/-- an owned thing, or data -/
def to (K : Frag) (c : Ct) (m : M OV) : TE := fun σ H Q => ∃ F ρ O, EnvR K c F H σ ρ O ∧ (m ρ).post (PO K c F H σ Q) (PX K c σ)
def tt (K : Frag) (c : Ct) (pu : Bool) (m : M Bool) : TT := fun σ H Q => ∃ F ρ O, EnvR K c F H σ ρ O ∧ (m ρ).post (PB K c pu F H σ Q) (PX K c σ)
inductive Fl where
  | nx | bk | ct
  | rt (o : OV)
def PS' (K : Frag) (c : Ct) (D : Ends) (f : Fl) (ρ' : Env) : Prop := match f with
  | .nx => ∀ σ' F' H' O', EnvR K c F' H' σ' ρ' O' → D.nx σ' H'
  | .bk => ∀ σ' F' H' O', EnvR K c F' H' σ' ρ' O' → D.bk σ' H'
  | .ct => ∀ σ' F' H' O', EnvR K c F' H' σ' ρ' O' → D.ct σ' H'
  | .rt o => ∀ σ' F' H' O' A v, EnvR K c F' H' σ' ρ' O' → OwR K c.ca F' H' v o A → Apart c F' A O' → D.rt v H'
def PXs (K : Frag) (c : Ct) (ξ : Exc) (ρ' : Env) : Prop :=
  ∀ σ' F' H' O' cls d, EnvR K c F' H' σ' ρ' O' → XR K c.ca F' H' cls d ξ → c.W cls d σ' H'
def ts (K : Frag) (c : Ct) (m : M Fl) : TS := fun D σ H => ∃ F ρ O, EnvR K c F H σ ρ O ∧ (m ρ).post (PS' K c D) (PXs K c)

theorem _root_.L2.PE.imp {X : Cx} {e : Expr} {t t' : TE} (h : PE X e t) (k : ∀ σ H Q, t' σ H Q → t σ H Q) : PE X e t' := ⟨fun pins s σ H Q I q => h.run pins s σ H Q I (k σ H Q q)⟩
theorem _root_.L2.PT.imp {X : Cx} {e : Expr} {t t' : TT} (h : PT X e t) (k : ∀ σ H Q, t' σ H Q → t σ H Q) : PT X e t' := ⟨fun pins s σ H Q I q => h.run pins s σ H Q I (k σ H Q q)⟩
theorem _root_.L2.PA.imp {X : Cx} {e : List Expr} {t t' : TA} (h : PA X e t) (k : ∀ σ H Q, t' σ H Q → t σ H Q) : PA X e t' := ⟨fun pos pins s σ H Q I q => h.run pos pins s σ H Q I (k σ H Q q)⟩
theorem _root_.L2.PS.imp {X : Cx} {e : Stmt} {t t' : TS} (h : PS X e t) (k : ∀ D σ H, t' D σ H → t D σ H) : PS X e t' := ⟨fun pins s σ H Q I q => h.run pins s σ H Q I (k Q σ H q)⟩
theorem _root_.L2.PSs.imp {X : Cx} {e : List Stmt} {t t' : TS} (h : PSs X e t) (k : ∀ D σ H, t' D σ H → t D σ H) : PSs X e t' := ⟨fun pins s σ H Q I q => h.run pins s σ H Q I (k Q σ H q)⟩

section
variable {K : Frag} {c : Ct} {F H : Hp} {σ : Sl} {ρ : Env} {O : List Addr} {hk pu : Bool} {α : Type}
/-- the first part of a longer meaning -/
theorem te_step {m : M D} {k : D → Env → Res α} {P : α → Env → Prop} {Q : VK} (e : EnvR K c F H σ ρ O) (h : ((m ρ).bind k).post P (PX K c σ))
    (q : ∀ x ρ1 F1 H1 O1 v, (k x ρ1).post P (PX K c σ) → EnvR K c F1 H1 σ ρ1 O1 → Same F F1 → (pu = true → Same H H1) → Val K hk F1 H1 v x → Q v H1) : te K c hk pu m σ H Q :=
  ⟨F, ρ, O, e, Res.post_imp (Res.post_bind h) (fun x ρ1 h1 F1 H1 O1 v e1 s1 p1 r1 => q x ρ1 F1 H1 O1 v h1 e1 s1 p1 r1) fun _ _ h => h⟩
theorem to_step {m : M OV} {k : OV → Env → Res α} {P : α → Env → Prop} {Q : VK} (e : EnvR K c F H σ ρ O) (h : ((m ρ).bind k).post P (PX K c σ))
    (q : ∀ x ρ1 F1 H1 O1 A v, (k x ρ1).post P (PX K c σ) → EnvR K c F1 H1 σ ρ1 O1 → Same F F1 → OwR K c.ca F1 H1 v x A → Apart c F1 A O1 → Q v H1) : to K c m σ H Q :=
  ⟨F, ρ, O, e, Res.post_imp (Res.post_bind h) (fun x ρ1 h1 F1 H1 O1 A v e1 s1 r1 a1 => q x ρ1 F1 H1 O1 A v h1 e1 s1 r1 a1) fun _ _ h => h⟩
theorem tt_step {m : M Bool} {k : Bool → Env → Res α} {P : α → Env → Prop} {Q : Bool → Hp → Prop} (e : EnvR K c F H σ ρ O) (h : ((m ρ).bind k).post P (PX K c σ))
    (q : ∀ x ρ1 F1 H1 O1, (k x ρ1).post P (PX K c σ) → EnvR K c F1 H1 σ ρ1 O1 → Same F F1 → (pu = true → Same H H1) → Q x H1) : tt K c pu m σ H Q :=
  ⟨F, ρ, O, e, Res.post_imp (Res.post_bind h) (fun x ρ1 h1 F1 H1 O1 e1 s1 p1 => q x ρ1 F1 H1 O1 h1 e1 s1 p1) fun _ _ h => h⟩
/-- .. where a statement's exceptions are meant -/
theorem te_stepS {m : M D} {k : D → Env → Res α} {P : α → Env → Prop} {Q : VK} (e : EnvR K c F H σ ρ O) (h : ((m ρ).bind k).post P (PXs K c))
    (q : ∀ x ρ1 F1 H1 O1 v, (k x ρ1).post P (PXs K c) → EnvR K c F1 H1 σ ρ1 O1 → Same F F1 → (pu = true → Same H H1) → Val K hk F1 H1 v x → Q v H1) : te K c hk pu m σ H Q :=
  ⟨F, ρ, O, e, Res.post_imp (Res.post_bind h) (fun x ρ1 h1 F1 H1 O1 v e1 s1 p1 r1 => q x ρ1 F1 H1 O1 v h1 e1 s1 p1 r1) fun _ _ h F' H' O' cls d => h σ F' H' O' cls d⟩
theorem to_stepS {m : M OV} {k : OV → Env → Res α} {P : α → Env → Prop} {Q : VK} (e : EnvR K c F H σ ρ O) (h : ((m ρ).bind k).post P (PXs K c))
    (q : ∀ x ρ1 F1 H1 O1 A v, (k x ρ1).post P (PXs K c) → EnvR K c F1 H1 σ ρ1 O1 → Same F F1 → OwR K c.ca F1 H1 v x A → Apart c F1 A O1 → Q v H1) : to K c m σ H Q :=
  ⟨F, ρ, O, e, Res.post_imp (Res.post_bind h) (fun x ρ1 h1 F1 H1 O1 A v e1 s1 r1 a1 => q x ρ1 F1 H1 O1 A v h1 e1 s1 r1 a1) fun _ _ h F' H' O' cls d => h σ F' H' O' cls d⟩
theorem tt_stepS {m : M Bool} {k : Bool → Env → Res α} {P : α → Env → Prop} {Q : Bool → Hp → Prop} (e : EnvR K c F H σ ρ O) (h : ((m ρ).bind k).post P (PXs K c))
    (q : ∀ x ρ1 F1 H1 O1, (k x ρ1).post P (PXs K c) → EnvR K c F1 H1 σ ρ1 O1 → Same F F1 → (pu = true → Same H H1) → Q x H1) : tt K c pu m σ H Q :=
  ⟨F, ρ, O, e, Res.post_imp (Res.post_bind h) (fun x ρ1 h1 F1 H1 O1 e1 s1 p1 => q x ρ1 F1 H1 O1 h1 e1 s1 p1) fun _ _ h F' H' O' cls d => h σ F' H' O' cls d⟩
end

/-! ### names, constants -/
def mVar (i : Nat) : M D := fun ρ => match ρ[i]? with
  | some (some (.d x)) => .ok x ρ
  | _ => .bad
def mC (x : D) : M D := fun ρ => .ok x ρ
/-- looked at, whatever it is -/
def mLook (i : Nat) : M D := fun ρ => match ρ[i]? with
  | some (some o) => ofO o.look ρ
  | _ => .bad
section
variable {X : Cx} {c : Ct} {pos : Pos}
theorem EnvR.var {K : Frag} {F H : Hp} {σ : Sl} {ρ : Env} {O : List Addr} {i : Nat} {o : OV} (e : EnvR K c F H σ ρ O) (h : ρ[i]? = some (some o)) : ∃ v A, σ[i]? = some (some v) ∧ OwR K c.ca F H v o A := by
  obtain ⟨v, A, R, h1, h2, _⟩ := e.sl.at h
  exact ⟨v, A, h1, h2⟩
theorem se_var (i : Nat) {x : Str} (hN : X.N[i]? = some x := by rfl) (hv : Vis X.env.scope x := by first | exact Or.inl rfl | exact Or.inr (Or.inl rfl) | exact Or.inr (Or.inr rfl)) (hd : (x == ("__debug__" : Str)) = false := by decide)
    (hcd : (x == ("__classdict__" : Str)) = false := by decide) : PE X (.Name x pos) (te X.K c false true (mVar i)) := (pe_var hN hv hd hcd).imp fun σ H Q ⟨F, ρ, O, e, h⟩ => by
  unfold mVar at h
  cases q : ρ[i]? with
  | none => rw [q] at h; exact h.elim
  | some w =>
    rw [q] at h
    cases w with
    | none => exact h.elim
    | some o =>
      cases o with
      | d y =>
        obtain ⟨v, A, h1, h2⟩ := e.var q
        cases h2 with
        | d r => exact ⟨v, h1, h F H O v e (Same.refl _) (fun _ => Same.refl _) r⟩
      | lst _ => exact h.elim
      | dct _ => exact h.elim
      | dctT _ => exact h.elim
      | obj _ _ => exact h.elim
theorem se_look (i : Nat) {x : Str} (hN : X.N[i]? = some x := by rfl) (hv : Vis X.env.scope x := by first | exact Or.inl rfl | exact Or.inr (Or.inl rfl) | exact Or.inr (Or.inr rfl)) (hd : (x == ("__debug__" : Str)) = false := by decide)
    (hcd : (x == ("__classdict__" : Str)) = false := by decide) : PE X (.Name x pos) (te X.K c true true (mLook i)) := (pe_var hN hv hd hcd).imp fun σ H Q ⟨F, ρ, O, e, h⟩ => by
  unfold mLook at h
  cases q : ρ[i]? with
  | none => rw [q] at h; exact h.elim
  | some w =>
    rw [q] at h
    cases w with
    | none => exact h.elim
    | some o =>
      obtain ⟨y, h1, h2⟩ := post_ofO h
      obtain ⟨v, A, h3, h4⟩ := e.var q
      exact ⟨v, h3, h2 F H O v e (Same.refl _) (fun _ => Same.refl _) (h4.look h1)⟩
theorem se_c {e : Expr} {v : V} {x : D} (h : PE X e (tC v)) (r : ∀ F, Rp X.K F v x) : PE X e (te X.K c false true (mC x)) := h.imp fun σ H Q ⟨F, ρ, O, e, h⟩ => h F H O v e (Same.refl _) (fun _ => Same.refl _) (r F)
theorem se_int {i j} : PE X (.Constant (.int i) j pos) (te X.K c false true (mC (.int i))) := se_c pe_int fun _ => .int i
theorem se_bl {b j} : PE X (.Constant (.bool b) j pos) (te X.K c false true (mC (.bool b))) := se_c pe_bl fun _ => .bl b
theorem se_non {j} : PE X (.Constant .none j pos) (te X.K c false true (mC .none)) := se_c pe_non fun _ => .non
theorem se_str {x j} : PE X (.Constant (.str x) j pos) (te X.K c false true (mC (.str x))) := se_c pe_str fun _ => .str x
/-- the module's name for a text, a number -/
theorem se_gstr {x z : Str} (hm : ∃ t, X.mg x = some (.str z t)) (hg : Gl X x := by rfl) (hd : (x == ("__debug__" : Str)) = false := by decide) : PE X (.Name x pos) (te X.K c false true (mC (.str z))) := by
  obtain ⟨t, hm⟩ := hm
  exact se_c (v := .str z) (pe_glob hg hm ⟨t, rfl⟩ hd) fun _ => .str z
theorem se_gint {x : Str} {i : Int} (hm : ∃ t, X.mg x = some (.int i t)) (hg : Gl X x := by rfl) (hd : (x == ("__debug__" : Str)) = false := by decide) : PE X (.Name x pos) (te X.K c false true (mC (.int i))) := by
  obtain ⟨t, hm⟩ := hm
  exact se_c (v := .int i) (pe_glob hg hm ⟨t, rfl⟩ hd) fun _ => .int i
end

/-! ### operators -/
/-- an operator by data: what stands looked at, what comes new -/
def rD (K : Frag) (g : D → D → Option D) : R2 := fun v w H Q => ∃ F x y z, Same F H ∧ RpB K F H v x ∧ RpB K F H w y ∧ g x y = some z ∧ ∀ F' H' u, New F H F' H' → Rp K F' u z → Q u H'
def mBin (g : D → D → Option D) (a b : M D) : M D := fun ρ => (a ρ).bind fun x ρ1 => (b ρ1).bind fun y ρ2 => ofO (g x y) ρ2
section
variable {X : Cx} {c : Ct} {a b d : Expr} {pos : Pos} {ka kb kd pa pb pd : Bool} {ma mb md : M D} {g g' : D → D → Option D}
theorem bin_step {f : Value → Value → Sem Value} (hk : ka = true → pb = true) {σ : Sl} {H : Hp} {Q : VK} (h : te X.K c false (pa && pb) (mBin g ma mb) σ H Q) : tOp (rD X.K g) (te X.K c ka pa ma) (te X.K c kb pb mb) σ H Q := by
  obtain ⟨F, ρ, O, e, h⟩ := h
  refine te_step e h fun x ρ1 F1 H1 O1 v h1 e1 s1 p1 v1 => te_step e1 h1 fun y ρ2 F2 H2 O2 w h2 e2 s2 p2 v2 => ?_
  obtain ⟨z, hz, h3⟩ := post_ofO h2
  refine ⟨F2, x, y, z, e2.sub, v1.up s2 p2 hk, v2.up0, hz, fun F' H' u n r => h3 F' H' O2 u (e2.new n) ((s1.trans s2).trans n.fF) (fun hp => ?_) r⟩
  obtain ⟨h4, h5⟩ := Bool.and_eq_true_iff.mp hp
  exact ((p1 h4).trans (p2 h5)).trans n.hH
theorem se_bin {op : Operator} (ho : OpR X (binaryOp op) (rD X.K g)) (ha : PE X a (te X.K c ka pa ma)) (hb : PE X b (te X.K c kb pb mb)) (hk : ka = true → pb = true := by decide) :
    PE X (.BinOp a op b pos) (te X.K c false (pa && pb) (mBin g ma mb)) := (pe_op ho ha hb).imp fun σ H Q h => bin_step (f := binaryOp op) hk h
theorem se_cmp {op : CmpOp} (ho : OpR X (compareOp op) (rD X.K g)) (ha : PE X a (te X.K c ka pa ma)) (hb : PE X b (te X.K c kb pb mb)) (hk : ka = true → pb = true := by decide) (hm : behindInMarks op b = false := by first | exact nomark _ | rfl) :
    PE X (.Compare a [op] [b] pos) (te X.K c false (pa && pb) (mBin g ma mb)) := (pe_cmpR ho ha hb hm).imp fun σ H Q h => bin_step (f := compareOp op) hk h
/-- a value that is True or False, as a test -/
def mB (m : M D) : M Bool := fun ρ => (m ρ).bind fun x ρ1 => match x with
  | .bool b => .ok b ρ1
  | _ => .bad
theorem tb_step {σ : Sl} {H : Hp} {Q : Bool → Hp → Prop} (h : tt X.K c pa (mB ma) σ H Q) : tTest (te X.K c ka pa ma) σ H Q := by
  obtain ⟨F, ρ, O, e, h⟩ := h
  refine te_step e h fun x ρ1 F1 H1 O1 v h1 e1 s1 p1 v1 => ?_
  cases x with
  | bool b =>
    have r := v1.up0
    cases r with
    | d r => cases r; exact ⟨b, rfl, h1 F1 H1 O1 e1 s1 p1⟩
  | _ => exact h1.elim
theorem st_cmp {op : CmpOp} (ho : OpR X (compareOp op) (rD X.K g)) (ha : PE X a (te X.K c ka pa ma)) (hb : PE X b (te X.K c kb pb mb)) (hk : ka = true → pb = true := by decide) (hm : behindInMarks op b = false := by first | exact nomark _ | rfl) :
    PT X (.Compare a [op] [b] pos) (tt X.K c (pa && pb) (mB (mBin g ma mb))) := (pt_cmpR ho ha hb hm).imp fun σ H Q h => by
  have q := tb_step (ka := false) h
  obtain ⟨F, ρ, O, e, q⟩ := q
  exact bin_step (f := compareOp op) hk ⟨F, ρ, O, e, q⟩
theorem st_val {e : Expr} (h : PE X e (te X.K c ka pa ma)) (he : ∀ whole, isTrue e X.env whole = (do let v ← whole; standAt e.pos; holding [v] (truthy v)) := by intro _; rfl) : PT X e (tt X.K c pa (mB ma)) :=
  (pt_val h he).imp fun σ H Q q => tb_step q
/-- a chain of two -/
def mChain (g g' : D → D → Option D) (a b d : M D) : M D := fun ρ => (a ρ).bind fun x ρ1 => (b ρ1).bind fun y ρ2 => match g x y with
  | some (.bool true) => (d ρ2).bind fun z ρ3 => ofO (g' y z) ρ3
  | some (.bool false) => .ok (.bool false) ρ2
  | _ => .bad
theorem chain_step (hk : ka = true → pb = true) (hk' : kb = true → pd = true) {σ : Sl} {H : Hp} {Q : VK} (h : te X.K c false (pa && pb && pd) (mChain g g' ma mb md) σ H Q) : tChain (rD X.K g) (rD X.K g') (te X.K c ka pa ma) (te X.K c kb pb mb) (te X.K c kd pd md) σ H Q := by
  obtain ⟨F, ρ, O, e, h⟩ := h
  refine te_step e h fun x ρ1 F1 H1 O1 v h1 e1 s1 p1 v1 => te_step e1 h1 fun y ρ2 F2 H2 O2 w h2 e2 s2 p2 v2 => ?_
  cases gz : g x y with
  | none => rw [gz] at h2; exact h2.elim
  | some z =>
    rw [gz] at h2
    cases z with
    | bool k =>
      refine ⟨F2, x, y, .bool k, e2.sub, v1.up s2 p2 hk, v2.up0, gz, fun F' H' u n r => ?_⟩
      cases r
      refine ⟨k, rfl, ?_⟩
      have e2' := e2.new n
      cases k with
      | false =>
        rw [if_neg Bool.false_ne_true]
        refine h2 F' H' O2 _ e2' ((s1.trans s2).trans n.fF) (fun hp => ?_) (.bl false)
        obtain ⟨h4, h5⟩ := Bool.and_eq_true_iff.mp (Bool.and_eq_true_iff.mp hp).1
        exact ((p1 h4).trans (p2 h5)).trans n.hH
      | true =>
        rw [if_pos rfl]
        refine te_step e2' h2 fun z ρ3 F3 H3 O3 w' h3 e3 s3 p3 v3 => ?_
        obtain ⟨z', hz, h4⟩ := post_ofO h3
        refine ⟨F3, y, z, z', e3.sub, ?_, v3.up0, hz, fun F4 H4 u n4 r => h4 F4 H4 O3 u (e3.new n4) ((((s1.trans s2).trans n.fF).trans s3).trans n4.fF) (fun hp => ?_) r⟩
        · exact Val.up (pu := pd) v2 (n.fF.trans s3) (fun q => n.hH.trans (p3 q)) hk'
        · obtain ⟨q1, q2⟩ := Bool.and_eq_true_iff.mp hp
          obtain ⟨q3, q4⟩ := Bool.and_eq_true_iff.mp q1
          exact ((((p1 q3).trans (p2 q4)).trans n.hH).trans (p3 q2)).trans n4.hH
    | _ => exact h2.elim
theorem se_chain {op op' : CmpOp} (ho : OpR X (compareOp op) (rD X.K g)) (ho' : OpR X (compareOp op') (rD X.K g')) (ha : PE X a (te X.K c ka pa ma)) (hb : PE X b (te X.K c kb pb mb)) (hd : PE X d (te X.K c kd pd md))
    (hk : ka = true → pb = true := by decide) (hk' : kb = true → pd = true := by decide) (hm : lastMarks [op, op'] [b, d] = false := by with_unfolding_all rfl) : PE X (.Compare a [op, op'] [b, d] pos) (te X.K c false (pa && pb && pd) (mChain g g' ma mb md)) :=
  (pe_chain ho ho' ha hb hd hm).imp fun σ H Q h => chain_step hk hk' h
theorem st_chain {op op' : CmpOp} (ho : OpR X (compareOp op) (rD X.K g)) (ho' : OpR X (compareOp op') (rD X.K g')) (ha : PE X a (te X.K c ka pa ma)) (hb : PE X b (te X.K c kb pb mb)) (hd : PE X d (te X.K c kd pd md))
    (hk : ka = true → pb = true := by decide) (hk' : kb = true → pd = true := by decide) (hm : lastMarks [op, op'] [b, d] = false := by with_unfolding_all rfl) : PT X (.Compare a [op, op'] [b, d] pos) (tt X.K c (pa && pb && pd) (mB (mChain g g' ma mb md))) :=
  (pt_chain ho ho' ha hb hd hm).imp fun σ H Q h => chain_step hk hk' (tb_step (ka := false) h)
end

/-! ### and, or, not, if else -/
def mAnd (a b : M Bool) : M Bool := fun ρ => (a ρ).bind fun x ρ1 => if x = true then b ρ1 else .ok false ρ1
def mOr (a b : M Bool) : M Bool := fun ρ => (a ρ).bind fun x ρ1 => if x = true then .ok true ρ1 else b ρ1
def mNot (a : M Bool) : M Bool := fun ρ => (a ρ).bind fun x ρ1 => .ok (!x) ρ1
/-- a test's answer as a value -/
def mV (a : M Bool) : M D := fun ρ => (a ρ).bind fun x ρ1 => .ok (.bool x) ρ1
def mAndV (a b : M D) : M D := fun ρ => (a ρ).bind fun x ρ1 => match x with
  | .bool true => b ρ1
  | .bool false => .ok (.bool false) ρ1
  | _ => .bad
def mOrV (a b : M D) : M D := fun ρ => (a ρ).bind fun x ρ1 => match x with
  | .bool true => .ok (.bool true) ρ1
  | .bool false => b ρ1
  | _ => .bad
def mNotV (a : M D) : M D := fun ρ => (a ρ).bind fun x ρ1 => match x with
  | .bool b => .ok (.bool (!b)) ρ1
  | _ => .bad
def mIf {α : Type} (t : M Bool) (a b : M α) : M α := fun ρ => (t ρ).bind fun x ρ1 => if x = true then a ρ1 else b ρ1
section
variable {X : Cx} {c : Ct} {a b d : Expr} {rest : List Expr} {pos : Pos} {ka kb kd pa pb pd : Bool} {ma mb md : M D} {ta tb' : M Bool}
theorem st_and1 (ha : PT X a (tt X.K c pa ta)) : PW X (.BoolOp .And [a] pos) (tt X.K c pa ta) := pw_and1 ha
theorem st_or1 (ha : PT X a (tt X.K c pa ta)) : PW X (.BoolOp .Or [a] pos) (tt X.K c pa ta) := pw_or1 ha
theorem _root_.L2.PW.imp {X : Cx} {e : Expr} {t t' : TT} (h : PW X e t) (k : ∀ σ H Q, t' σ H Q → t σ H Q) : PW X e t' := ⟨fun wh pins s σ H Q I q => h.run wh pins s σ H Q I (k σ H Q q)⟩
theorem and_p {p q : Bool} {H H1 H2 : Hp} (p1 : p = true → Same H H1) (p2 : q = true → Same H1 H2) (h : (p && q) = true) : Same H H2 := by
  obtain ⟨h4, h5⟩ := Bool.and_eq_true_iff.mp h
  exact (p1 h4).trans (p2 h5)
theorem st_and (ha : PT X a (tt X.K c pa ta)) (hb : PW X (.BoolOp .And (b :: rest) pos) (tt X.K c pb tb')) : PW X (.BoolOp .And (a :: b :: rest) pos) (tt X.K c (pa && pb) (mAnd ta tb')) := (pw_and ha hb).imp fun σ H Q ⟨F, ρ, O, e, h⟩ => by
  refine tt_step e h fun x ρ1 F1 H1 O1 h1 e1 s1 p1 => ?_
  cases x with
  | true =>
    rw [if_pos rfl] at h1 ⊢
    exact ⟨F1, ρ1, O1, e1, Res.post_imp h1 (fun b ρ2 h2 F2 H2 O2 e2 s2 p2 => h2 F2 H2 O2 e2 (s1.trans s2) (and_p p1 p2)) fun _ _ h => h⟩
  | false =>
    rw [if_neg Bool.false_ne_true] at h1 ⊢
    exact h1 F1 H1 O1 e1 s1 fun hp => p1 (Bool.and_eq_true_iff.mp hp).1
theorem st_or (ha : PT X a (tt X.K c pa ta)) (hb : PW X (.BoolOp .Or (b :: rest) pos) (tt X.K c pb tb')) : PW X (.BoolOp .Or (a :: b :: rest) pos) (tt X.K c (pa && pb) (mOr ta tb')) := (pw_or ha hb).imp fun σ H Q ⟨F, ρ, O, e, h⟩ => by
  refine tt_step e h fun x ρ1 F1 H1 O1 h1 e1 s1 p1 => ?_
  cases x with
  | true =>
    rw [if_pos rfl] at h1 ⊢
    exact h1 F1 H1 O1 e1 s1 fun hp => p1 (Bool.and_eq_true_iff.mp hp).1
  | false =>
    rw [if_neg Bool.false_ne_true] at h1 ⊢
    exact ⟨F1, ρ1, O1, e1, Res.post_imp h1 (fun b ρ2 h2 F2 H2 O2 e2 s2 p2 => h2 F2 H2 O2 e2 (s1.trans s2) (and_p p1 p2)) fun _ _ h => h⟩
theorem st_not (ha : PT X a (tt X.K c pa ta)) : PT X (.UnaryOp .Not a pos) (tt X.K c pa (mNot ta)) := (pt_not ha).imp fun σ H Q ⟨F, ρ, O, e, h⟩ =>
  tt_step e h fun x ρ1 F1 H1 O1 h1 e1 s1 p1 => h1 F1 H1 O1 e1 s1 p1
theorem bval {K : Frag} {k : Bool} {F H : Hp} {v : V} {b : Bool} (h : Val K k F H v (.bool b)) : v = .bl b := by
  have r := h.up0
  cases r with
  | d r => cases r; rfl
theorem se_and (ha : PE X a (te X.K c ka pa ma)) (hb : PE X (.BoolOp .And (b :: rest) pos) (te X.K c false pb mb)) : PE X (.BoolOp .And (a :: b :: rest) pos) (te X.K c false (pa && pb) (mAndV ma mb)) := (pe_and ha hb).imp fun σ H Q ⟨F, ρ, O, e, h⟩ => by
  refine te_step e h fun x ρ1 F1 H1 O1 v h1 e1 s1 p1 v1 => ?_
  cases x with
  | bool k =>
    refine ⟨k, bval v1, ?_⟩
    cases k with
    | true =>
      rw [if_pos rfl]
      exact ⟨F1, ρ1, O1, e1, Res.post_imp h1 (fun b ρ2 h2 F2 H2 O2 v2 e2 s2 p2 => h2 F2 H2 O2 v2 e2 (s1.trans s2) (and_p p1 p2)) fun _ _ h => h⟩
    | false =>
      rw [if_neg Bool.false_ne_true]
      exact h1 F1 H1 O1 _ e1 s1 (fun hp => p1 (Bool.and_eq_true_iff.mp hp).1) (.bl false)
  | _ => exact h1.elim
theorem se_or (ha : PE X a (te X.K c ka pa ma)) (hb : PE X (.BoolOp .Or (b :: rest) pos) (te X.K c false pb mb)) : PE X (.BoolOp .Or (a :: b :: rest) pos) (te X.K c false (pa && pb) (mOrV ma mb)) := (pe_or ha hb).imp fun σ H Q ⟨F, ρ, O, e, h⟩ => by
  refine te_step e h fun x ρ1 F1 H1 O1 v h1 e1 s1 p1 v1 => ?_
  cases x with
  | bool k =>
    refine ⟨k, bval v1, ?_⟩
    cases k with
    | false =>
      rw [if_neg Bool.false_ne_true]
      exact ⟨F1, ρ1, O1, e1, Res.post_imp h1 (fun b ρ2 h2 F2 H2 O2 v2 e2 s2 p2 => h2 F2 H2 O2 v2 e2 (s1.trans s2) (and_p p1 p2)) fun _ _ h => h⟩
    | true =>
      rw [if_pos rfl]
      exact h1 F1 H1 O1 _ e1 s1 (fun hp => p1 (Bool.and_eq_true_iff.mp hp).1) (.bl true)
  | _ => exact h1.elim
theorem se_one {op} (ha : PE X a (te X.K c false pa ma)) : PE X (.BoolOp op [a] pos) (te X.K c false pa ma) := pe_one ha
theorem se_not (ha : PE X a (te X.K c ka pa ma)) : PE X (.UnaryOp .Not a pos) (te X.K c false pa (mNotV ma)) := (pe_not ha).imp fun σ H Q ⟨F, ρ, O, e, h⟩ => by
  refine te_step e h fun x ρ1 F1 H1 O1 v h1 e1 s1 p1 v1 => ?_
  cases x with
  | bool k => exact ⟨k, bval v1, h1 F1 H1 O1 _ e1 s1 p1 (.bl _)⟩
  | _ => exact h1.elim
theorem ifs_in {α : Type} {x : Bool} {A B : Res α} {P : α → Env → Prop} {E : Exc → Env → Prop} (h : (if x = true then A else B).post P E) : (x = true → A.post P E) ∧ (x = false → B.post P E) := by
  cases x with
  | true => exact ⟨fun _ => h, fun q => nomatch q⟩
  | false => exact ⟨(fun q => nomatch q), fun _ => h⟩
theorem se_if (ht : PT X d (tt X.K c pd ta)) (ha : PE X a (te X.K c ka pa ma)) (hb : PE X b (te X.K c ka pb mb)) : PE X (.IfExp d a b pos) (te X.K c ka (pd && (pa && pb)) (mIf ta ma mb)) := (pe_ifExp ht ha hb).imp fun σ H Q ⟨F, ρ, O, e, h⟩ => by
  refine tt_step e h fun x ρ1 F1 H1 O1 h1 e1 s1 p1 => ?_
  obtain ⟨ht, hf⟩ := ifs_in h1
  cases x with
  | true =>
    rw [if_pos rfl]
    exact ⟨F1, ρ1, O1, e1, Res.post_imp (ht rfl) (fun b ρ2 h2 F2 H2 O2 v2 e2 s2 p2 => h2 F2 H2 O2 v2 e2 (s1.trans s2) (and_p p1 fun q => p2 (Bool.and_eq_true_iff.mp q).1)) fun _ _ h => h⟩
  | false =>
    rw [if_neg Bool.false_ne_true]
    exact ⟨F1, ρ1, O1, e1, Res.post_imp (hf rfl) (fun b ρ2 h2 F2 H2 O2 v2 e2 s2 p2 => h2 F2 H2 O2 v2 e2 (s1.trans s2) (and_p p1 fun q => p2 (Bool.and_eq_true_iff.mp q).2)) fun _ _ h => h⟩
end
end DL
end
section
set_option maxRecDepth 100000
set_option maxHeartbeats 2000000
/-! The functional layer, part 3: displays, freezing, calls of own defs, statements, a def's rule. -/
namespace DL
open PySem PySem.Spec PyProof.Rows L2
/-! ### argument lists of data -/
def PAs (K : Frag) (c : Ct) (pu : Bool) (F H : Hp) (σ : Sl) (Q : List V → Hp → Prop) (xs : List D) (ρ' : Env) : Prop :=
  ∀ F' H' O' vs, EnvR K c F' H' σ ρ' O' → Same F F' → (pu = true → Same H H') → RpAll K F' vs xs → Q vs H'
def ta (K : Frag) (c : Ct) (pu : Bool) (m : M (List D)) : TA := fun σ H Q => ∃ F ρ O, EnvR K c F H σ ρ O ∧ (m ρ).post (PAs K c pu F H σ Q) (PX K c σ)
def mNil : M (List D) := fun ρ => .ok [] ρ
def mCons (a : M D) (r : M (List D)) : M (List D) := fun ρ => (a ρ).bind fun x ρ1 => (r ρ1).bind fun xs ρ2 => .ok (x :: xs) ρ2
structure SA (X : Cx) (c : Ct) (es : List Expr) (pu : Bool) (m : M (List D)) : Prop where
  pa : PA X es (ta X.K c pu m)
  len : ∀ ρ xs ρ', m ρ = .ok xs ρ' → xs.length = es.length
section
variable {X : Cx} {c : Ct} {e : Expr} {es : List Expr} {pos : Pos} {p1 p2 pu : Bool} {me : M D} {ms : M (List D)}
theorem sa_nil : SA X c [] true mNil := ⟨pa_nil.imp fun σ H Q ⟨F, ρ, O, e, h⟩ => h F H O [] e (Same.refl _) (fun _ => Same.refl _) .nil, fun ρ xs ρ' h => by cases h; rfl⟩
theorem ta_step {K : Frag} {α : Type} {F H : Hp} {σ : Sl} {ρ : Env} {O : List Addr} {m : M (List D)} {k : List D → Env → Res α} {P : α → Env → Prop} {Q : List V → Hp → Prop} (e : EnvR K c F H σ ρ O) (h : ((m ρ).bind k).post P (PX K c σ))
    (q : ∀ x ρ1 F1 H1 O1 v, m ρ = .ok x ρ1 → (k x ρ1).post P (PX K c σ) → EnvR K c F1 H1 σ ρ1 O1 → Same F F1 → (pu = true → Same H H1) → RpAll K F1 v x → Q v H1) : ta K c pu m σ H Q := by
  refine ⟨F, ρ, O, e, ?_⟩
  have z := Res.post_bind h
  cases r : m ρ with
  | ok x ρ1 => rw [r] at z; exact fun F1 H1 O1 v e1 s1 p1 r1 => q x ρ1 F1 H1 O1 v r z e1 s1 p1 r1
  | ex ξ ρ1 => rw [r] at z; exact z
  | bad => rw [r] at z; exact z
theorem sa_cons (ha : PE X e (te X.K c false p1 me)) (hr : SA X c es p2 ms) (hs : starEach (e :: es) X.env = (false, eval e X.env) :: starEach es X.env := by rfl) : SA X c (e :: es) (p1 && p2) (mCons me ms) := by
  refine ⟨(pa_cons ha hr.pa hs).imp fun σ H Q ⟨F, ρ, O, e, h⟩ => te_step e h fun x ρ1 F1 H1 O1 v h1 e1 s1 q1 v1 => ?_, fun ρ xs ρ' h => ?_⟩
  · refine ta_step e1 h1 fun xs ρ2 F2 H2 O2 vs _ h2 e2 s2 q2 v2 => ?_
    exact h2 F2 H2 O2 _ e2 (s1.trans s2) (and_p q1 q2) (.cons (Rp.mono s2 v1) v2)
  · unfold mCons at h
    cases h1 : me ρ with
    | ok x ρ1 =>
      rw [h1] at h
      have h : ((ms ρ1).bind fun xs ρ2 => .ok (x :: xs) ρ2) = .ok xs ρ' := h
      cases h2 : ms ρ1 with
      | ok ys ρ2 =>
        rw [h2] at h
        have h : Res.ok (x :: ys) ρ2 = .ok xs ρ' := h
        cases h
        rw [List.length_cons, List.length_cons, hr.len _ _ _ h2]
      | ex _ _ => rw [h2] at h; cases h
      | bad => rw [h2] at h; cases h
    | ex _ _ => rw [h1] at h; cases h
    | bad => rw [h1] at h; cases h
end

/-! ### displays -/
theorem few {es : List Expr} (h : es.length ≤ 1000) : es.length ≤ sizeLine := Nat.le_of_lt (small1000 h)
def mTup (m : M (List D)) : M D := fun ρ => (m ρ).bind fun xs ρ1 => .ok (.tuple xs) ρ1
def mLst (m : M (List D)) : M OV := fun ρ => (m ρ).bind fun xs ρ1 => .ok (.lst xs) ρ1
section
variable {X : Cx} {c : Ct} {e : Expr} {es : List Expr} {pos : Pos} {p1 p2 pu : Bool} {me : M D} {ms : M (List D)} {mo : M OV}
theorem EnvR.apart {K : Frag} {F H : Hp} {σ : Sl} {ρ : Env} {O : List Addr} (e : EnvR K c F H σ ρ O) {p : Addr} (h : H p = none) : Apart c F [p] O := by
  refine ⟨?_, fun q hq => ?_⟩
  · rw [List.singleton_append, List.nodup_cons]
    exact ⟨fun hm => e.sl.there p hm h, e.nd⟩
  · rw [List.mem_singleton] at hq
    subst hq
    refine ⟨e.sub.free h, ?_⟩
    by_cases hc : q ∈ c.O
    · exact .inl hc
    · refine .inr ?_
      cases z : c.H q with
      | none => rfl
      | some o => rw [e.h0 q o z hc] at h; cases h
theorem Apart.new {F H F' H' : Hp} {A O : List Addr} (a : Apart c F A O) (n : New F H F' H') (t : ∀ b ∈ A, H b ≠ none) : Apart c F' A O := ⟨a.nd, fun p hp => ⟨n.nw p (t p hp) (a.ow p hp).1, (a.ow p hp).2⟩⟩
theorem se_tup {k : Nat} (h : SA X c es pu ms) (hl : es.length ≤ 1000 := by exact Nat.le_of_ble_eq_true rfl) : PE X (.Tuple es k pos) (te X.K c false pu (mTup ms)) := (pe_tup h.pa).imp fun σ H Q ⟨F, ρ, O, e, h1⟩ => by
  refine ta_step e h1 fun xs ρ1 F1 H1 O1 vs hm h2 e1 s1 p1 v1 => ⟨by rw [v1.length, h.len _ _ _ hm]; exact few hl, fun p hp => ?_⟩
  have n := New.one e1.sub hp (.tup vs)
  exact h2 _ _ O1 _ (e1.new n) (s1.trans n.fF) (fun q => (p1 q).trans n.hH) (.tup (.of upd_same) (v1.mono n.fF))
theorem so_lst (h : SA X c es pu ms) (hl : es.length ≤ 1000 := by exact Nat.le_of_ble_eq_true rfl) : PE X (.List es pos) (to X.K c (mLst ms)) := (pe_lst h.pa).imp fun σ H Q ⟨F, ρ, O, e, h1⟩ => by
  refine ta_step e h1 fun xs ρ1 F1 H1 O1 vs hm h2 e1 s1 p1 v1 => ⟨by rw [v1.length, h.len _ _ _ hm]; exact few hl, fun p hp => ?_⟩
  have n := New.own e1.sub hp (.lst vs)
  exact h2 _ _ O1 [p] _ (e1.new n) s1 (.lst upd_same v1) (e1.apart hp)
/-- the same, frozen at once: nothing owned changes -/
theorem se_lst (h : SA X c es pu ms) (hl : es.length ≤ 1000 := by exact Nat.le_of_ble_eq_true rfl) : PE X (.List es pos) (te X.K c false pu (fun ρ => (ms ρ).bind fun xs ρ1 => .ok (.list xs) ρ1)) := (pe_lst h.pa).imp fun σ H Q ⟨F, ρ, O, e, h1⟩ => by
  refine ta_step e h1 fun xs ρ1 F1 H1 O1 vs hm h2 e1 s1 p1 v1 => ⟨by rw [v1.length, h.len _ _ _ hm]; exact few hl, fun p hp => ?_⟩
  have n := New.one e1.sub hp (.lst vs)
  exact h2 _ _ O1 _ (e1.new n) (s1.trans n.fF) (fun q => (p1 q).trans n.hH) (.lst upd_same (v1.mono n.fF))
end
def mLstF (m : M (List D)) : M D := fun ρ => (m ρ).bind fun xs ρ1 => .ok (.list xs) ρ1

/-! ### freezing -/
def frzF (F H : Hp) (A : List Addr) : Hp := fun b => if b ∈ A then H b else F b
theorem frz_in {F H : Hp} {A : List Addr} {b : Addr} (h : b ∈ A) : frzF F H A b = H b := if_pos h
theorem frz_out {F H : Hp} {A : List Addr} {b : Addr} (h : b ∉ A) : frzF F H A b = F b := if_neg h
section
variable {K : Frag} {c : Ct} {F H : Hp} {σ : Sl} {ρ : Env} {O A : List Addr}
theorem frz_same (h : ∀ p ∈ A, F p = none) : Same F (frzF F H A) := fun b u q => by
  by_cases hb : b ∈ A
  · rw [h b hb] at q; cases q
  · rw [frz_out hb]; exact q
theorem EnvR.frz (e : EnvR K c F H σ ρ O) (a : Apart c F A O) : EnvR K c (frzF F H A) H σ ρ O where
  sub := fun b u q => by
    by_cases hb : b ∈ A
    · rw [frz_in hb] at q; exact q
    · rw [frz_out hb] at q; exact e.sub b u q
  f0 := e.f0.trans (frz_same fun p hp => (a.ow p hp).1)
  h0 := e.h0
  n0 := fun b h1 h2 h3 => by
    by_cases hb : b ∈ A
    · rcases (a.ow b hb).2 with z | z
      · exact absurd z h2
      · exact absurd z h1
    · rw [frz_out hb]; exact e.n0 b h1 h2 h3
  sl := e.sl.mono (frz_same fun p hp => (a.ow p hp).1) fun _ _ => rfl
  nd := e.nd
  ow := fun p hp => by
    have hb : p ∉ A := fun z => (List.nodup_append.mp a.nd).2.2 p z p hp rfl
    rw [frz_out hb]
    exact e.ow p hp
  fx := e.fx
theorem OwR.frz {v : V} {o : OV} {x : D} (h : OwR K c.ca F H v o A) (e : o.frz = some x) (hA : ∀ p ∈ A, F p = none) : Rp K (frzF F H A) v x := by
  have s : Same F (frzF F H A) := frz_same hA
  cases h with
  | d r => cases e; exact r.mono s
  | lst h r => cases e; exact .lst ((frz_in (List.mem_singleton_self _)).trans h) (r.mono s)
  | dcK h r => cases e
  | dcT h r => cases e
  | obj _ _ _ => cases e
end
def mFrz (m : M OV) : M D := fun ρ => (m ρ).bind fun o ρ1 => ofO o.frz ρ1
/-- a name's owned thing is handed over: the name keeps it as data -/
def mFrzV (i : Nat) : M D := fun ρ => match ρ[i]? with
  | some (some o) => match o.frz with
    | some x => .ok x (ρ.set i (some (.d x)))
    | none => .bad
  | _ => .bad
/-- a name's thing goes, the name forgotten -/
def mMove (i : Nat) : M OV := fun ρ => match ρ[i]? with
  | some (some o) => .ok o (ρ.set i none)
  | _ => .bad
def mD (m : M D) : M OV := fun ρ => (m ρ).bind fun x ρ1 => .ok (.d x) ρ1
section
variable {X : Cx} {c : Ct} {e : Expr} {pos : Pos} {pu : Bool} {me : M D} {mo : M OV}
theorem se_frz (h : PE X e (to X.K c mo)) : PE X e (te X.K c false false (mFrz mo)) := h.imp fun σ H Q ⟨F, ρ, O, e, h1⟩ => by
  refine to_step e h1 fun o ρ1 F1 H1 O1 A v h2 e1 s1 r1 a1 => ?_
  obtain ⟨x, h3, h4⟩ := post_ofO h2
  exact h4 _ _ O1 v (e1.frz a1) (s1.trans (frz_same fun p hp => (a1.ow p hp).1)) (fun q => nomatch q) (r1.frz h3 fun p hp => (a1.ow p hp).1)
theorem so_d (h : PE X e (te X.K c false pu me)) : PE X e (to X.K c (mD me)) := h.imp fun σ H Q ⟨F, ρ, O, e, h1⟩ =>
  te_step e h1 fun x ρ1 F1 H1 O1 v h2 e1 s1 p1 v1 => h2 F1 H1 O1 [] v e1 s1 (.d v1) ⟨e1.nd, fun _ hp => by simp at hp⟩
theorem set_self {α : Type} : ∀ {l : List α} {i : Nat} {x : α}, l[i]? = some x → l.set i x = l
  | [], _, _, h => by simp at h
  | a :: l, 0, x, h => by simp at h; subst h; rfl
  | a :: l, i + 1, x, h => by rw [List.set_cons_succ, set_self (l := l) (by simpa using h)]
theorem EnvR.take {K : Frag} {F H : Hp} {σ : Sl} {ρ : Env} {O : List Addr} {i : Nat} {o : OV} (e : EnvR K c F H σ ρ O) (h : ρ[i]? = some (some o)) :
    ∃ v A R, σ[i]? = some (some v) ∧ OwR K c.ca F H v o A ∧ Apart c F A R ∧ EnvR K c F H σ (ρ.set i none) R ∧ (∀ p ∈ A ++ R, p ∈ O) := by
  obtain ⟨v, A, R, h1, h2, h3, h4⟩ := e.sl.at h
  obtain ⟨k1, k2⟩ := h4 F H (Same.refl _) fun _ _ => rfl
  have mem : ∀ p ∈ A ++ R, p ∈ O := fun p hp => h3.mem_iff.mpr hp
  have nd : (A ++ R).Nodup := h3.nodup_iff.mp e.nd
  exact ⟨v, A, R, h1, h2, ⟨nd, fun p hp => e.ow p (mem p (by simp [hp]))⟩, ⟨e.sub, e.f0, e.h0, e.n0, k1, (List.nodup_append.mp nd).2.1, fun p hp => e.ow p (mem p (by simp [hp])), e.fx⟩, mem⟩
theorem so_move (i : Nat) {x : Str} (hN : X.N[i]? = some x := by rfl) (hv : Vis X.env.scope x := by first | exact Or.inl rfl | exact Or.inr (Or.inl rfl) | exact Or.inr (Or.inr rfl)) (hd : (x == ("__debug__" : Str)) = false := by decide)
    (hcd : (x == ("__classdict__" : Str)) = false := by decide) : PE X (.Name x pos) (to X.K c (mMove i)) := (pe_var hN hv hd hcd).imp fun σ H Q ⟨F, ρ, O, e, h⟩ => by
  unfold mMove at h
  cases q : ρ[i]? with
  | none => rw [q] at h; exact h.elim
  | some w =>
    rw [q] at h
    cases w with
    | none => exact h.elim
    | some o =>
      obtain ⟨v, A, R, h1, h2, h3, h4, _⟩ := e.take q
      exact ⟨v, h1, h F H R A v h4 (Same.refl _) h2 h3⟩
/-- the slot i set anew from what was apart -/
theorem EnvR.put {K : Frag} {F H : Hp} {σ : Sl} {ρ : Env} {O A : List Addr} {i : Nat} {o : OV} {v : V} (e : EnvR K c F H σ ρ O) (r : OwR K c.ca F H v o A) (a : Apart c F A O) (hi : i < σ.length) (hf : (c.fx.all fun j => j != i) = true) :
    ∃ O', EnvR K c F H (σ.set i (some v)) (ρ.set i (some o)) O' := by
  obtain ⟨R, h1, h2, _, h4⟩ := e.sl.put (i := i) hi
  obtain ⟨O', k1, k2⟩ := h4 v o A r
  obtain ⟨n1, n2, n3⟩ := List.nodup_append.mp a.nd
  have nd : (A ++ R).Nodup := List.nodup_append.mpr ⟨n1, h2 n2, fun x hx y hy => n3 x hx y (h1 y hy)⟩
  refine ⟨O', e.sub, e.f0, e.h0, e.n0, k1, k2.nodup_iff.mpr nd, fun p hp => ?_, fun j hj => ?_⟩
  · rcases List.mem_append.mp (k2.mem_iff.mp hp) with z | z
    · exact a.ow p z
    · exact e.ow p (h1 p z)
  · have z := List.all_eq_true.mp hf j hj
    have z : j ≠ i := by simpa using z
    rw [List.getElem?_set_ne (Ne.symm z)]
    exact e.fx j hj
theorem EnvR.putD {K : Frag} {F H : Hp} {σ : Sl} {ρ : Env} {O : List Addr} {i : Nat} {x : D} {v : V} (e : EnvR K c F H σ ρ O) (r : Rp K F v x) (hi : i < σ.length) (hf : (c.fx.all fun j => j != i) = true) :
    ∃ O', EnvR K c F H (σ.set i (some v)) (ρ.set i (some (.d x))) O' := e.put (.d r) ⟨e.nd, fun _ hp => by simp at hp⟩ hi hf
/-- the slot as it stands, its thing frozen -/
theorem se_frzv (i : Nat) {x : Str} (hN : X.N[i]? = some x := by rfl) (hv : Vis X.env.scope x := by first | exact Or.inl rfl | exact Or.inr (Or.inl rfl) | exact Or.inr (Or.inr rfl)) (hd : (x == ("__debug__" : Str)) = false := by decide)
    (hcd : (x == ("__classdict__" : Str)) = false := by decide) : PE X (.Name x pos) (te X.K c false true (mFrzV i)) := (pe_var hN hv hd hcd).imp fun σ H Q ⟨F, ρ, O, e, h⟩ => by
  unfold mFrzV at h
  cases q : ρ[i]? with
  | none => rw [q] at h; exact h.elim
  | some w =>
    rw [q] at h
    cases w with
    | none => exact h.elim
    | some o =>
      cases l : o.frz with
      | none => simp only [l] at h; exact h.elim
      | some y =>
        simp only [l] at h
        obtain ⟨v, A, R, h1, h2, h3, h4, _⟩ := e.take q
        have e2 := h4.frz h3
        have r2 := h2.frz l fun p hp => (h3.ow p hp).1
        obtain ⟨R', k1, k2, _, k4⟩ := e2.sl.put (i := i) (List.getElem?_eq_some_iff.mp h1).1
        obtain ⟨O', k5, k6⟩ := k4 v (.d y) [] (.d r2)
        rw [set_self h1, List.set_set] at k5
        refine ⟨v, h1, h _ H O' v ⟨e2.sub, e2.f0, e2.h0, e2.n0, k5, k6.nodup_iff.mpr (k2 e2.nd), fun p hp => e2.ow p (k1 p (k6.mem_iff.mp hp)), e2.fx⟩ (frz_same fun p hp => (h3.ow p hp).1) (fun _ => Same.refl _) r2⟩
end

/-! ### own defs -/
inductive Rf where
  | ok (r : OV) (outs : Env)
  | ex (ξ : Exc)
  | bad
abbrev Fn := List OV → Rf
structure FnEnd (F H : Hp) (O : List Addr) (F' H' : Hp) : Prop where
  fF : Same F F'
  sub : Same F' H'
  hH : ∀ b o, H b = some o → b ∉ O → H' b = some o
  nw : ∀ b, H b ≠ none → b ∉ O → F b = none → F' b = none
/-- the promise of a def that computes f -/
def spF (K : Frag) (ca : Str → Addr) (f : Fn) : Sp := fun vs H Q E => ∃ F os O, Same F H ∧ SlR K ca F H (vs.map some) (os.map some) O ∧ O.Nodup ∧ (∀ p ∈ O, F p = none) ∧
  match f os with
  | .ok r outs => ∀ F' H' v A B, FnEnd F H O F' H' → SlR K ca F' H' (vs.map some) outs B → OwR K ca F' H' v r A → (A ++ B).Nodup → (∀ p ∈ A ++ B, F' p = none ∧ (p ∈ O ∨ H p = none)) → Q v H'
  | .ex ξ => ∀ F' H' cls d, FnEnd F H O F' H' → XR K ca F' H' cls d ξ → E cls d H'
  | .bad => False
/-- an argument: data, or a name's owned thing, lent -/
inductive AV where
  | d (x : D) | o (i : Nat)
def gather : Env → List AV → Option (List OV × Env)
  | ρ, [] => some ([], ρ)
  | ρ, .d x :: r => (gather ρ r).map fun z => (.d x :: z.1, z.2)
  | ρ, .o i :: r => match ρ[i]? with
    | some (some o) => (gather (ρ.set i none) r).map fun z => (o :: z.1, z.2)
    | _ => none
def putBack : Env → List AV → Env → Env
  | ρ, .d _ :: r, _ :: s => putBack ρ r s
  | ρ, .o i :: r, o :: s => putBack (ρ.set i o) r s
  | ρ, _, _ => ρ
def callRf (avs : List AV) (ρ2 : Env) (r : Rf) : Res OV := match r with
  | .ok r outs => .ok r (putBack ρ2 avs outs)
  | .ex ξ => .ex ξ ρ2
  | .bad => .bad
def callEnd (f : Fn) (avs : List AV) (z : Option (List OV × Env)) : Res OV := match z with
  | none => .bad
  | some y => callRf avs y.2 (f y.1)
def mCall (f : Fn) (m : M (List AV)) : M OV := fun ρ => (m ρ).bind fun avs ρ1 => callEnd f avs (gather ρ1 avs)
inductive AvAll (K : Frag) (F : Hp) (σ : Sl) : List V → List AV → Prop where
  | nil : AvAll K F σ [] []
  | d {v : V} {x : D} {vs : List V} {as : List AV} : Rp K F v x → AvAll K F σ vs as → AvAll K F σ (v :: vs) (.d x :: as)
  | o {v : V} {i : Nat} {vs : List V} {as : List AV} : σ[i]? = some (some v) → AvAll K F σ vs as → AvAll K F σ (v :: vs) (.o i :: as)
theorem AvAll.mono {K : Frag} {F F' : Hp} {σ : Sl} (s : Same F F') : ∀ {vs : List V} {as : List AV}, AvAll K F σ vs as → AvAll K F' σ vs as
  | _, _, .nil => .nil
  | _, _, .d r h => .d (r.mono s) (h.mono s)
  | _, _, .o r h => .o r (h.mono s)
def PG' (K : Frag) (c : Ct) (F H : Hp) (σ : Sl) (Q : List V → Hp → Prop) (as : List AV) (ρ' : Env) : Prop :=
  ∀ F' H' O' vs, EnvR K c F' H' σ ρ' O' → Same F F' → AvAll K F' σ vs as → Q vs H'
def tg (K : Frag) (c : Ct) (m : M (List AV)) : TA := fun σ H Q => ∃ F ρ O, EnvR K c F H σ ρ O ∧ (m ρ).post (PG' K c F H σ Q) (PX K c σ)
def gNil : M (List AV) := fun ρ => .ok [] ρ
def gD (a : M D) (r : M (List AV)) : M (List AV) := fun ρ => (a ρ).bind fun x ρ1 => (r ρ1).bind fun xs ρ2 => .ok (.d x :: xs) ρ2
def gO (i : Nat) (r : M (List AV)) : M (List AV) := fun ρ => match ρ[i]? with
  | some (some _) => (r ρ).bind fun xs ρ2 => .ok (.o i :: xs) ρ2
  | _ => .bad
section
variable {K : Frag} {c : Ct} {F H : Hp} {σ : Sl}
theorem gather_ok : ∀ {as : List AV} {vs : List V} {ρ ρ2 : Env} {os : List OV} {O : List Addr}, gather ρ as = some (os, ρ2) → AvAll K F σ vs as → EnvR K c F H σ ρ O →
    ∃ A R, SlR K c.ca F H (vs.map some) (os.map some) A ∧ EnvR K c F H σ ρ2 R ∧ Apart c F A R ∧ (∀ p ∈ A ++ R, p ∈ O)
  | [], _, ρ, ρ2, os, O, h, .nil, e => by
    cases h
    exact ⟨[], O, .nil, e, ⟨e.nd, fun _ hp => by simp at hp⟩, fun p hp => hp⟩
  | .d x :: as, v :: vs, ρ, ρ2, os, O, h, .d r q, e => by
    have h1 : (gather ρ as).map (fun z => (OV.d x :: z.1, z.2)) = some (os, ρ2) := h
    obtain ⟨⟨os', ρ'⟩, h2, h3⟩ := Option.map_eq_some_iff.mp h1
    cases h3
    obtain ⟨A, R, k1, k2, k3, k4⟩ := gather_ok h2 q e
    exact ⟨A, R, .so (.d r) k1, k2, k3, k4⟩
  | .o i :: as, v :: vs, ρ, ρ2, os, O, h, .o r q, e => by
    unfold gather at h
    split at h
    · rename_i o ho
      obtain ⟨⟨os', ρ'⟩, h2, h3⟩ := Option.map_eq_some_iff.mp h
      cases h3
      obtain ⟨w, A1, R1, g1, g2, g3, g4, g5⟩ := e.take ho
      rw [r] at g1; cases g1
      obtain ⟨A, R, k1, k2, k3, k4⟩ := gather_ok h2 q g4
      refine ⟨A1 ++ A, R, .so g2 k1, k2, ⟨?_, fun p hp => ?_⟩, fun p hp => ?_⟩
      · rw [List.append_assoc]
        obtain ⟨n1, n2, n3⟩ := List.nodup_append.mp g3.nd
        exact List.nodup_append.mpr ⟨n1, k3.nd, fun x hx y hy => n3 x hx y (k4 y hy)⟩
      · rcases List.mem_append.mp hp with z | z
        · exact g3.ow p z
        · exact k3.ow p z
      · rw [List.append_assoc] at hp
        rcases List.mem_append.mp hp with z | z
        · exact g5 p (by simp [z])
        · exact g5 p (by simp [k4 p z])
    · cases h
theorem putBack_ok : ∀ {as : List AV} {vs : List V} {ρ outs : Env} {O B : List Addr}, SlR K c.ca F H (vs.map some) outs B → AvAll K F σ vs as → SlR K c.ca F H σ ρ O → (B ++ O).Nodup →
    ∃ O', SlR K c.ca F H σ (putBack ρ as outs) O' ∧ O'.Nodup ∧ ∀ p ∈ O', p ∈ B ++ O
  | [], _, ρ, outs, O, B, h, .nil, e, n => by
    cases h
    exact ⟨O, e, (List.nodup_append.mp n).2.1, fun p hp => by simp [hp]⟩
  | .d x :: as, v :: vs, ρ, none :: outs, O, B, .no h, .d r q, e, n => putBack_ok (as := as) h q e n
  | .d x :: as, v :: vs, ρ, some o :: outs, O, _, .so (A := A) (O := B) g h, .d r q, e, n => by
    rw [List.append_assoc] at n
    obtain ⟨O', k1, k2, k3⟩ := putBack_ok (as := as) h q e (List.nodup_append.mp n).2.1
    exact ⟨O', k1, k2, fun p hp => by rw [List.append_assoc]; exact List.mem_append_right _ (k3 p hp)⟩
  | .o i :: as, v :: vs, ρ, none :: outs, O, B, .no h, .o r q, e, n => by
    obtain ⟨R, h1, h2, h3, _⟩ := e.put (i := i) (List.getElem?_eq_some_iff.mp r).1
    have k := h3 (some v)
    rw [set_self r] at k
    obtain ⟨n1, n2, n3⟩ := List.nodup_append.mp n
    obtain ⟨O', k1, k2, k3⟩ := putBack_ok (as := as) (outs := outs) h q k (List.nodup_append.mpr ⟨n1, h2 n2, fun x hx y hy => n3 x hx y (h1 y hy)⟩)
    exact ⟨O', k1, k2, fun p hp => (List.mem_append.mp (k3 p hp)).elim (fun z => by simp [z]) fun z => by simp [h1 p z]⟩
  | .o i :: as, v :: vs, ρ, some o :: outs, O, _, .so (A := A) (O := B) g h, .o r q, e, n => by
    obtain ⟨R, h1, h2, _, h4⟩ := e.put (i := i) (List.getElem?_eq_some_iff.mp r).1
    obtain ⟨O1, k1, k2⟩ := h4 v o A g
    rw [set_self r] at k1
    rw [List.append_assoc] at n
    obtain ⟨n1, n2, n3⟩ := List.nodup_append.mp n
    obtain ⟨m1, m2, m3⟩ := List.nodup_append.mp n2
    have nd1 : (A ++ R).Nodup := List.nodup_append.mpr ⟨n1, h2 m2, fun x hx y hy => n3 x hx y (by simp [h1 y hy])⟩
    have nd2 : (B ++ O1).Nodup := List.nodup_append.mpr ⟨m1, k2.nodup_iff.mpr nd1, fun x hx y hy => by
      rcases List.mem_append.mp (k2.mem_iff.mp hy) with z | z
      · exact (n3 y z x (by simp [hx])).symm
      · exact m3 x hx y (h1 y z)⟩
    obtain ⟨O', j1, j2, j3⟩ := putBack_ok (as := as) h q k1 nd2
    refine ⟨O', j1, j2, fun p hp => ?_⟩
    rcases List.mem_append.mp (j3 p hp) with z | z
    · simp [z]
    · rcases List.mem_append.mp (k2.mem_iff.mp z) with z | z
      · simp [z]
      · simp [h1 p z]
end
section
variable {X : Cx} {c : Ct} {e : Expr} {es : List Expr} {pos : Pos} {p1 p2 pu : Bool} {me : M D} {ms : M (List AV)} {mo : M OV}
theorem sg_nil : PA X [] (tg X.K c gNil) := pa_nil.imp fun σ H Q ⟨F, ρ, O, e, h⟩ => h F H O [] e (Same.refl _) .nil
theorem tg_step {K : Frag} {α : Type} {F H : Hp} {σ : Sl} {ρ : Env} {O : List Addr} {m : M (List AV)} {k : List AV → Env → Res α} {P : α → Env → Prop} {Q : List V → Hp → Prop} (e : EnvR K c F H σ ρ O) (h : ((m ρ).bind k).post P (PX K c σ))
    (q : ∀ x ρ1 F1 H1 O1 v, (k x ρ1).post P (PX K c σ) → EnvR K c F1 H1 σ ρ1 O1 → Same F F1 → AvAll K F1 σ v x → Q v H1) : tg K c m σ H Q :=
  ⟨F, ρ, O, e, Res.post_imp (Res.post_bind h) (fun x ρ1 h1 F1 H1 O1 v e1 s1 r1 => q x ρ1 F1 H1 O1 v h1 e1 s1 r1) fun _ _ h => h⟩
theorem sg_d (ha : PE X e (te X.K c false p1 me)) (hr : PA X es (tg X.K c ms)) (hs : starEach (e :: es) X.env = (false, eval e X.env) :: starEach es X.env := by rfl) : PA X (e :: es) (tg X.K c (gD me ms)) :=
  (pa_cons ha hr hs).imp fun σ H Q ⟨F, ρ, O, e, h⟩ => te_step e h fun x ρ1 F1 H1 O1 v h1 e1 s1 q1 v1 => tg_step e1 h1 fun xs ρ2 F2 H2 O2 vs h2 e2 s2 v2 => h2 F2 H2 O2 _ e2 (s1.trans s2) (.d (Rp.mono s2 v1) v2)
theorem sg_o (i : Nat) {x : Str} {np : Pos} (hr : PA X es (tg X.K c ms)) (hN : X.N[i]? = some x := by rfl) (hv : Vis X.env.scope x := by first | exact Or.inl rfl | exact Or.inr (Or.inl rfl) | exact Or.inr (Or.inr rfl)) (hd : (x == ("__debug__" : Str)) = false := by decide)
    (hcd : (x == ("__classdict__" : Str)) = false := by decide) (hs : starEach (Expr.Name x np :: es) X.env = (false, eval (Expr.Name x np) X.env) :: starEach es X.env := by rfl) : PA X (.Name x np :: es) (tg X.K c (gO i ms)) :=
  (pa_cons (pe_var hN hv hd hcd) hr hs).imp fun σ H Q ⟨F, ρ, O, e, h⟩ => by
    unfold gO at h
    cases q : ρ[i]? with
    | none => rw [q] at h; exact h.elim
    | some w =>
      rw [q] at h
      cases w with
      | none => exact h.elim
      | some o =>
        obtain ⟨v, A, h1, h2⟩ := e.var q
        exact ⟨v, h1, tg_step e h fun xs ρ2 F2 H2 O2 vs h2 e2 s2 v2 => h2 F2 H2 O2 _ e2 s2 (.o h1 v2)⟩
/-- a call's end: from the arguments -/
theorem call_in {K : Frag} {f : Fn} {F H : Hp} {σ : Sl} {ρ : Env} {O : List Addr} {as : List AV} {vs : List V} {Q : VK} {P : OV → Env → Prop} (e : EnvR K c F H σ ρ O) (r : AvAll K F σ vs as)
    (h : (callEnd f as (gather ρ as)).post P (PX K c σ)) (hP : ∀ o ρ' F' H' O' A v, P o ρ' → EnvR K c F' H' σ ρ' O' → Same F F' → OwR K c.ca F' H' v o A → Apart c F' A O' → Q v H') : spF K c.ca f vs H Q (WE c.W σ) := by
  cases g : gather ρ as with
  | none => rw [g] at h; exact h.elim
  | some z =>
    obtain ⟨os, ρ2⟩ := z
    rw [g] at h
    have h : (callRf as ρ2 (f os)).post P (PX K c σ) := h
    obtain ⟨A, R, k1, k2, k3, k4⟩ := gather_ok g r e
    have ndA := (List.nodup_append.mp k3.nd).1
    refine ⟨F, os, A, e.sub, k1, ndA, fun p hp => (k3.ow p hp).1, ?_⟩
    -- what stands behind the call
    have back : ∀ {F' H' : Hp}, FnEnd F H A F' H' → EnvR K c F' H' σ ρ2 R ∧ ∀ p ∈ R, H p ≠ none ∧ p ∉ A := fun {F' H'} n => by
      have hRA : ∀ p ∈ R, p ∉ A := fun p hp hq => (List.nodup_append.mp k3.nd).2.2 p hq p hp rfl
      have hR : ∀ p ∈ R, H p ≠ none ∧ p ∉ A := fun p hp => ⟨k2.sl.there p hp, hRA p hp⟩
      refine ⟨⟨n.sub, k2.f0.trans n.fF, fun b o h1 h2 => ?_, fun b h1 h2 h3 => ?_, k2.sl.mono n.fF fun b hb => ?_, k2.nd, fun p hp => ⟨n.nw p (hR p hp).1 (hR p hp).2 (k2.ow p hp).1, (k2.ow p hp).2⟩, k2.fx⟩, hR⟩
      · refine n.hH b o (k2.h0 b o h1 h2) fun hb => ?_
        rcases (k3.ow b hb).2 with z | z
        · exact h2 z
        · rw [h1] at z; cases z
      · refine n.nw b ?_ (fun hb => ?_) (k2.n0 b h1 h2 h3)
        · cases q : c.H b with
          | none => exact absurd q h1
          | some o => rw [k2.h0 b o q h2]; simp
        · rcases (k3.ow b hb).2 with z | z
          · exact h2 z
          · exact h1 z
      · obtain ⟨z1, z2⟩ := hR b hb
        cases q : H b with
        | none => exact absurd q z1
        | some o => exact n.hH b o q z2
    cases fo : f os with
    | bad => rw [fo] at h; exact h.elim
    | ex ξ =>
      rw [fo] at h
      exact fun F' H' cls d n x => h F' H' R cls d (back n).1 x
    | ok r0 outs =>
      rw [fo] at h
      intro F' H' v A' B n sB ow ndB hB
      obtain ⟨e', hR⟩ := back n
      have cr : ∀ p ∈ A' ++ B, p ∈ c.O ∨ c.H p = none := fun p hp => by
        by_cases hc : p ∈ c.O
        · exact .inl hc
        · refine .inr ?_
          rcases (hB p hp).2 with z | z
          · rcases (k3.ow p z).2 with z | z
            · exact absurd z hc
            · exact z
          · cases q : c.H p with
            | none => rfl
            | some o => rw [e.h0 p o q hc] at z; cases z
      have dis : ∀ p ∈ A' ++ B, p ∉ R := fun p hp hr => by
        rcases (hB p hp).2 with z | z
        · exact (hR p hr).2 z
        · exact (hR p hr).1 z
      obtain ⟨nA, nB, nAB⟩ := List.nodup_append.mp ndB
      obtain ⟨O', j1, j2, j3⟩ := putBack_ok sB (r.mono n.fF) e'.sl (List.nodup_append.mpr ⟨nB, e'.nd, fun x hx y hy z => dis x (by simp [hx]) (z ▸ hy)⟩)
      refine hP r0 _ F' H' O' A' v h ⟨e'.sub, e'.f0, e'.h0, e'.n0, j1, j2, fun p hp => ?_, e'.fx⟩ n.fF ow ⟨List.nodup_append.mpr ⟨nA, j2, fun x hx y hy z => ?_⟩, fun p hp => ⟨(hB p (by simp [hp])).1, cr p (by simp [hp])⟩⟩
      · rcases List.mem_append.mp (j3 p hp) with z | z
        · exact ⟨(hB p (by simp [z])).1, cr p (by simp [z])⟩
        · exact e'.ow p z
      · subst z
        rcases List.mem_append.mp (j3 x hy) with z | z
        · exact nAB x hx x z rfl
        · exact dis x (by simp [hx]) z
variable {k : Nat} {f : Addr} {fd : FuncData} {ps : List Str} {fn : Fn} {x : Str} {p : Pos}
theorem call_step {σ : Sl} {H : Hp} {Q : VK} (h : to X.K c (mCall fn ms) σ H Q) : tCallS (spF X.K c.ca fn) (WE c.W) (tg X.K c ms) σ H Q := by
  obtain ⟨F, ρ, O, e, h⟩ := h
  refine tg_step e h fun as ρ1 F1 H1 O1 vs h1 e1 s1 r1 => ?_
  exact call_in e1 r1 h1 fun o ρ' F' H' O' A v hp e' s' ow ap => hp F' H' O' A v e' (s1.trans s') ow ap
theorem so_call (G : FnOk X.prog X.w X.K X.mg X.base (L2.CX X.prog X.w) k f fd ps (spF X.K c.ca fn)) (hr : Room k X.A) (hm : X.mg x = some (.ref f)) (hk : PySem.W.keepIn X.K (.ref f) = true) (hb : Binds X.K fd ps []) (tk : Takes X c.W)
    (ha : PA X (e :: es) (tg X.K c ms)) (hg : Gl X x := by rfl) (hdb : (x == ("__debug__" : Str)) = false := by decide) (he : starEach (e :: es) X.env = (false, eval e X.env) :: starEach es X.env := by rfl) (hpl : (backTo pos (starEach es X.env)).any (·.1) = false := by rfl) :
    PE X (.Call (.Name x p) (e :: es) [] pos) (to X.K c (mCall fn ms)) := (pe_callS G hr hg hm hk hb (fun σ => passAt tk σ) ha hdb he hpl).imp fun σ H Q h => call_step h
theorem so_call0 (G : FnOk X.prog X.w X.K X.mg X.base (L2.CX X.prog X.w) k f fd ps (spF X.K c.ca fn)) (hr : Room k X.A) (hm : X.mg x = some (.ref f)) (hk : PySem.W.keepIn X.K (.ref f) = true) (hb : Binds X.K fd ps []) (tk : Takes X c.W)
    (hg : Gl X x := by rfl) (hdb : (x == ("__debug__" : Str)) = false := by decide) : PE X (.Call (.Name x p) [] [] pos) (to X.K c (mCall fn gNil)) := ⟨fun pins s σ H Q I h => by
  refine wpAny_Call_Name_kw (ld_glob I hg hm ?_ hdb)
  obtain ⟨F, ρ, O, e, h⟩ := h
  exact PySem.W.callWith_K0 I.kIn hk (run_fnS (us := []) (E := WE c.W) G hr hb (passAt tk σ) I .nil (call_in (as := []) e .nil h fun o ρ' F' H' O' A v hp e' s' ow ap => hp F' H' O' A v e' s' ow ap))⟩
end

/-! ### statements -/
def sSeq (a b : M Fl) : M Fl := fun ρ => (a ρ).bind fun f ρ1 => match f with
  | .nx => b ρ1
  | f => .ok f ρ1
def sNil : M Fl := fun ρ => .ok .nx ρ
def sSet (i : Nat) (m : M D) : M Fl := fun ρ => (m ρ).bind fun x ρ1 => .ok .nx (ρ1.set i (some (.d x)))
def sSetO (i : Nat) (m : M OV) : M Fl := fun ρ => (m ρ).bind fun o ρ1 => .ok .nx (ρ1.set i (some o))
def sRet (m : M OV) : M Fl := fun ρ => (m ρ).bind fun o ρ1 => .ok (.rt o) ρ1
def sDrop (m : M OV) : M Fl := fun ρ => (m ρ).bind fun _ ρ1 => .ok .nx ρ1
section
variable {X : Cx} {c : Ct} {e d : Expr} {st : Stmt} {rest xs ys : List Stmt} {pos pos' : Pos} {p1 p2 pu : Bool} {me : M D} {mo : M OV} {a b : M Fl} {x : Str} {t : M Bool}
theorem ss_nil : PSs X [] (ts X.K c sNil) := pss_nil.imp fun D σ H ⟨F, ρ, O, e, h⟩ => h σ F H O e
theorem ts_next {K : Frag} {m : M Fl} {D : Ends} {b : M Fl} {F H : Hp} {σ : Sl} {ρ : Env} {O : List Addr} (e : EnvR K c F H σ ρ O) (h : (sSeq m b ρ).post (PS' K c D) (PXs K c)) : ts K c m { D with nx := ts K c b D } σ H := by
  refine ⟨F, ρ, O, e, Res.post_imp (Res.post_bind h) (fun f ρ1 h1 => ?_) fun _ _ h => h⟩
  cases f with
  | nx => exact fun σ' F' H' O' e' => ⟨F', ρ1, O', e', h1⟩
  | bk => exact h1
  | ct => exact h1
  | rt o => exact h1
theorem ss_cons (h1 : PS X st (ts X.K c a)) (h2 : PSs X rest (ts X.K c b)) : PSs X (st :: rest) (ts X.K c (sSeq a b)) := (pss_cons h1 h2).imp fun D σ H ⟨F, ρ, O, e, h⟩ => ts_next e h
theorem ss_one (h1 : PS X st (ts X.K c a)) : PSs X [st] (ts X.K c a) := pss_one h1
theorem sv_if (ht : PT X d (tt X.K c pu t)) (ha : PSs X xs (ts X.K c a)) (hb : PSs X ys (ts X.K c b)) : PS X (.If d xs ys pos) (ts X.K c (mIf t a b)) := (ps_if ht ha hb).imp fun D σ H ⟨F, ρ, O, e, h⟩ => by
  refine tt_stepS e h fun x ρ1 F1 H1 O1 h1 e1 s1 p1 => ?_
  cases x with
  | true =>
    rw [if_pos rfl] at h1 ⊢
    exact ⟨F1, ρ1, O1, e1, h1⟩
  | false =>
    rw [if_neg Bool.false_ne_true] at h1 ⊢
    exact ⟨F1, ρ1, O1, e1, h1⟩
theorem slen (hi : X.N[i]? = some x) {pins : List (Addr × Obj)} {σ : Sl} {H : Hp} {s : Shared} (I : Inv X pins σ H s) : i < σ.length := by rw [I.len]; exact (List.getElem?_eq_some_iff.mp hi).1
theorem sv_set {i : Nat} (hN : X.N.Nodup) (he : PE X e (te X.K c false pu me)) (hi : X.N[i]? = some x := by rfl) (hx : Loc X.env.scope x := by first | exact Or.inl rfl | exact Or.inr rfl) (hs : swapsWith e (some (.Name x pos')) pos.line X.env = pure false := by rfl)
    (hc : (c.fx.all fun j => j != i) = true := by rfl) (hf : X.fn x = true ∨ X.env.scope.names.lookup x = some .local := by first | exact .inl rfl | exact .inr rfl) : PS X (.Assign [.Name x pos'] e pos) (ts X.K c (sSet i me)) := ⟨fun pins s σ H D I h => by
  refine (ps_set hN hi hx he hs hf).run pins s σ H D I ?_
  obtain ⟨F, ρ, O, e, h⟩ := h
  refine te_stepS e h fun x ρ1 F1 H1 O1 v h1 e1 s1 q1 v1 => ?_
  obtain ⟨O', e'⟩ := e1.putD v1 (slen hi I) hc
  exact h1 _ F1 H1 O' e'⟩
theorem sv_setO {i : Nat} (hN : X.N.Nodup) (he : PE X e (to X.K c mo)) (hi : X.N[i]? = some x := by rfl) (hx : Loc X.env.scope x := by first | exact Or.inl rfl | exact Or.inr rfl) (hs : swapsWith e (some (.Name x pos')) pos.line X.env = pure false := by rfl)
    (hc : (c.fx.all fun j => j != i) = true := by rfl) (hf : X.fn x = true ∨ X.env.scope.names.lookup x = some .local := by first | exact .inl rfl | exact .inr rfl) : PS X (.Assign [.Name x pos'] e pos) (ts X.K c (sSetO i mo)) := ⟨fun pins s σ H D I h => by
  refine (ps_set hN hi hx he hs hf).run pins s σ H D I ?_
  obtain ⟨F, ρ, O, e, h⟩ := h
  refine to_stepS e h fun x ρ1 F1 H1 O1 A v h1 e1 s1 r1 a1 => ?_
  obtain ⟨O', e'⟩ := e1.put r1 a1 (slen hi I) hc
  exact h1 _ F1 H1 O' e'⟩
theorem sv_ret (he : PE X e (to X.K c mo)) : PS X (.Return (some e) pos) (ts X.K c (sRet mo)) := (ps_ret he).imp fun D σ H ⟨F, ρ, O, e, h⟩ =>
  to_stepS e h fun o ρ1 F1 H1 O1 A v h1 e1 s1 r1 a1 => h1 σ F1 H1 O1 A v e1 r1 a1
theorem sv_retN : PS X (.Return none pos) (ts X.K c (sRet (mD (mC .none)))) := ps_retN.imp fun D σ H ⟨F, ρ, O, e, h⟩ => h σ F H O [] .non e (.d .non) ⟨e.nd, fun _ hp => by simp at hp⟩
theorem sv_expr (he : PE X e (to X.K c mo)) (hs : swapsWith e none pos.line X.env = pure false := by rfl) : PS X (.Expr e pos) (ts X.K c (sDrop mo)) := (ps_expr he hs).imp fun D σ H ⟨F, ρ, O, e, h⟩ =>
  to_stepS e h fun o ρ1 F1 H1 O1 A v h1 e1 s1 r1 a1 => h1 σ F1 H1 O1 e1
theorem sv_pass : PS X (.Pass pos) (ts X.K c sNil) := ps_pass.imp fun D σ H ⟨F, ρ, O, e, h⟩ => h σ F H O e
theorem sv_break : PS X (.Break pos) (ts X.K c (fun ρ => .ok .bk ρ)) := ps_break.imp fun D σ H ⟨F, ρ, O, e, h⟩ => h σ F H O e
theorem sv_continue : PS X (.Continue pos) (ts X.K c (fun ρ => .ok .ct ρ)) := ps_continue.imp fun D σ H ⟨F, ρ, O, e, h⟩ => h σ F H O e
end

/-! ### a def -/
def outsOf (fx : List Nat) (ρ' : Env) : Nat → List OV → Env
  | _, [] => []
  | i, o :: os => (if fx.contains i = true then (match ρ'[i]? with
    | some w => w
    | none => none) else match o with
    | .d x => some (.d x)
    | _ => none) :: outsOf fx ρ' (i + 1) os
/-- what a def of n names, np of them parameters, computes -/
def fnOf (n np : Nat) (fx : List Nat) (m : M Fl) : Fn := fun os => if os.length = np then (match m (os.map some ++ List.replicate (n - np) none) with
  | .ok (.rt o) ρ' => .ok o (outsOf fx ρ' 0 os)
  | .ok .nx ρ' => .ok (.d .none) (outsOf fx ρ' 0 os)
  | .ok _ _ => .bad
  | .ex ξ _ => .ex ξ
  | .bad => .bad) else .bad
section
variable {K : Frag} {ca : Str → Addr} {F H : Hp}
theorem SlR.none (K : Frag) (ca : Str → Addr) (F H : Hp) : ∀ σ : Sl, SlR K ca F H σ (List.replicate σ.length none) []
  | [] => .nil
  | _ :: σ => .no (SlR.none K ca F H σ)
theorem SlR.append : ∀ {σ τ : Sl} {ρ π : Env} {O B : List Addr}, SlR K ca F H σ ρ O → SlR K ca F H τ π B → SlR K ca F H (σ ++ τ) (ρ ++ π) (O ++ B)
  | _, _, _, _, _, _, .nil, s => s
  | _, _, _, _, _, _, .no r, s => .no (r.append s)
  | _, _, _, _, _, _, .so (A := A) (O := O) h r, s => by
    rw [List.append_assoc]
    exact .so h (r.append s)
/-- the owned arguments' slots at the end, and what else is left -/
theorem outs_ok {fx : List Nat} : ∀ {os : List OV} {vs : List V} {ρ' : Env} {σ' : Sl} {O B : List Addr} (i : Nat) (F0 H0 : Hp) (pre : Sl), SlR K ca F0 H0 (vs.map some) (os.map some) B → Same F0 F → SlR K ca F H σ' ρ' O → O.Nodup →
    (∀ j ∈ fx, i ≤ j → σ'[j]? = (vs.map some)[j - i]? ∨ (vs.map some)[j - i]? = Option.none) → ∃ B' R, SlR K ca F H (vs.map some) (outsOf fx ρ' i os) B' ∧ O.Perm (B' ++ R)
  | [], [], ρ', σ', O, B, i, F0, H0, pre, h, s, e, n, k => ⟨[], O, .nil, List.Perm.refl _⟩
  | [], v :: vs, _, _, _, _, _, _, _, _, h, _, _, _, _ => by cases h
  | o :: os, [], _, _, _, _, _, _, _, _, h, _, _, _, _ => by cases h
  | o :: os, v :: vs, ρ', σ', O, B, i, F0, H0, pre, h, s, e, n, k => by
    have h' : SlR K ca F0 H0 (some v :: vs.map some) (some o :: os.map some) B := h
    cases h' with
    | so g r =>
      have k' : ∀ j ∈ fx, i + 1 ≤ j → σ'[j]? = (vs.map some)[j - (i + 1)]? ∨ (vs.map some)[j - (i + 1)]? = Option.none := fun j hj hl => by
        have q := k j hj (by omega)
        have e1 : j - i = (j - (i + 1)) + 1 := by omega
        rw [e1, List.map_cons, List.getElem?_cons_succ] at q
        exact q
      by_cases hi : fx.contains i = true
      · have q := k i (by simpa using hi) (Nat.le_refl _)
        rw [Nat.sub_self, List.map_cons, List.getElem?_cons_zero] at q
        have q : σ'[i]? = some (some v) := by
          rcases q with q | q
          · exact q
          · cases q
        cases w : ρ'[i]? with
        | none =>
          obtain ⟨B', R, z1, z2⟩ := outs_ok (os := os) (i + 1) F0 H0 pre r s e n k'
          refine ⟨B', R, ?_, z2⟩
          unfold outsOf
          rw [if_pos hi, w]
          exact .no z1
        | some w' =>
          cases w' with
          | none =>
            obtain ⟨B', R, z1, z2⟩ := outs_ok (os := os) (i + 1) F0 H0 pre r s e n k'
            refine ⟨B', R, ?_, z2⟩
            unfold outsOf
            rw [if_pos hi, w]
            exact .no z1
          | some o' =>
            obtain ⟨v', A, R, t1, t2, t3, t4⟩ := e.at w
            rw [q] at t1; cases t1
            obtain ⟨u1, _⟩ := t4 F H (Same.refl _) fun _ _ => rfl
            have nd := t3.nodup_iff.mp n
            -- the others' outs off the slots without i
            have oo : outsOf fx ρ' (i + 1) os = outsOf fx (ρ'.set i none) (i + 1) os := by
              have gen : ∀ (os : List OV) (j : Nat), i < j → outsOf fx ρ' j os = outsOf fx (ρ'.set i none) j os := by
                intro os
                induction os with
                | nil => intro j _; rfl
                | cons o os ih =>
                  intro j hj
                  unfold outsOf
                  rw [ih (j + 1) (by omega), List.getElem?_set_ne (Nat.ne_of_lt hj)]
              exact gen os (i + 1) (Nat.lt_succ_self i)
            obtain ⟨B', R', z1, z2⟩ := outs_ok (os := os) (i + 1) F0 H0 pre r s u1 (List.nodup_append.mp nd).2.1 k'
            refine ⟨A ++ B', R', ?_, ?_⟩
            · unfold outsOf
              rw [if_pos hi, w, oo]
              exact .so t2 z1
            · rw [List.append_assoc]
              exact t3.trans (List.Perm.append_left A z2)
      · obtain ⟨B', R, z1, z2⟩ := outs_ok (os := os) (i + 1) F0 H0 pre r s e n k'
        refine ⟨B', R, ?_, z2⟩
        unfold outsOf
        rw [if_neg hi]
        cases o with
        | d x =>
          cases g with
          | d g => exact .so (.d (g.mono s)) z1
        | lst _ => exact .no z1
        | dct _ => exact .no z1
        | dctT _ => exact .no z1
        | obj _ _ => exact .no z1
end
section
variable {P : Program} {w : World} {K : Frag} {mg : Str → Option Value} {base : Heap} {x qual : Str} {params : Arguments} {body : List Stmt} {scope : Scope} {dvs : List V} {kws : List (Str × V)} {f : Addr} {fd : FuncData} {N ps : List Str} {k : Nat}
theorem fn_rule {ca : Str → Addr} {m : M Fl} (fx : List Nat) (Fd : FunD K x qual params body scope dvs kws f fd) (S : FnScope N ps scope)
    (hb : ∀ (cdv : Value) (A : Around) (outer : List PySem.Env) (s : Shared) (H : Hp) (E : XK) (F : Hp) (O : List Addr) (σ : Sl), Room k (A.deeper (envOfC qual scope s.heap.objs.size f cdv)) →
      Takes (cxOf (L2.CX P w) P w K mg base N qual scope f cdv A outer s H E) (fun cls d _ H' => E cls d H') →
      PSs (cxOf (L2.CX P w) P w K mg base N qual scope f cdv A outer s H E) body (ts K ⟨ca, F, H, O, fx, σ, fun cls d _ H' => E cls d H'⟩ m)) :
    FnOk P w K mg base (L2.CX P w) (k + 1) f fd ps (spF K ca (fnOf N.length ps.length fx m)) := by
  have lenO : ∀ {os : List OV} {vs : List V} {H : Hp} {F : Hp} {O : List Addr}, SlR K ca F H (vs.map some) (os.map some) O → vs.length = os.length := fun {os vs H F O} h => by
    have := h.length
    rwa [List.length_map, List.length_map] at this
  refine Fd.ok S (fun vs H Q E h => ?_) fun cdv A outer s H vs Q E hr h => ?_
  · obtain ⟨F, os, O, h1, h2, h3, h4, h5⟩ := h
    rw [lenO h2]
    unfold fnOf at h5
    by_cases hl : os.length = ps.length
    · exact hl
    · rw [if_neg hl] at h5
      exact h5.elim
  · obtain ⟨F, os, O, h1, h2, h3, h4, h5⟩ := h
    unfold fnOf at h5
    by_cases hl : os.length = ps.length
    · rw [if_pos hl] at h5
      refine ⟨_, hb cdv A outer s H E F O (start N vs) hr (takes_of rfl rfl rfl rfl), F, os.map some ++ List.replicate (N.length - ps.length) none, O, ?_, ?_⟩
      · refine ⟨h1, Same.refl _, fun b o q _ => q, fun b _ _ q => q, ?_, h3, fun p hp => ⟨h4 p hp, .inl hp⟩, fun i _ => rfl⟩
        have z := h2.append (SlR.none K ca F H (List.replicate (N.length - vs.length) none))
        rw [List.append_nil, List.length_replicate, lenO h2, hl] at z
        unfold L2.start
        rw [lenO h2, hl]
        exact z
      · -- the end
        have fin : ∀ {σ' : Sl} {F' H' : Hp} {O' : List Addr} {ρ' : Env}, EnvR K ⟨ca, F, H, O, fx, start N vs, fun cls d _ H' => E cls d H'⟩ F' H' σ' ρ' O' →
            FnEnd F H O F' H' ∧ ∃ B R, SlR K ca F' H' (vs.map some) (outsOf fx ρ' 0 os) B ∧ O'.Perm (B ++ R) := fun {σ' F' H' O' ρ'} e => by
          refine ⟨⟨e.f0, e.sub, e.h0, fun b h1 h2 h3 => e.n0 b h1 h2 h3⟩, ?_⟩
          refine outs_ok 0 F H σ' h2 e.f0 e.sl e.nd fun j hj _ => ?_
          have q := e.fx j hj
          rw [q, Nat.sub_zero]
          unfold L2.start
          by_cases hj2 : j < (vs.map some).length
          · exact .inl (List.getElem?_append_left hj2)
          · exact .inr (List.getElem?_eq_none (Nat.le_of_not_lt hj2))
        cases r : m (os.map some ++ List.replicate (N.length - ps.length) none) with
        | bad => rw [r] at h5; exact h5.elim
        | ex ξ ρ' =>
          rw [r] at h5
          exact fun σ' F' H' O' cls d e x => h5 F' H' cls d (fin e).1 x
        | ok fl ρ' =>
          rw [r] at h5
          cases fl with
          | bk => exact h5.elim
          | ct => exact h5.elim
          | nx =>
            intro σ' F' H' O' e
            obtain ⟨n, B, R, z1, z2⟩ := fin e
            have nd := z2.nodup_iff.mp e.nd
            exact h5 F' H' .non [] B n z1 (.d .non) (List.nodup_append.mp nd).1 fun p hp => e.ow p (z2.mem_iff.mpr (by simp at hp; simp [hp]))
          | rt o =>
            intro σ' F' H' O' A1 v e r1 a1
            obtain ⟨n, B, R, z1, z2⟩ := fin e
            have nd := z2.nodup_iff.mp e.nd
            obtain ⟨q1, q2, q3⟩ := List.nodup_append.mp a1.nd
            refine h5 F' H' v A1 B n z1 r1 (List.nodup_append.mpr ⟨q1, (List.nodup_append.mp nd).1, fun x hx y hy => q3 x hx y (z2.mem_iff.mpr (by simp [hy]))⟩) fun p hp => ?_
            rcases List.mem_append.mp hp with z | z
            · exact a1.ow p z
            · exact e.ow p (z2.mem_iff.mpr (by simp [z]))
    · rw [if_neg hl] at h5
      exact h5.elim
end
end DL
end
section
set_option maxRecDepth 100000
set_option maxHeartbeats 2000000
/-! The functional layer, part 4: operators and built-ins by data. -/
namespace DL
open PySem PySem.Spec PyProof.Rows L2
/-! ### what stands for a datum -/
section
variable {K : Frag} {F H : Hp} {v : V}
theorem inv_int {i : Int} (h : RpB K F H v (.int i)) : v = .int i := by cases h with | d r => cases r; rfl
theorem inv_str {x : Str} (h : RpB K F H v (.str x)) : v = .str x := by cases h with | d r => cases r; rfl
theorem inv_bool {b : Bool} (h : RpB K F H v (.bool b)) : v = .bl b := by cases h with | d r => cases r; rfl
theorem inv_none (h : RpB K F H v .none) : v = .non := by cases h with | d r => cases r; rfl
theorem inv_list {ds : List D} (s : Same F H) (h : RpB K F H v (.list ds)) : ∃ p vs, v = .ref p ∧ H p = some (.lst vs) ∧ RpAll K F vs ds := by
  cases h with
  | d r => cases r with | lst h r => exact ⟨_, _, rfl, s _ _ h, r⟩
  | lst h r => exact ⟨_, _, rfl, h, r⟩
theorem inv_tup {ds : List D} (h : RpB K F H v (.tuple ds)) : ∃ p vs, v = .ref p ∧ SqT K F p vs ∧ RpAll K F vs ds := by
  cases h with
  | d r => cases r with | tup h r => exact ⟨_, _, rfl, h, r⟩
theorem zip_head {α β γ : Type} {f : α → γ} {kvs : List α} {ds : List β} {x : γ} {y : β} {r : List (γ × β)} (h : (kvs.map f).zip ds = (x, y) :: r) : ∃ a, a ∈ kvs ∧ f a = x := by
  cases kvs with
  | nil => simp at h
  | cons a kvs =>
    cases ds with
    | nil => simp at h
    | cons d ds =>
      simp at h
      exact ⟨a, List.mem_cons_self, h.1.1⟩
theorem inv_scr {ds : List D} (s : Same F H) (h : RpB K F H v (.dict [(.none, .list ds)])) : ∃ p vs, v = .ref p ∧ SqL K H p vs ∧ RpAll K F vs ds := by
  have no : ∀ {k : Key}, kD k ≠ PyData.none := fun {k} e => by cases k <;> cases e
  generalize e : PyData.dict [(PyData.none, PyData.list ds)] = z at h
  cases h with
  | d r =>
    cases r with
    | scr h r =>
      cases e
      exact ⟨_, _, rfl, sq_l s h, r⟩
    | dcK h r =>
      obtain ⟨a, _, e2⟩ := zip_head (PyData.dict.inj e).symm
      exact absurd e2 no
    | _ => cases e
  | lst h r => cases e
  | dcK h r =>
    obtain ⟨a, _, e2⟩ := zip_head (PyData.dict.inj e).symm
    exact absurd e2 no
end
mutual
theorem Rp.dp {K : Frag} {F : Hp} : ∀ {v : V} {x : D}, Rp K F v x → x.canLay0 = true → Dp K F v x
  | _, _, .non, _ => .non
  | _, _, .bl b, _ => .bl b
  | _, _, .int i, _ => .int i
  | _, _, .str x, _ => .str x
  | _, _, .lst h r, q => .lst (.of h) (RpAll.dp r q)
  | _, _, .tup h r, q => .tup h (RpAll.dp r q)
  | _, _, .scr _ _, q => by simp [PyData.canLay0] at q
  | _, _, .dcK _ _, q => by simp [PyData.canLay0] at q
theorem RpAll.dp {K : Frag} {F : Hp} : ∀ {vs : List V} {xs : List D}, RpAll K F vs xs → PyData.canLayAll0 xs = true → DpAll K F vs xs
  | _, _, .nil, _ => .nil
  | _, _, .cons h r, q => by
    obtain ⟨q1, q2⟩ : _ ∧ _ := by simpa [PyData.canLayAll0] using q
    exact .cons (Rp.dp h q1) (RpAll.dp r q2)
end
section
variable {X : Cx}
theorem opr_imp {f : Value → Value → Sem Value} {r r' : R2} (h : OpR X f r) (k : ∀ v w H Q, r' v w H Q → r v w H Q) : OpR X f r' := fun pins s σ H x y v u Q I rx ry q => h pins s σ H x y v u Q I rx ry (k x y H Q q)
/-! ### + - * // % ** -/
def addD : D → D → Option D
  | .int i, .int j => some (.int (i + j))
  | .str x, .str y => if x.length + y.length ≤ sizeLine then some (.str (x ++ y)) else none
  | .tuple xs, .tuple ys => if xs.length + ys.length ≤ sizeLine then some (.tuple (xs ++ ys)) else none
  | .list xs, .list ys => if xs.length + ys.length ≤ sizeLine then some (.list (xs ++ ys)) else none
  | _, _ => none
theorem od_add : OpR X (binaryOp .Add) (rD X.K addD) := by
  refine opr_imp (op_add.or (op_add_str.or (op_catA.or op_cat))) fun v w H Q ⟨F, x, y, z, s, rv, rw', hz, q⟩ => ?_
  unfold addD at hz
  split at hz
  · cases hz
    exact .inl ⟨_, _, inv_int rv, inv_int rw', q F H _ (New.refl s) (.int _)⟩
  · split at hz
    · rename_i hl
      cases hz
      exact .inr (.inl ⟨_, _, inv_str rv, inv_str rw', hl, q F H _ (New.refl s) (.str _)⟩)
    · cases hz
  · split at hz
    · rename_i hl
      cases hz
      obtain ⟨a, vs, e1, h1, r1⟩ := inv_tup rv
      obtain ⟨b, ws, e2, h2, r2⟩ := inv_tup rw'
      refine .inr (.inr (.inl ⟨a, b, vs, ws, e1, e2, sq_t s h1, sq_t s h2, by rw [r1.length, r2.length]; exact hl, fun e => ?_, fun _ e => ?_, fun _ _ p hp => ?_⟩))
      · subst e
        cases r1
        exact q F H _ (New.refl s) (.tup h2 r2)
      · subst e
        cases r2
        rw [List.append_nil] at q
        exact q F H _ (New.refl s) (.tup h1 r1)
      · have n := New.one s hp (.tup (vs ++ ws))
        exact q _ _ _ n (.tup (.of upd_same) ((r1.append r2).mono n.fF))
    · cases hz
  · split at hz
    · rename_i hl
      cases hz
      obtain ⟨a, vs, e1, h1, r1⟩ := inv_list s rv
      obtain ⟨b, ws, e2, h2, r2⟩ := inv_list s rw'
      refine .inr (.inr (.inr ⟨a, b, vs, ws, e1, e2, h1, h2, by rw [r1.length, r2.length]; exact hl, fun p hp => ?_⟩))
      have n := New.one s hp (.lst (vs ++ ws))
      exact q _ _ _ n (.lst upd_same ((r1.append r2).mono n.fF))
    · cases hz
  · cases hz
def subD : D → D → Option D
  | .int i, .int j => some (.int (i - j))
  | _, _ => none
theorem od_sub : OpR X (binaryOp .Sub) (rD X.K subD) := by
  refine opr_imp op_sub fun v w H Q ⟨F, x, y, z, s, rv, rw', hz, q⟩ => ?_
  unfold subD at hz
  split at hz
  · cases hz
    exact ⟨_, _, inv_int rv, inv_int rw', q F H _ (New.refl s) (.int _)⟩
  · cases hz
instance : DecidableRel CMulW := fun i j => inferInstanceAs (Decidable (i.natAbs.log2 + j.natAbs.log2 < 1000000))
instance : DecidableRel CDivW := fun _ j => inferInstanceAs (Decidable (0 < j ∧ j.natAbs.log2 < 9000))
theorem rep_size (c : Array Nat) : ∀ (n : Nat) (a : Array Nat), ((List.replicate n c).foldl (· ++ ·) a).size = a.size + n * c.size
  | 0, a => by simp
  | n + 1, a => by
    rw [List.replicate_succ, List.foldl_cons, rep_size c n, Array.size_append, Nat.succ_mul]
    omega
def repS (z : Str) (n : Nat) : Str := ⟨(List.replicate n z.cps).foldl (· ++ ·) #[]⟩
theorem op_mulS : OpR X (binaryOp .Mult) (fun x y H Q => ∃ z n, x = .str z ∧ y = .int n ∧ 1 < n ∧ n < 2 ^ 20 ∧ 0 < z.length ∧ z.length * n.toNat ≤ 4096 ∧ Q (.str (repS z n.toNat)) H) := by
  intro pins s σ H x y v u Q I rx ry h
  obtain ⟨z, n, rfl, rfl, h1, h2, h3, h4, q⟩ := h
  obtain ⟨t, rfl⟩ := rx
  obtain ⟨t', rfl⟩ := ry
  have c1 : ¬ n < 1 := by omega
  have c2 : (n == 1 || z.length == 0) = false := by
    have a : (n == 1) = false := beq_eq_false_iff_ne.mpr (by omega)
    have b : (z.length == 0) = false := beq_eq_false_iff_ne.mpr (by omega)
    rw [a, b]; rfl
  refine PySem.P.mul_str (by
    have a : ¬ n < -(2 ^ 63 : Int) := by omega
    have b : ¬ n ≥ 2 ^ 63 := by omega
    rw [decide_eq_false a, decide_eq_false b]; rfl) (fun _ _ => ?_) (fun _ _ => ?_) ?_
  · have hz : (z.length : Int) ≤ 4096 := by
      have : z.length * 1 ≤ z.length * n.toNat := Nat.mul_le_mul_left _ (by omega)
      omega
    have : (4096 : Int) ≤ (2 ^ 63 - 1) / n := by
      refine (Int.le_ediv_iff_mul_le (by omega)).mpr ?_
      omega
    omega
  · have : (4096 : Nat) ≤ sizeLine := by decide
    exact decide_eq_false (by omega)
  · rw [if_neg c1, c2]
    refine ⟨?_, ⟨.str (repS z n.toNat), H, I.tok _, ⟨_, rfl⟩, q⟩⟩
    have : (4096 : Nat) ≤ sizeLine := by decide
    show ((List.replicate n.toNat z.cps).foldl (· ++ ·) #[]).size ≤ sizeLine
    rw [rep_size]
    have e : n.toNat * z.cps.size = z.length * n.toNat := Nat.mul_comm _ _
    rw [e]
    simp
    omega
def mulD : D → D → Option D
  | .str z, .int n => if 1 < n ∧ n < 2 ^ 20 ∧ 0 < z.length ∧ z.length * n.toNat ≤ 4096 then some (.str (repS z n.toNat)) else none
  | .int i, .int j => if CMulW i j then some (.int (i * j)) else none
  | .list xs, .int k => if -(2 ^ 63) ≤ k ∧ k < 2 ^ 63 ∧ xs.length * k.toNat ≤ sizeLine then some (.list (List.replicate k.toNat xs).flatten) else none
  | _, _ => none
theorem RpAll.rep {K : Frag} {F : Hp} {vs : List V} {xs : List D} (h : RpAll K F vs xs) : ∀ k : Nat, RpAll K F (List.replicate k vs).flatten (List.replicate k xs).flatten
  | 0 => .nil
  | k + 1 => by
    rw [List.replicate_succ, List.replicate_succ, List.flatten_cons, List.flatten_cons]
    exact h.append (RpAll.rep h k)
theorem od_mul : OpR X (binaryOp .Mult) (rD X.K mulD) := by
  refine opr_imp (op_mulS.or (op_mulW.or op_rep)) fun v w H Q ⟨F, x, y, z, s, rv, rw', hz, q⟩ => ?_
  unfold mulD at hz
  split at hz
  · split at hz
    · rename_i hc
      cases hz
      exact .inl ⟨_, _, inv_str rv, inv_int rw', hc.1, hc.2.1, hc.2.2.1, hc.2.2.2, q F H _ (New.refl s) (.str _)⟩
    · cases hz
  · split at hz
    · rename_i hc
      cases hz
      exact .inr (.inl ⟨_, _, inv_int rv, inv_int rw', hc, q F H _ (New.refl s) (.int _)⟩)
    · cases hz
  · split at hz
    · rename_i hc
      cases hz
      obtain ⟨a, vs, e1, h1, r1⟩ := inv_list s rv
      refine .inr (.inr ⟨a, _, vs, e1, inv_int rw', h1, hc.1, hc.2.1, by rw [r1.length]; exact hc.2.2, fun p hp => ?_⟩)
      exact q _ _ _ (New.one s hp _) (.lst upd_same ((r1.rep _).mono (New.one s hp _).fF))
    · cases hz
  · cases hz
def divD : D → D → Option D
  | .int i, .int j => if CDivW i j then some (.int (i / j)) else none
  | _, _ => none
theorem od_div : OpR X (binaryOp .FloorDiv) (rD X.K divD) := by
  refine opr_imp op_fdivW fun v w H Q ⟨F, x, y, z, s, rv, rw', hz, q⟩ => ?_
  unfold divD at hz
  split at hz
  · split at hz
    · rename_i hc
      cases hz
      exact ⟨_, _, inv_int rv, inv_int rw', hc, q F H _ (New.refl s) (.int _)⟩
    · cases hz
  · cases hz
def modD : D → D → Option D
  | .int i, .int j => if 0 < j then some (.int (i % j)) else none
  | _, _ => none
theorem od_mod : OpR X (binaryOp .Mod) (rD X.K modD) := by
  refine opr_imp op_mod fun v w H Q ⟨F, x, y, z, s, rv, rw', hz, q⟩ => ?_
  unfold modD at hz
  split at hz
  · split at hz
    · rename_i hc
      cases hz
      exact ⟨_, _, inv_int rv, inv_int rw', hc, q F H _ (New.refl s) (.int _)⟩
    · cases hz
  · cases hz
instance : DecidableRel CPow := fun i j => inferInstanceAs (Decidable (0 ≤ j ∧ j ≤ 1000000 ∧ i.natAbs < 2 ^ 64))
def powD : D → D → Option D
  | .int i, .int j => if CPow i j then some (.int (i ^ j.toNat)) else none
  | _, _ => none
theorem od_pow : OpR X (binaryOp .Pow) (rD X.K powD) := by
  refine opr_imp op_pow fun v w H Q ⟨F, x, y, z, s, rv, rw', hz, q⟩ => ?_
  unfold powD at hz
  split at hz
  · split at hz
    · rename_i hc
      cases hz
      exact ⟨_, _, inv_int rv, inv_int rw', hc, q F H _ (New.refl s) (.int _)⟩
    · cases hz
  · cases hz
/-! ### comparisons -/
def ltD : D → D → Option D
  | .int i, .int j => some (.bool (decide (i < j)))
  | _, _ => none
def leD : D → D → Option D
  | .int i, .int j => some (.bool (decide (i ≤ j)))
  | _, _ => none
def gtD : D → D → Option D
  | .int i, .int j => some (.bool (decide (j < i)))
  | _, _ => none
def geD : D → D → Option D
  | .int i, .int j => some (.bool (decide (j ≤ i)))
  | _, _ => none
theorem od_lt : OpR X (compareOp .Lt) (rD X.K ltD) := by
  refine opr_imp op_lt fun v w H Q ⟨F, x, y, z, s, rv, rw', hz, q⟩ => ?_
  unfold ltD at hz
  split at hz
  · cases hz
    exact ⟨_, _, inv_int rv, inv_int rw', q F H _ (New.refl s) (.bl _)⟩
  · cases hz
theorem od_le : OpR X (compareOp .LtE) (rD X.K leD) := by
  refine opr_imp op_le fun v w H Q ⟨F, x, y, z, s, rv, rw', hz, q⟩ => ?_
  unfold leD at hz
  split at hz
  · cases hz
    exact ⟨_, _, inv_int rv, inv_int rw', q F H _ (New.refl s) (.bl _)⟩
  · cases hz
theorem od_gt : OpR X (compareOp .Gt) (rD X.K gtD) := by
  refine opr_imp op_gt fun v w H Q ⟨F, x, y, z, s, rv, rw', hz, q⟩ => ?_
  unfold gtD at hz
  split at hz
  · cases hz
    exact ⟨_, _, inv_int rv, inv_int rw', q F H _ (New.refl s) (.bl _)⟩
  · cases hz
theorem od_ge : OpR X (compareOp .GtE) (rD X.K geD) := by
  refine opr_imp op_ge fun v w H Q ⟨F, x, y, z, s, rv, rw', hz, q⟩ => ?_
  unfold geD at hz
  split at hz
  · cases hz
    exact ⟨_, _, inv_int rv, inv_int rw', q F H _ (New.refl s) (.bl _)⟩
  · cases hz
def eqD : D → D → Option D
  | .str x, .str y => some (.bool (decide (x = y)))
  | x, y => if SeqAt.shaped x = true ∧ SeqAt.shaped y = true then some (.bool (PyData.eqv x y)) else none
def neD : D → D → Option D
  | .str x, .str y => some (.bool (!decide (x = y)))
  | x, y => if SeqAt.shaped x = true ∧ SeqAt.shaped y = true then some (.bool (!PyData.eqv x y)) else none
theorem dec_vstr (x y : Str) : decide (V.str x = V.str y) = decide (x = y) := by
  by_cases h : x = y
  · rw [decide_eq_true h, h, decide_eq_true rfl]
  · rw [decide_eq_false h, decide_eq_false fun e => h (V.str.inj e)]
theorem dp_of {K : Frag} {F H : Hp} {v : V} {x : D} (s : Same F H) (h : RpB K F H v x) (q : SeqAt.shaped x = true) : Dp K H v x := by
  have q := SeqAt.canLay_of_shaped q
  cases h with
  | d r => exact (r.mono s).dp q
  | lst h r => exact .lst (.of h) (RpAll.dp (r.mono s) (by simpa [PyData.canLay0] using q))
  | dcK _ _ => simp [PyData.canLay0] at q
theorem od_eq (hu : X.A.units + 64 < cLine) : OpR X (compareOp .Eq) (rD X.K eqD) := by
  refine opr_imp (op_eq.or (op_eqD hu)) fun v w H Q ⟨F, x, y, z, s, rv, rw', hz, q⟩ => ?_
  unfold eqD at hz
  split at hz
  · cases hz
    rw [inv_str rv, inv_str rw']
    refine .inl ⟨rfl, ?_⟩
    rw [dec_vstr]
    exact q F H _ (New.refl s) (.bl _)
  · split at hz
    · rename_i hc
      cases hz
      exact .inr ⟨_, _, dp_of s rv hc.1, dp_of s rw' hc.2, hc.1, hc.2, q F H _ (New.refl s) (.bl _)⟩
    · cases hz
theorem od_ne (hu : X.A.units + 64 < cLine) : OpR X (compareOp .NotEq) (rD X.K neD) := by
  refine opr_imp (op_ne.or (op_neD hu)) fun v w H Q ⟨F, x, y, z, s, rv, rw', hz, q⟩ => ?_
  unfold neD at hz
  split at hz
  · cases hz
    rw [inv_str rv, inv_str rw']
    refine .inl ⟨rfl, ?_⟩
    rw [dec_vstr]
    exact q F H _ (New.refl s) (.bl _)
  · split at hz
    · rename_i hc
      cases hz
      exact .inr ⟨_, _, dp_of s rv hc.1, dp_of s rw' hc.2, hc.1, hc.2, q F H _ (New.refl s) (.bl _)⟩
    · cases hz
/-- is None, is True .. -/
def isD : D → D → Option D
  | .none, .none => some (.bool true)
  | .bool a, .bool b => some (.bool (decide (a = b)))
  | _, .none => some (.bool false)
  | _, _ => none
def isntD (x y : D) : Option D := match isD x y with
  | some (.bool b) => some (.bool (!b))
  | _ => none
theorem non_of {K : Frag} {F H : Hp} {v : V} {x : D} (h : RpB K F H v x) (e : x ≠ .none) : v ≠ .non := by
  cases h with
  | d r => cases r with
    | non => exact absurd rfl e
    | _ => intro q; cases q
  | _ => intro q; cases q
theorem isD_bool {x y z : D} (h : isD x y = some z) : ∃ b, z = .bool b := by
  unfold isD at h
  split at h <;> first | (cases h; exact ⟨_, rfl⟩) | cases h
theorem is_cases {K : Frag} {F H : Hp} {v w : V} {x y : D} {b : Bool} (hz : isD x y = some (.bool b)) (rv : RpB K F H v x) (rw' : RpB K F H w y) : (w = .non ∧ b = decide (v = .non)) ∨ ∃ a c : Bool, v = .bl a ∧ w = .bl c ∧ b = decide (a = c) := by
  unfold isD at hz
  split at hz
  · cases hz
    exact .inl ⟨inv_none rw', by rw [inv_none rv] <;> rfl⟩
  · cases hz
    exact .inr ⟨_, _, inv_bool rv, inv_bool rw', rfl⟩
  · rename_i x' hne
    cases hz
    refine .inl ⟨inv_none rw', (decide_eq_false (non_of rv fun e => ?_)).symm⟩
    first
      | exact hne e
      | (subst e; contradiction)
  · cases hz
theorem od_is : OpR X (compareOp .Is) (rD X.K isD) := by
  refine opr_imp (op_isN.or op_isBl) fun v w H Q ⟨F, x, y, z, s, rv, rw', hz, q⟩ => ?_
  obtain ⟨b, rfl⟩ := isD_bool hz
  rcases is_cases hz rv rw' with ⟨e, rfl⟩ | ⟨a, c, e1, e2, rfl⟩
  · exact .inl ⟨e, q F H _ (New.refl s) (.bl _)⟩
  · exact .inr ⟨a, c, e1, e2, q F H _ (New.refl s) (.bl _)⟩
theorem od_isnt : OpR X (compareOp .IsNot) (rD X.K isntD) := by
  refine opr_imp (op_notN.or op_notBl) fun v w H Q ⟨F, x, y, z, s, rv, rw', hz, q⟩ => ?_
  unfold isntD at hz
  split at hz
  · rename_i b hb
    cases hz
    rcases is_cases hb rv rw' with ⟨e, rfl⟩ | ⟨a, c, e1, e2, rfl⟩
    · exact .inl ⟨e, q F H _ (New.refl s) (.bl _)⟩
    · exact .inr ⟨a, c, e1, e2, q F H _ (New.refl s) (.bl _)⟩
  · cases hz
/-! ### in -/
def allStr (xs : List D) : Option (List Str) := match xs with
  | [] => some []
  | .str x :: r => (allStr r).map fun l => x :: l
  | _ => none
/-- whether a datum stands in a list of data -/
def memD (x : D) (xs : List D) : Option Bool := match x, allStr xs with
  | .str z, some l => some (decide (z ∈ l))
  | _, _ => if SeqAt.shaped x = true ∧ SeqAt.shaped (.list xs) = true then some (xs.any fun y => PyData.eqv y x) else none
def lookD (x : D) : List (D × D) → Option D
  | [] => none
  | (k, v) :: r => if PyData.eqv k x = true then some v else lookD x r
def strIn (x z : Str) : Bool := match x.cps.toList with
  | [c] => decide (c ∈ z.cps.toList)
  | _ => !(Builtin.Str.occurrences z x 0 z.length 1).isEmpty
theorem strIn_cases (x z : Str) : (∃ c, x = ⟨#[c]⟩ ∧ strIn x z = decide (c ∈ z.cps.toList)) ∨ strIn x z = !(Builtin.Str.occurrences z x 0 z.length 1).isEmpty := by
  unfold strIn
  split
  · rename_i c h
    refine .inl ⟨c, ?_, rfl⟩
    obtain ⟨a⟩ := x
    have e : a = #[c] := by
      apply Array.toList_inj.mp
      exact h
    rw [e]
  · exact .inr rfl
def inB : D → D → Option Bool
  | .str x, .str z => some (strIn x z)
  | x, .list xs => memD x xs
  | x, .tuple xs => memD x xs
  | _, _ => none
def inD (x y : D) : Option D := (inB x y).map .bool
def ninD (x y : D) : Option D := (inB x y).map fun b => .bool (!b)
theorem allStr_ok {K : Frag} {F : Hp} : ∀ {xs : List D} {l : List Str} {vs : List V}, allStr xs = some l → RpAll K F vs xs → vs = l.map V.str
  | [], l, vs, h, r => by
    cases r
    cases h
    rfl
  | x :: xs, l, vs, h, r => by
    cases r with
    | cons r1 r2 =>
      unfold allStr at h
      split at h
      · rename_i e
        cases e
      · rename_i z r' e
        cases e
        obtain ⟨l', h1, rfl⟩ := Option.map_eq_some_iff.mp h
        cases r1
        rw [allStr_ok h1 r2]
        rfl
      · cases h
theorem flat_strs' (l : List Str) : (l.map V.str).all flatV = true := by
  induction l with
  | nil => rfl
  | cons x l ih => rw [List.map_cons, List.all_cons, ih]; rfl
theorem inV_strs (z : Str) (l : List Str) : inV (.str z) (l.map V.str) = decide (z ∈ l) := by
  induction l with
  | nil => rfl
  | cons x l ih =>
    have e : inV (.str z) ((x :: l).map V.str) = ((x == z) || inV (.str z) (l.map V.str)) := rfl
    rw [e, ih]
    by_cases h : x = z
    · subst h; simp
    · have h2 : ¬ z = x := fun e => h e.symm
      simp [h, h2]
theorem sq_dp {K : Frag} {F H : Hp} {p : Addr} {vs : List V} {xs : List D} (s : Same F H) (h : SqT K F p vs) (r : RpAll K F vs xs) (q : SeqAt.shaped (.list xs) = true) : Dp K H (.ref p) (.tuple xs) :=
  .tup (sq_t s h) (RpAll.dp (r.mono s) (SeqAt.canLay_of_shaped q))
theorem room_all {A : Around} {x : D} {xs : List D} (h : SeqAt.shaped x = true) (hu : A.units + 65 < cLine) : A.units + 1 + min (PyData.depthAll xs) x.depth < cLine := by
  have h1 := SeqAt.depth_of_shaped h
  have h2 : min (PyData.depthAll xs) x.depth ≤ x.depth := Nat.min_le_right _ _
  omega
/-- x in t, t a tuple of data -/
def rInTup (K : Frag) (neg : Bool) : R2 := fun x y H Q => ∃ d ds, Dp K H x d ∧ Dp K H y (.tuple ds) ∧ SeqAt.shaped d = true ∧ SeqAt.shaped (.list ds) = true ∧ Q (.bl (if neg then !(ds.any fun z => PyData.eqv z d) else ds.any fun z => PyData.eqv z d)) H
theorem or_inTup (hu : X.A.units + 65 < cLine) : OpR X (compareOp .In) (rInTup X.K false) := by
  intro pins s σ H x y v u Q I rx ry h
  obtain ⟨d, ds, hd, he, sd, se, q⟩ := h
  obtain ⟨as, r1⟩ := Dp.reads I d x v hd rx
  obtain ⟨bs, r2⟩ := Dp.reads I (.tuple ds) y u he ry
  exact SeqAt.in_tuple_reads r2 r1 (SeqAt.canLay_of_shaped se) (SeqAt.canLay_of_shaped sd) (room_all sd hu) ⟨.bl _, H, I, rfl, q⟩
theorem or_ninTup (hu : X.A.units + 65 < cLine) : OpR X (compareOp .NotIn) (rInTup X.K true) := by
  intro pins s σ H x y v u Q I rx ry h
  obtain ⟨d, ds, hd, he, sd, se, q⟩ := h
  obtain ⟨as, r1⟩ := Dp.reads I d x v hd rx
  obtain ⟨bs, r2⟩ := Dp.reads I (.tuple ds) y u he ry
  exact SeqAt.notIn_tuple_reads r2 r1 (SeqAt.canLay_of_shaped se) (SeqAt.canLay_of_shaped sd) (room_all sd hu) ⟨.bl _, H, I, rfl, q⟩
theorem mem_cases {x : D} {xs : List D} {b : Bool} (h : memD x xs = some b) : (∃ z l, x = .str z ∧ allStr xs = some l ∧ b = decide (z ∈ l)) ∨ (SeqAt.shaped x = true ∧ SeqAt.shaped (.list xs) = true ∧ b = xs.any fun y => PyData.eqv y x) := by
  unfold memD at h
  split at h
  · rename_i z l hl
    cases h
    exact .inl ⟨_, _, rfl, hl, rfl⟩
  · split at h
    · rename_i hc
      cases h
      exact .inr ⟨hc.1, hc.2, rfl⟩
    · cases h
theorem od_in (hu : X.A.units + 65 < cLine) : OpR X (compareOp .In) (rD X.K inD) := by
  refine opr_imp (op_in_sign.or (op_in_str.or (op_in_seq.or ((op_inD hu).or (or_inTup hu))))) fun v w H Q ⟨F, x, y, z, s, rv, rw', hz, q⟩ => ?_
  obtain ⟨b, hb, rfl⟩ := Option.map_eq_some_iff.mp hz
  have qq := q F H _ (New.refl s) (.bl b)
  unfold inB at hb
  split at hb
  · cases hb
    rename_i x z
    rcases strIn_cases x z with ⟨c, e, e2⟩ | e2
    · rw [e2] at qq
      exact .inl ⟨c, z, by rw [inv_str rv, e], inv_str rw', qq⟩
    · rw [e2] at qq
      exact .inr (.inl ⟨_, _, inv_str rv, inv_str rw', qq⟩)
  · obtain ⟨p, vs, e, h1, r1⟩ := inv_list s rw'
    rcases mem_cases hb with ⟨t, l, rfl, hl, rfl⟩ | ⟨c1, c2, rfl⟩
    · have ev := allStr_ok hl r1
      subst ev
      rw [inv_str rv]
      refine .inr (.inr (.inl ⟨p, _, e, .inl (.of h1), rfl, flat_strs' l, ?_⟩))
      rw [if_neg Bool.false_ne_true, inV_strs]
      exact qq
    · exact .inr (.inr (.inr (.inl ⟨_, _, dp_of s rv c1, dp_of s rw' c2, c1, c2, qq⟩)))
  · obtain ⟨p, vs, e, h1, r1⟩ := inv_tup rw'
    rcases mem_cases hb with ⟨t, l, rfl, hl, rfl⟩ | ⟨c1, c2, rfl⟩
    · have ev := allStr_ok hl r1
      subst ev
      rw [inv_str rv]
      refine .inr (.inr (.inl ⟨p, _, e, .inr (sq_t s h1), rfl, flat_strs' l, ?_⟩))
      rw [if_neg Bool.false_ne_true, inV_strs]
      exact qq
    · rw [e]
      refine .inr (.inr (.inr (.inr ⟨_, _, dp_of s rv c1, sq_dp s h1 r1 c2, c1, c2, ?_⟩)))
      rw [if_neg Bool.false_ne_true]
      exact qq
  · cases hb
theorem od_nin (hu : X.A.units + 65 < cLine) : OpR X (compareOp .NotIn) (rD X.K ninD) := by
  refine opr_imp (op_notIn_sign.or (op_notin_str.or (op_notIn_seq.or ((op_notInD hu).or (or_ninTup hu))))) fun v w H Q ⟨F, x, y, z, s, rv, rw', hz, q⟩ => ?_
  obtain ⟨b, hb, rfl⟩ := Option.map_eq_some_iff.mp hz
  have qq := q F H _ (New.refl s) (.bl (!b))
  unfold inB at hb
  split at hb
  · cases hb
    rename_i x z
    rcases strIn_cases x z with ⟨c, e, e2⟩ | e2
    · rw [e2] at qq
      exact .inl ⟨c, z, by rw [inv_str rv, e], inv_str rw', qq⟩
    · rw [e2] at qq
      exact .inr (.inl ⟨_, _, inv_str rv, inv_str rw', qq⟩)
  · obtain ⟨p, vs, e, h1, r1⟩ := inv_list s rw'
    rcases mem_cases hb with ⟨t, l, rfl, hl, rfl⟩ | ⟨c1, c2, rfl⟩
    · have ev := allStr_ok hl r1
      subst ev
      rw [inv_str rv]
      refine .inr (.inr (.inl ⟨p, _, e, .inl (.of h1), rfl, flat_strs' l, ?_⟩))
      rw [if_pos rfl, inV_strs]
      exact qq
    · exact .inr (.inr (.inr (.inl ⟨_, _, dp_of s rv c1, dp_of s rw' c2, c1, c2, qq⟩)))
  · obtain ⟨p, vs, e, h1, r1⟩ := inv_tup rw'
    rcases mem_cases hb with ⟨t, l, rfl, hl, rfl⟩ | ⟨c1, c2, rfl⟩
    · have ev := allStr_ok hl r1
      subst ev
      rw [inv_str rv]
      refine .inr (.inr (.inl ⟨p, _, e, .inr (sq_t s h1), rfl, flat_strs' l, ?_⟩))
      rw [if_pos rfl, inV_strs]
      exact qq
    · rw [e]
      refine .inr (.inr (.inr (.inr ⟨_, _, dp_of s rv c1, sq_dp s h1 r1 c2, c1, c2, ?_⟩)))
      rw [if_pos rfl]
      exact qq
  · cases hb
end
end DL
end
section
set_option maxRecDepth 100000
set_option maxHeartbeats 2000000
/-! The functional layer, part 5: new lists, built-in functions, places of a thing. -/
namespace DL
open PySem PySem.Spec PyProof.Rows L2
/-! ### a new list, not yet frozen -/
def PN (K : Frag) (c : Ct) (pu : Bool) (F H : Hp) (σ : Sl) (Q : VK) (xs : List D) (ρ' : Env) : Prop :=
  ∀ F' H' O' p vs, EnvR K c F' H' σ ρ' O' → Same F F' → (pu = true → Same H H') → H' p = some (.lst vs) → RpAll K F' vs xs → Apart c F' [p] O' → Q (.ref p) H'
def tn (K : Frag) (c : Ct) (pu : Bool) (m : M (List D)) : TE := fun σ H Q => ∃ F ρ O, EnvR K c F H σ ρ O ∧ (m ρ).post (PN K c pu F H σ Q) (PX K c σ)
section
variable {X : Cx} {c : Ct} {e : Expr} {pos : Pos} {pu : Bool} {ml : M (List D)}
theorem so_n (h : PE X e (tn X.K c pu ml)) : PE X e (to X.K c (mLst ml)) := h.imp fun σ H Q ⟨F, ρ, O, e, h1⟩ =>
  ⟨F, ρ, O, e, Res.post_imp (Res.post_bind h1) (fun xs ρ1 h2 F' H' O' p vs e' s' p' h3 h4 h5 => h2 F' H' O' [p] _ e' s' (.lst h3 h4) h5) fun _ _ h => h⟩
theorem se_n (h : PE X e (tn X.K c pu ml)) : PE X e (te X.K c false pu (mLstF ml)) := h.imp fun σ H Q ⟨F, ρ, O, e, h1⟩ =>
  ⟨F, ρ, O, e, Res.post_imp (Res.post_bind h1) (fun xs ρ1 h2 F' H' O' p vs e' s' p' h3 h4 h5 => by
    have s2 : Same F' (frzF F' H' [p]) := frz_same fun q hq => (h5.ow q hq).1
    exact h2 _ H' O' _ (e'.frz h5) (s'.trans s2) p' (.lst ((frz_in (List.mem_singleton_self _)).trans h3) (h4.mono s2))) fun _ _ h => h⟩
theorem n_lst {es : List Expr} {ms : M (List D)} (h : SA X c es pu ms) (hl : es.length ≤ 1000 := by exact Nat.le_of_ble_eq_true rfl) : PE X (.List es pos) (tn X.K c pu ms) := (pe_lst h.pa).imp fun σ H Q ⟨F, ρ, O, e, h1⟩ => by
  have h1' : ((ms ρ).bind fun xs ρ1 => .ok xs ρ1).post (PN X.K c pu F H σ Q) (PX X.K c σ) := by
    cases q : ms ρ <;> rw [q] at h1 <;> exact h1
  refine ta_step e h1' fun xs ρ1 F1 H1 O1 vs hm h2 e1 s1 p1 v1 => ⟨by rw [v1.length, h.len _ _ _ hm]; exact few hl, fun p hp => ?_⟩
  have n := New.own e1.sub hp (.lst vs)
  exact h2 _ _ O1 p vs (e1.new n) s1 (fun q => (p1 q).trans n.hH) upd_same v1 (e1.apart hp)
end
/-- a call's answer: a new list by data -/
def NewL (K : Frag) (F H : Hp) (xs : List D) (Q : VK) : Prop := ∀ H' p vs, H p = none → New F H F H' → H' p = some (.lst vs) → RpAll K F vs xs → Q (.ref p) H'
theorem newL_upd {K : Frag} {F H : Hp} {xs : List D} {vs : List V} {Q : VK} (s : Same F H) (q : NewL K F H xs Q) (r : RpAll K F vs xs) : ∀ p, H p = none → Q (.ref p) (upd H p (.lst vs)) := fun p hp => q _ p vs hp (New.own s hp _) upd_same r
/-- one argument by data, and what comes by data -/
def rD1 (K : Frag) (g : D → Option D) : List V → Hp → VK → Prop := fun vs H Q => ∃ F v x z, vs = [v] ∧ Same F H ∧ RpB K F H v x ∧ g x = some z ∧ ∀ F' H' u, New F H F' H' → Rp K F' u z → Q u H'
def rN1 (K : Frag) (g : D → Option (List D)) : List V → Hp → VK → Prop := fun vs H Q => ∃ F v x z, vs = [v] ∧ Same F H ∧ RpB K F H v x ∧ g x = some z ∧ NewL K F H z Q
def mF1 (g : D → Option D) (m : M D) : M D := fun ρ => (m ρ).bind fun x ρ1 => ofO (g x) ρ1
def mFN (g : D → Option (List D)) (m : M D) : M (List D) := fun ρ => (m ρ).bind fun x ρ1 => ofO (g x) ρ1
/-- one looked-at argument -/
def PA1 (K : Frag) (c : Ct) (pu : Bool) (F H : Hp) (σ : Sl) (Q : List V → Hp → Prop) (x : D) (ρ' : Env) : Prop :=
  ∀ F' H' O' v, EnvR K c F' H' σ ρ' O' → Same F F' → (pu = true → Same H H') → RpB K F' H' v x → Q [v] H'
def ta1 (K : Frag) (c : Ct) (pu : Bool) (m : M D) : TA := fun σ H Q => ∃ F ρ O, EnvR K c F H σ ρ O ∧ (m ρ).post (PA1 K c pu F H σ Q) (PX K c σ)
section
variable {X : Cx} {c : Ct} {e : Expr} {pos p : Pos} {ka pu : Bool} {me : M D} {g : D → Option D} {gl : D → Option (List D)} {id T : String} {f : Value} {x : Str}
theorem call_imp {r r' : List V → Hp → VK → Prop} (h : CallR X f r) (k : ∀ vs H Q, r' vs H Q → r vs H Q) : CallR X f r' := fun pins s σ H xs us Q I rx q => h pins s σ H xs us Q I rx (k xs H Q q)
theorem sa_1 (ha : PE X e (te X.K c ka pu me)) (hs : starEach [e] X.env = (false, eval e X.env) :: starEach [] X.env := by rfl) : PA X [e] (ta1 X.K c pu me) := (pa_cons ha pa_nil hs).imp fun σ H Q ⟨F, ρ, O, e, h⟩ =>
  ⟨F, ρ, O, e, Res.post_imp h (fun x ρ1 h1 F1 H1 O1 v e1 s1 q1 v1 => h1 F1 H1 O1 v e1 s1 q1 v1.up0) fun _ _ h => h⟩
theorem ta1_d {σ : Sl} {H : Hp} {Q : VK} (h : te X.K c false pu (mF1 g me) σ H Q) : ta1 X.K c pu me σ H fun vs H1 => rD1 X.K g vs H1 Q := by
  obtain ⟨F, ρ, O, e, h⟩ := h
  refine ⟨F, ρ, O, e, Res.post_imp (Res.post_bind h) (fun x ρ1 h1 F1 H1 O1 v e1 s1 q1 v1 => ?_) fun _ _ h => h⟩
  obtain ⟨z, hz, h2⟩ := post_ofO h1
  exact ⟨F1, v, x, z, rfl, e1.sub, v1, hz, fun F' H' u n r => h2 F' H' O1 u (e1.new n) (s1.trans n.fF) (fun hp => (q1 hp).trans n.hH) r⟩
theorem ta1_n {σ : Sl} {H : Hp} {Q : VK} (h : tn X.K c pu (mFN gl me) σ H Q) : ta1 X.K c pu me σ H fun vs H1 => rN1 X.K gl vs H1 Q := by
  obtain ⟨F, ρ, O, e, h⟩ := h
  refine ⟨F, ρ, O, e, Res.post_imp (Res.post_bind h) (fun x ρ1 h1 F1 H1 O1 v e1 s1 q1 v1 => ?_) fun _ _ h => h⟩
  obtain ⟨z, hz, h2⟩ := post_ofO h1
  exact ⟨F1, v, x, z, rfl, e1.sub, v1, hz, fun H' p vs hp n h3 r => h2 F1 H' O1 p vs (e1.new n) s1 (fun hp => (q1 hp).trans n.hH) h3 r (e1.apart hp)⟩
theorem se_b1 (hc : CallR X (.builtin id) (rD1 X.K g)) (hm : X.mg x = none) (ha : PE X e (te X.K c ka pu me)) (hg : Gl X x := by rfl) (hv : bootBuiltins x = some (.builtin id) := by decide +kernel) (hn : x ≠ "__name__" := by decide) (hdb : (x == ("__debug__" : Str)) = false := by decide)
    (hs : starEach [e] X.env = (false, eval e X.env) :: starEach [] X.env := by rfl) (hpl : (backTo pos (starEach [] X.env)).any (·.1) = false := by rfl) : PE X (.Call (.Name x p) [e] [] pos) (te X.K c false pu (mF1 g me)) :=
  (pe_callB hc hg hm hv (sa_1 ha hs) hn hdb hs hpl).imp fun σ H Q h => ta1_d h
theorem se_t1 (hc : CallR X (.type T) (rD1 X.K g)) (hm : X.mg x = none) (ha : PE X e (te X.K c ka pu me)) (hg : Gl X x := by rfl) (hv : bootBuiltins x = some (.type T) := by decide +kernel) (hn : x ≠ "__name__" := by decide) (hdb : (x == ("__debug__" : Str)) = false := by decide)
    (hs : starEach [e] X.env = (false, eval e X.env) :: starEach [] X.env := by rfl) (hpl : (backTo pos (starEach [] X.env)).any (·.1) = false := by rfl) : PE X (.Call (.Name x p) [e] [] pos) (te X.K c false pu (mF1 g me)) :=
  (pe_callTy hc hg hm hv (sa_1 ha hs) hn hdb hs hpl).imp fun σ H Q h => ta1_d h
theorem n_b1 (hc : CallR X (.builtin id) (rN1 X.K gl)) (hm : X.mg x = none) (ha : PE X e (te X.K c ka pu me)) (hg : Gl X x := by rfl) (hv : bootBuiltins x = some (.builtin id) := by decide +kernel) (hn : x ≠ "__name__" := by decide) (hdb : (x == ("__debug__" : Str)) = false := by decide)
    (hs : starEach [e] X.env = (false, eval e X.env) :: starEach [] X.env := by rfl) (hpl : (backTo pos (starEach [] X.env)).any (·.1) = false := by rfl) : PE X (.Call (.Name x p) [e] [] pos) (tn X.K c pu (mFN gl me)) :=
  (pe_callB hc hg hm hv (sa_1 ha hs) hn hdb hs hpl).imp fun σ H Q h => ta1_n h
theorem n_t1 (hc : CallR X (.type T) (rN1 X.K gl)) (hm : X.mg x = none) (ha : PE X e (te X.K c ka pu me)) (hg : Gl X x := by rfl) (hv : bootBuiltins x = some (.type T) := by decide +kernel) (hn : x ≠ "__name__" := by decide) (hdb : (x == ("__debug__" : Str)) = false := by decide)
    (hs : starEach [e] X.env = (false, eval e X.env) :: starEach [] X.env := by rfl) (hpl : (backTo pos (starEach [] X.env)).any (·.1) = false := by rfl) : PE X (.Call (.Name x p) [e] [] pos) (tn X.K c pu (mFN gl me)) :=
  (pe_callTy hc hg hm hv (sa_1 ha hs) hn hdb hs hpl).imp fun σ H Q h => ta1_n h
end

/-! ### len, int, str, abs, all, any, sum -/
theorem inv_dict {K : Frag} {F H : Hp} {v : V} {kvs : List (D × D)} (s : Same F H) (h : RpB K F H v (.dict kvs)) :
    (∃ p vs ds, v = .ref p ∧ kvs = [(.none, .list ds)] ∧ SqL K H p vs ∧ RpAll K F vs ds) ∨
    (∃ p kws ds, v = .ref p ∧ Rd H p (.dK kws) ∧ RpAll K F (kws.map (·.2)) ds ∧ kvs = (kws.map fun q => kD q.1).zip ds) := by
  generalize e : PyData.dict kvs = z at h
  cases h with
  | d r =>
    cases r with
    | scr h r => cases e; exact .inl ⟨_, _, _, rfl, rfl, sq_l s h, r⟩
    | dcK h r => cases e; exact .inr (⟨_, _, _, rfl, .inr ⟨_, s _ _ h⟩, r, rfl⟩)
    | _ => cases e
  | lst h r => cases e
  | dcK h r => cases e; exact .inr (⟨_, _, _, rfl, h, r, rfl⟩)
/-- the cells of the law's script -/
def cells (kvs : List (D × D)) : Option (List D) := match kvs with
  | [(.none, .list ds)] => some ds
  | _ => none
theorem cells_ok {kvs : List (D × D)} {ds : List D} (h : cells kvs = some ds) : kvs = [(.none, .list ds)] := by
  unfold cells at h
  split at h
  · cases h; rfl
  · cases h
theorem cells_no {α : Type} {f : α → D} (hf : ∀ a, f a ≠ .none) {kws : List α} {ds : List D} : cells ((kws.map f).zip ds) = none := by
  cases h : cells ((kws.map f).zip ds) with
  | none => rfl
  | some es =>
    obtain ⟨a, _, e2⟩ := zip_head (cells_ok h)
    exact absurd e2 (hf a)
theorem kD_no (k : Key) : kD k ≠ .none := fun e => by cases k <;> cases e
def lenD : D → Option D
  | .str x => if x.length ≤ sizeLine then some (.int x.length) else none
  | .list xs => some (.int xs.length)
  | .tuple xs => some (.int xs.length)
  | .dict kvs => match cells kvs with
    | some ds => some (.int ds.length)
    | none => some (.int kvs.length)
  | _ => none
theorem zip_len {α : Type} {kvs : List α} {f : α → D} {g : α → V} {K : Frag} {F : Hp} {ds : List D} (r : RpAll K F (kvs.map g) ds) : ((kvs.map f).zip ds).length = kvs.length := by
  have h := r.length
  rw [List.length_map] at h
  rw [List.length_zip, List.length_map, ← h, Nat.min_self]
theorem call_lenK {X : Cx} : CallR X (.builtin "len") (fun xs H Q => ∃ a kvs, xs = [V.ref a] ∧ Rd H a (.dK kvs) ∧ Q (.int kvs.length) H) := by
  intro pins s σ H xs us Q I r h
  obtain ⟨a, kvs, rfl, ha, q⟩ := h
  rw [Vals.ref1 r]
  exact d_len I ha fun t s' I' => ⟨.int kvs.length, H, I', ⟨_, rfl⟩, q⟩
theorem cd_len {X : Cx} : CallR X (.builtin "len") (rD1 X.K lenD) := by
  refine call_imp (CallR.or call_len call_lenK) fun vs H Q ⟨F, v, x, z, hv, s, rv, hz, q⟩ => ?_
  subst hv
  unfold lenD at hz
  split at hz
  · split at hz
    · rename_i hl
      cases hz
      exact .inl ⟨v, _, rfl, by rw [inv_str rv]; exact ⟨hl, rfl⟩, q F H _ (New.refl s) (.int _)⟩
    · cases hz
  · cases hz
    obtain ⟨p, ws, rfl, h1, r1⟩ := inv_list s rv
    exact .inl ⟨_, _, rfl, .inl ⟨ws, .of h1, r1.length.symm⟩, q F H _ (New.refl s) (.int _)⟩
  · cases hz
    obtain ⟨p, ws, rfl, h1, r1⟩ := inv_tup rv
    exact .inl ⟨_, _, rfl, .inr ⟨ws, sq_t s h1, r1.length.symm⟩, q F H _ (New.refl s) (.int _)⟩
  · rename_i kvs
    rcases inv_dict s rv with ⟨p, ws, ds, rfl, e1, h1, r1⟩ | ⟨p, kws, ds, rfl, h1, r1, e1⟩
    · subst e1
      cases hz
      exact .inl ⟨_, _, rfl, .inl ⟨ws, h1, r1.length.symm⟩, q F H _ (New.refl s) (.int _)⟩
    · subst e1
      rw [cells_no (f := fun q : Key × V => kD q.1) fun a => kD_no a.1] at hz
      simp only [Option.some.injEq] at hz
      subst hz
      refine .inr ⟨p, kws, rfl, h1, ?_⟩
      have z := q F H (.int ((((kws.map fun q => kD q.1).zip ds).length : Nat) : Int)) (New.refl s) (.int _)
      rw [zip_len r1] at z
      exact z
  · cases hz
def intD : D → Option D
  | .int i => some (.int i)
  | .bool b => some (.int (if b then 1 else 0))
  | _ => none
theorem cd_int {X : Cx} : CallR X (.type "int") (rD1 X.K intD) := by
  refine call_imp call_int1 fun vs H Q ⟨F, v, x, z, hv, s, rv, hz, q⟩ => ?_
  subst hv
  unfold intD at hz
  split at hz
  · cases hz; exact .inl ⟨_, by rw [inv_int rv], q F H _ (New.refl s) (.int _)⟩
  · cases hz; exact .inr ⟨_, by rw [inv_bool rv], q F H _ (New.refl s) (.int _)⟩
  · cases hz
def strD : D → Option D
  | .int i => if i.natAbs.log2 < 1920 then some (.str (toString i)) else none
  | _ => none
theorem cd_str {X : Cx} : CallR X (.type "str") (rD1 X.K strD) := by
  refine call_imp call_str_int fun vs H Q ⟨F, v, x, z, hv, s, rv, hz, q⟩ => ?_
  subst hv
  unfold strD at hz
  split at hz
  · split at hz
    · rename_i hl
      cases hz; exact ⟨_, by rw [inv_int rv], hl, q F H _ (New.refl s) (.str _)⟩
    · cases hz
  · cases hz
def absD : D → Option D
  | .int i => some (.int (if i < 0 then -i else i))
  | _ => none
theorem cd_abs {X : Cx} : CallR X (.builtin "abs") (rD1 X.K absD) := by
  refine call_imp call_abs fun vs H Q ⟨F, v, x, z, hv, s, rv, hz, q⟩ => ?_
  subst hv
  unfold absD at hz
  split at hz
  · cases hz; exact ⟨_, by rw [inv_int rv], q F H _ (New.refl s) (.int _)⟩
  · cases hz
def boolsD : List D → Option (List Bool)
  | [] => some []
  | .bool b :: r => (boolsD r).map (b :: ·)
  | _ => none
theorem bools_ok {K : Frag} {F : Hp} : ∀ {ds : List D} {bs : List Bool} {vs : List V}, boolsD ds = some bs → RpAll K F vs ds → vs = bs.map V.bl
  | [], _, _, h, .nil => by cases h; rfl
  | .bool b :: r, _, _, h, .cons (vs := vs) r1 r2 => by
    unfold boolsD at h
    cases e : boolsD r with
    | none => rw [e] at h; cases h
    | some bs =>
      rw [e] at h
      cases h
      cases r1
      rw [bools_ok e r2]
      rfl
  | .none :: _, _, _, h, _ => by cases h
  | .int _ :: _, _, _, h, _ => by cases h
  | .str _ :: _, _, _, h, _ => by cases h
  | .list _ :: _, _, _, h, _ => by cases h
  | .tuple _ :: _, _, _, h, _ => by cases h
  | .dict _ :: _, _, _, h, _ => by cases h
def allD : D → Option D
  | .list ds => (boolsD ds).map fun bs => .bool (bs.all id)
  | _ => none
def anyD : D → Option D
  | .list ds => (boolsD ds).map fun bs => .bool (bs.any id)
  | _ => none
theorem cd_all {X : Cx} (hc : X.calm = true) : CallR X (.builtin "all") (rD1 X.K allD) := by
  refine call_imp (cr_all hc) fun vs H Q ⟨F, v, x, z, hv, s, rv, hz, q⟩ => ?_
  subst hv
  unfold allD at hz
  split at hz
  · obtain ⟨bs, h1, rfl⟩ := Option.map_eq_some_iff.mp hz
    obtain ⟨p, ws, rfl, h2, r1⟩ := inv_list s rv
    have e := bools_ok h1 r1
    subst e
    exact ⟨p, bs, rfl, .of h2, q F H _ (New.refl s) (.bl _)⟩
  · cases hz
theorem cd_any {X : Cx} (hc : X.calm = true) : CallR X (.builtin "any") (rD1 X.K anyD) := by
  refine call_imp (cr_any hc) fun vs H Q ⟨F, v, x, z, hv, s, rv, hz, q⟩ => ?_
  subst hv
  unfold anyD at hz
  split at hz
  · obtain ⟨bs, h1, rfl⟩ := Option.map_eq_some_iff.mp hz
    obtain ⟨p, ws, rfl, h2, r1⟩ := inv_list s rv
    have e := bools_ok h1 r1
    subst e
    exact ⟨p, bs, rfl, .of h2, q F H _ (New.refl s) (.bl _)⟩
  · cases hz
def intsD : List D → Option (List Int)
  | [] => some []
  | .int b :: r => (intsD r).map (b :: ·)
  | _ => none
theorem ints_ok {K : Frag} {F : Hp} : ∀ {ds : List D} {bs : List Int} {vs : List V}, intsD ds = some bs → RpAll K F vs ds → vs = bs.map V.int
  | [], _, _, h, .nil => by cases h; rfl
  | .int b :: r, _, _, h, .cons (vs := vs) r1 r2 => by
    unfold intsD at h
    cases e : intsD r with
    | none => rw [e] at h; cases h
    | some bs =>
      rw [e] at h
      cases h
      cases r1
      rw [ints_ok e r2]
      rfl
  | .none :: _, _, _, h, _ => by cases h
  | .bool _ :: _, _, _, h, _ => by cases h
  | .str _ :: _, _, _, h, _ => by cases h
  | .list _ :: _, _, _, h, _ => by cases h
  | .tuple _ :: _, _, _, h, _ => by cases h
  | .dict _ :: _, _, _, h, _ => by cases h
def sumD : D → Option D
  | .list ds => (intsD ds).map fun bs => .int bs.sum
  | _ => none
theorem cd_sum {X : Cx} (hc : X.calm = true) : CallR X (.builtin "sum") (rD1 X.K sumD) := by
  refine call_imp (cr_sum hc) fun vs H Q ⟨F, v, x, z, hv, s, rv, hz, q⟩ => ?_
  subst hv
  unfold sumD at hz
  split at hz
  · obtain ⟨bs, h1, rfl⟩ := Option.map_eq_some_iff.mp hz
    obtain ⟨p, ws, rfl, h2, r1⟩ := inv_list s rv
    have e := ints_ok h1 r1
    subst e
    exact ⟨p, bs, rfl, .of h2, q F H _ (New.refl s) (.int _)⟩
  · cases hz
/-! ### list(x), tuple(x) -/
def listD : D → Option (List D)
  | .list xs => some xs
  | .tuple xs => some xs
  | .dict kvs => cells kvs
  | _ => none
theorem cd_list {X : Cx} : CallR X (.type "list") (rN1 X.K listD) := by
  refine call_imp call_list_of fun vs H Q ⟨F, v, x, z, hv, s, rv, hz, q⟩ => ?_
  subst hv
  unfold listD at hz
  split at hz
  · cases hz
    obtain ⟨p, ws, rfl, h2, r1⟩ := inv_list s rv
    exact ⟨p, ws, rfl, .inl (.of h2), newL_upd s q r1⟩
  · cases hz
    obtain ⟨p, ws, rfl, h2, r1⟩ := inv_tup rv
    exact ⟨p, ws, rfl, .inr (sq_t s h2), newL_upd s q r1⟩
  · have e := cells_ok hz
    subst e
    obtain ⟨p, ws, rfl, h2, r1⟩ := inv_scr s rv
    exact ⟨p, ws, rfl, .inl h2, newL_upd s q r1⟩
  · cases hz
def tupD : D → Option D
  | .list xs => some (.tuple xs)
  | .tuple xs => some (.tuple xs)
  | _ => none
theorem cd_tup {X : Cx} : CallR X (.type "tuple") (rD1 X.K tupD) := by
  refine call_imp call_tuple_of fun vs H Q ⟨F, v, x, z, hv, s, rv, hz, q⟩ => ?_
  subst hv
  unfold tupD at hz
  split at hz
  · cases hz
    obtain ⟨p, ws, rfl, h2, r1⟩ := inv_list s rv
    refine ⟨p, ws, rfl, .inl ⟨.of h2, fun l hl => ?_⟩⟩
    have n := New.one s hl (.tup ws)
    exact q _ _ _ n (.tup (.of upd_same) (r1.mono n.fF))
  · cases hz
    obtain ⟨p, ws, rfl, h2, r1⟩ := inv_tup rv
    exact ⟨p, ws, rfl, .inr ⟨sq_t s h2, q F H _ (New.refl s) (.tup h2 r1)⟩⟩
  · cases hz
/-! ### a[i] -/
def ixD : D → D → Option D
  | .list xs, .int i => atI xs i
  | .tuple xs, .int i => atI xs i
  | .str z, .int i => if z.length ≤ sizeLine then (atI z.cps.toList i).map fun c => .str ⟨#[c]⟩ else none
  | .dict kvs, .int i => (cells kvs).bind fun ds => atI ds i
  | _, _ => none
theorem atI_rp {K : Frag} {F : Hp} {vs : List V} {ds : List D} {i : Int} {d : D} (r : RpAll K F vs ds) (h : atI ds i = some d) : ∃ v, atI vs i = some v ∧ Rp K F v d := by
  unfold atI at h ⊢
  rw [r.length]
  cases e : ixN ds.length i with
  | none => rw [e] at h; cases h
  | some j =>
    rw [e] at h
    exact r.getD h
theorem ixr_imp {r r' : R2} (h : IxR X r) (k : ∀ v w H Q, r' v w H Q → r v w H Q) : IxR X r' := fun value slice pins s σ H x y v u Q I rx ry q hs => h value slice pins s σ H x y v u Q I rx ry (k x y H Q q) hs
theorem xd_seq {X : Cx} : IxR X (rD X.K ixD) := by
  refine ixr_imp ix_seq fun v w H Q ⟨F, x, y, z, s, rv, rw', hz, q⟩ => ?_
  unfold ixD at hz
  split at hz
  · obtain ⟨p, ws, rfl, h2, r1⟩ := inv_list s rv
    obtain ⟨u, h3, h4⟩ := atI_rp r1 hz
    exact .inl ⟨p, ws, _, u, rfl, inv_int rw', .of h2, h3, q F H u (New.refl s) h4⟩
  · obtain ⟨p, ws, rfl, h2, r1⟩ := inv_tup rv
    obtain ⟨u, h3, h4⟩ := atI_rp r1 hz
    exact .inr (.inl ⟨p, ws, _, u, rfl, inv_int rw', sq_t s h2, h3, q F H u (New.refl s) h4⟩)
  · split at hz
    · rename_i hl
      obtain ⟨c, h1, rfl⟩ := Option.map_eq_some_iff.mp hz
      exact .inr (.inr ⟨_, _, c, inv_str rv, inv_int rw', hl, h1, q F H _ (New.refl s) (.str _)⟩)
    · cases hz
  · rename_i kvs i
    cases e : cells kvs with
    | none => rw [e] at hz; cases hz
    | some ds =>
      rw [e] at hz
      have e := cells_ok e
      subst e
      obtain ⟨p, ws, rfl, h2, r1⟩ := inv_scr s rv
      obtain ⟨u, h3, h4⟩ := atI_rp r1 hz
      exact .inl ⟨p, ws, _, u, rfl, inv_int rw', h2, h3, q F H u (New.refl s) h4⟩
  · cases hz
theorem se_ix {X : Cx} {c : Ct} {a b : Expr} {pos : Pos} {ka kb pa pb : Bool} {ma mb : M D} (ha : PE X a (te X.K c ka pa ma)) (hb : PE X b (te X.K c kb pb mb)) (hk : ka = true → pb = true := by decide) (hs : PlainIx b := by exact fun _ _ => rfl) :
    PE X (.Subscript a b pos) (te X.K c false (pa && pb) (mBin ixD ma mb)) := (pe_ix xd_seq ha hb hs).imp fun σ H Q h => bin_step (f := fun v _ => pure v) hk h
/-! ### a[lo:hi] -/
def cutD (xs : List D) (lo hi : Option Int) : List D := (xs.drop (HT.sIx xs.length 0 lo)).take (HT.sIx xs.length xs.length hi - HT.sIx xs.length 0 lo)
theorem cut_rp {K : Frag} {F : Hp} {vs : List V} {ds : List D} {lo hi : Option Int} (r : RpAll K F vs ds) : RpAll K F (cutV vs lo hi) (cutD ds lo hi) := by
  unfold cutV cutD
  rw [r.length]
  exact (r.drop _).take _
def slD (x : D) (lo hi : Option Int) : Option D := match x with
  | .list xs => some (.list (cutD xs lo hi))
  | .tuple xs => some (.tuple (cutD xs lo hi))
  | .str z => if z.length ≤ sizeLine then some (.str (cutS z lo hi)) else none
  | _ => none
def rSlD (K : Frag) : V → Option Int → Option Int → Hp → VK → Prop := fun v lo hi H Q => ∃ F x z, Same F H ∧ RpB K F H v x ∧ slD x lo hi = some z ∧ ∀ F' H' u, New F H F' H' → Rp K F' u z → Q u H'
theorem sl_whole {α : Type} {xs : List α} {lo hi : Option Int} (h : HT.sIx xs.length 0 lo = 0 ∧ HT.sIx xs.length xs.length hi = xs.length) : (xs.drop (HT.sIx xs.length 0 lo)).take (HT.sIx xs.length xs.length hi - HT.sIx xs.length 0 lo) = xs := by
  rw [h.1, h.2, List.drop_zero, Nat.sub_zero, List.take_length]
theorem sl_d {X : Cx} : L2.SlR X (rSlD X.K) := by
  have h0 := L2.SlR.or (X := X) sl_list (L2.SlR.or sl_tupA sl_str)
  intro pins s σ H x v vl vu lo hi sl Q I rx hs pl pu ⟨F, d, z, sm, rv, hz, q⟩
  refine h0 pins s σ H x v vl vu lo hi sl Q I rx hs pl pu ?_
  unfold slD at hz
  split at hz
  · cases hz
    obtain ⟨p, ws, rfl, h2, r1⟩ := inv_list sm rv
    refine .inl ⟨p, ws, rfl, .of h2, fun l hl => ?_⟩
    have n := New.one sm hl (.lst (cutV ws lo hi))
    exact q _ _ _ n (.lst upd_same ((cut_rp r1).mono n.fF))
  · cases hz
    obtain ⟨p, ws, rfl, h2, r1⟩ := inv_tup rv
    refine .inr (.inl ⟨p, ws, rfl, sq_t sm h2, fun hw => ?_, fun hw l hl => ?_⟩)
    · refine q F H _ (New.refl sm) ?_
      rename_i xs
      have e : cutD xs lo hi = xs := sl_whole (by rw [← r1.length]; exact hw)
      rw [e]
      exact .tup h2 r1
    · have n := New.one sm hl (.tup (cutV ws lo hi))
      exact q _ _ _ n (.tup (.of upd_same) ((cut_rp r1).mono n.fF))
  · split at hz
    · rename_i hl
      cases hz
      exact .inr (.inr ⟨_, inv_str rv, hl, q F H _ (New.refl sm) (.str _)⟩)
    · cases hz
  · cases hz
/-- a bound of a slice -/
def PPt (K : Frag) (c : Ct) (pu : Bool) (F H : Hp) (σ : Sl) (Q : Option Int → Hp → Prop) (x : Option Int) (ρ' : Env) : Prop :=
  ∀ F' H' O', EnvR K c F' H' σ ρ' O' → Same F F' → (pu = true → Same H H') → Q x H'
def tp (K : Frag) (c : Ct) (pu : Bool) (m : M (Option Int)) : TO := fun σ H Q => ∃ F ρ O, EnvR K c F H σ ρ O ∧ (m ρ).post (PPt K c pu F H σ Q) (PX K c σ)
def bNo : M (Option Int) := fun ρ => .ok none ρ
def bTo (m : M D) : M (Option Int) := fun ρ => (m ρ).bind fun x ρ1 => match x with
  | .int i => .ok (some i) ρ1
  | _ => .bad
def mSl (a : M D) (l u : M (Option Int)) : M D := fun ρ => (a ρ).bind fun x ρ1 => (l ρ1).bind fun i ρ2 => (u ρ2).bind fun j ρ3 => ofO (slD x i j) ρ3
section
variable {X : Cx} {c : Ct} {a b : Expr} {lo hi : Option Expr} {pos p2 : Pos} {ka kb pa pb pl pu : Bool} {ma mb : M D} {ml mu : M (Option Int)}
theorem L2po_imp {o : Option Expr} {t t' : TO} (h : L2.PO X o t) (k : ∀ σ H Q, t' σ H Q → t σ H Q) : L2.PO X o t' := ⟨fun pins s σ H Q I q => h.run pins s σ H Q I (k σ H Q q)⟩
theorem sb_no : L2.PO X none (tp X.K c true bNo) := L2po_imp po_none fun σ H Q ⟨F, ρ, O, e, h⟩ => h F H O e (Same.refl _) fun _ => Same.refl _
theorem sb_to (h : PE X b (te X.K c kb pb mb)) : L2.PO X (some b) (tp X.K c pb (bTo mb)) := L2po_imp (po_some h) fun σ H Q ⟨F, ρ, O, e, h⟩ => by
  refine te_step e h fun x ρ1 F1 H1 O1 v h1 e1 s1 p1 v1 => ?_
  cases x with
  | int i => exact ⟨i, inv_int v1.up0, h1 F1 H1 O1 e1 s1 p1⟩
  | _ => exact h1.elim
theorem tp_step {α : Type} {K : Frag} {m : M (Option Int)} {k : Option Int → Env → Res α} {P : α → Env → Prop} {Q : Option Int → Hp → Prop} {F H : Hp} {σ : Sl} {ρ : Env} {O : List Addr} (e : EnvR K c F H σ ρ O) (h : ((m ρ).bind k).post P (PX K c σ))
    (q : ∀ x ρ1 F1 H1 O1, (k x ρ1).post P (PX K c σ) → EnvR K c F1 H1 σ ρ1 O1 → Same F F1 → (pu = true → Same H H1) → Q x H1) : tp K c pu m σ H Q :=
  ⟨F, ρ, O, e, Res.post_imp (Res.post_bind h) (fun x ρ1 h1 F1 H1 O1 e1 s1 p1 => q x ρ1 F1 H1 O1 h1 e1 s1 p1) fun _ _ h => h⟩
theorem se_sl (ha : PE X a (te X.K c ka pa ma)) (hl : L2.PO X lo (tp X.K c pl ml)) (hu : L2.PO X hi (tp X.K c pu mu)) (hk : ka = true → (pl && pu) = true := by decide) :
    PE X (.Subscript a (.Slice lo hi none p2) pos) (te X.K c false (pa && (pl && pu)) (mSl ma ml mu)) := (pe_slice sl_d ha hl hu).imp fun σ H Q ⟨F, ρ, O, e, h⟩ => by
  refine te_step e h fun x ρ1 F1 H1 O1 v h1 e1 s1 p1 v1 => tp_step e1 h1 fun i ρ2 F2 H2 O2 h2 e2 s2 p2 => tp_step e2 h2 fun j ρ3 F3 H3 O3 h3 e3 s3 p3 => ?_
  obtain ⟨z, hz, h4⟩ := post_ofO h3
  refine ⟨F3, x, z, e3.sub, v1.up (s2.trans s3) (fun q => and_p p2 p3 q) hk, hz, fun F' H' u n r => h4 F' H' O3 u (e3.new n) (((s1.trans s2).trans s3).trans n.fF) (fun q => ?_) r⟩
  obtain ⟨q1, q2⟩ := Bool.and_eq_true_iff.mp q
  exact ((p1 q1).trans (and_p p2 p3 q2)).trans n.hH
end
end DL
end
section
set_option maxRecDepth 100000
set_option maxHeartbeats 4000000
/-! The functional layer, part 6: what is walked, loops, comprehensions. -/
namespace DL
open PySem PySem.Spec PyProof.Rows L2
/-- the iterator hands over xs, whatever else changes -/
structure ItD (K : Frag) (F : Hp) (J : It) (xs : List D) : Prop where
  few : xs.length ≤ sizeLine
  go : ∀ F2 H2, Same F F2 → Same F2 H2 → ∀ i, i < xs.length → J.go i H2
  yl : ∀ F2 H2, Same F F2 → Same F2 H2 → ∀ i x H3, i < xs.length → J.yld i H2 x H3 → ∃ F3 d, New F2 H2 F3 H3 ∧ xs[i]? = some d ∧ Rp K F3 x d
  st : ∀ F2 H2, Same F F2 → Same F2 H2 → ∀ i, xs.length ≤ i → J.stop i H2
def PIx (K : Frag) (c : Ct) (pu : Bool) (F H : Hp) (σ : Sl) (R : It → Hp → Prop) (xs : List D) (ρ' : Env) : Prop :=
  ∀ F' H' O' J, EnvR K c F' H' σ ρ' O' → Same F F' → (pu = true → Same H H') → ItD K F' J xs → R J H'
def ti (K : Frag) (c : Ct) (pu : Bool) (m : M (List D)) : TI := fun σ H R => ∃ F ρ O, EnvR K c F H σ ρ O ∧ (m ρ).post (PIx K c pu F H σ R) (PX K c σ)
theorem getR {K : Frag} {F : Hp} {vs : List V} {ds : List D} {i : Nat} (r : RpAll K F vs ds) (h : i < ds.length) : ∃ v, vs[i]? = some v ∧ Rp K F v ds[i] := r.getD (by simp [h])
theorem itD_list {K : Frag} {F : Hp} {a : Addr} {vs : List V} {ds : List D} (hz : ds.length ≤ sizeLine) (h : SqL K F a vs) (r : RpAll K F vs ds) : ItD K F (Itl K a) ds where
  few := hz
  go := fun F2 H2 s1 s2 i hi => by
    obtain ⟨v, h1, _⟩ := getR r hi
    exact ⟨vs, v, sq_l (s1.trans s2) h, h1⟩
  yl := fun F2 H2 s1 s2 i x H3 hi ⟨e, y⟩ => by
    subst e
    obtain ⟨v, h1, h2⟩ := getR r hi
    have e := y vs (sq_l (s1.trans s2) h)
    rw [h1] at e
    cases e
    exact ⟨F2, _, New.refl s2, by simp [hi], h2.mono s1⟩
  st := fun F2 H2 s1 s2 i hi => ⟨vs, sq_l (s1.trans s2) h, by rw [r.length]; exact hi⟩
theorem itD_tup {K : Frag} {F : Hp} {a : Addr} {vs : List V} {ds : List D} (hz : ds.length ≤ sizeLine) (h : SqT K F a vs) (r : RpAll K F vs ds) : ItD K F (Itt K a) ds where
  few := hz
  go := fun F2 H2 s1 s2 i hi => by
    obtain ⟨v, h1, _⟩ := getR r hi
    exact ⟨vs, v, sq_t (s1.trans s2) h, h1⟩
  yl := fun F2 H2 s1 s2 i x H3 hi ⟨e, y⟩ => by
    subst e
    obtain ⟨v, h1, h2⟩ := getR r hi
    have e := y vs (sq_t (s1.trans s2) h)
    rw [h1] at e
    cases e
    exact ⟨F2, _, New.refl s2, by simp [hi], h2.mono s1⟩
  st := fun F2 H2 s1 s2 i hi => ⟨vs, sq_t (s1.trans s2) h, by rw [r.length]; exact hi⟩
def charsD (z : Str) : List D := z.cps.toList.map fun c => .str ⟨#[c]⟩
theorem itD_str {K : Frag} {F : Hp} {z : Str} (hz : z.length ≤ sizeLine) : ItD K F (Its z) (charsD z) where
  few := by unfold charsD; rw [List.length_map, Array.length_toList]; exact hz
  go := fun F2 H2 s1 s2 i hi => by
    unfold charsD at hi
    rw [List.length_map, Array.length_toList] at hi
    exact hi
  yl := fun F2 H2 s1 s2 i x H3 hi ⟨e, c, h1, h2⟩ => by
    subst e h2
    refine ⟨F2, _, New.refl s2, ?_, .str ⟨#[c]⟩⟩
    unfold charsD
    rw [List.getElem?_map, Array.getElem?_toList, h1]
    rfl
  st := fun F2 H2 s1 s2 i hi => by
    unfold charsD at hi
    rw [List.length_map, Array.length_toList] at hi
    exact hi
theorem kV_rp {K : Frag} {F : Hp} (k : Key) : Rp K F (kV k) (kD k) := by
  cases k with
  | inl i => exact .int i
  | inr x => exact .str x
theorem zip_keys {α β γ : Type} {f : α → γ} : ∀ {kvs : List α} {ds : List β}, kvs.length = ds.length → ((kvs.map f).zip ds).map (·.1) = kvs.map f
  | [], [], _ => rfl
  | a :: kvs, d :: ds, h => by
    rw [List.map_cons, List.zip_cons_cons, List.map_cons, zip_keys (by simpa using h)]
  | [], _ :: _, h => by simp at h
  | _ :: _, [], h => by simp at h
theorem itD_keys {K : Frag} {F : Hp} {d : Addr} {o : Obj} {kvs : List (Key × V)} (hz : kvs.length ≤ sizeLine) (h : F d = some (.frz o (.dK kvs))) : ItD K F (Itk d o kvs) (kvs.map fun q => kD q.1) where
  few := by rw [List.length_map]; exact hz
  go := fun F2 H2 s1 s2 i hi => ⟨s2 _ _ (s1 _ _ h), by simpa using hi⟩
  yl := fun F2 H2 s1 s2 i x H3 hi y => by
    obtain ⟨e, k, v, h1, h2⟩ := y
    subst e h2
    refine ⟨F2, kD k, New.refl s2, ?_, kV_rp k⟩
    rw [List.getElem?_map, h1]
    rfl
  st := fun F2 H2 s1 s2 i hi => ⟨s2 _ _ (s1 _ _ h), by simpa using hi⟩
/-- what a for loop takes of a datum -/
def itemsD : D → Option (List D)
  | .list xs => some xs
  | .tuple xs => some xs
  | .str z => if z.length ≤ sizeLine then some (charsD z) else none
  | .dict kvs => match cells kvs with
    | some ds => some ds
    | none => some (kvs.map (·.1))
  | _ => none
def mItems (m : M D) : M (List D) := fun ρ => (m ρ).bind fun x ρ1 => ofO (itemsD x) ρ1
section
variable {X : Cx} {c : Ct} {tg e : Expr} {pos : Pos} {pu : Bool} {me : M D}
/-- what is read is not too long -/
theorem pe_fits {t : TE} (h : PE X e t) : PE X e (fun σ H Q => t σ H fun v H1 => (∀ p, v = .ref p → (∀ xs, SqL X.K H1 p xs ∨ SqT X.K H1 p xs → xs.length ≤ sizeLine) ∧ ∀ kvs, Rd H1 p (.dK kvs) → kvs.length ≤ sizeLine) → Q v H1) := ⟨fun pins s σ H Q I hw => by
  refine thn (h.run pins s σ H _ I hw) fun u s1 ⟨x, H1, I1, r1, q1⟩ => ⟨x, H1, I1, r1, q1 fun p e => ?_⟩
  subst e
  refine ⟨fun xs hx => ?_, fun kvs hk => (dk_rd I1.hok hk).1⟩
  rcases hx with hx | hx
  · obtain ⟨_, _, _, hz⟩ := I1.list hx
    exact hz
  · obtain ⟨_, _, _, hz⟩ := I1.tuple hx
    exact hz⟩
theorem PI.imp {wi wi' : TI} (h : PI X tg e wi) (k : ∀ σ H R, wi' σ H R → wi σ H R) : PI X tg e wi' := ⟨fun pins s σ H R I q => h.run pins s σ H R I (k σ H R q)⟩
theorem si_val (he : PE X e (te X.K c false pu me)) : PI X tg e (ti X.K c pu (mItems me)) := ⟨fun pins s σ H R I h => by
  obtain ⟨F, ρ, O, ev, h⟩ := h
  have hb := Res.post_bind h
  have hf := pe_fits he
  -- the readings' common part
  have go : ∀ {P : V → Hp → Prop} (x : D), (∀ ρ1, me ρ = .ok x ρ1 → (ofO (itemsD x) ρ1).post (PIx X.K c pu F H σ R) (PX X.K c σ) → ∀ F1 H1 O1 v, EnvR X.K c F1 H1 σ ρ1 O1 → Same F F1 → (pu = true → Same H H1) → Rp X.K F1 v x →
      (∀ p, v = .ref p → (∀ xs, SqL X.K H1 p xs ∨ SqT X.K H1 p xs → xs.length ≤ sizeLine) ∧ ∀ kvs, Rd H1 p (.dK kvs) → kvs.length ≤ sizeLine) → P v H1) → (∀ ρ1 y, me ρ = .ok y ρ1 → y = x) →
      te X.K c false pu me σ H fun v H1 => (∀ p, v = .ref p → (∀ xs, SqL X.K H1 p xs ∨ SqT X.K H1 p xs → xs.length ≤ sizeLine) ∧ ∀ kvs, Rd H1 p (.dK kvs) → kvs.length ≤ sizeLine) → P v H1 := fun {P} x k u => by
    refine ⟨F, ρ, O, ev, ?_⟩
    cases r : me ρ with
    | bad => rw [r] at hb; exact hb
    | ex ξ ρ1 => rw [r] at hb; exact hb
    | ok y ρ1 =>
      rw [r] at hb
      have e := u ρ1 y r
      subst e
      exact fun F1 H1 O1 v e1 s1 p1 v1 fits => k ρ1 r hb F1 H1 O1 v e1 s1 p1 v1 fits
  cases r : me ρ with
  | bad => rw [r] at hb; exact hb.elim
  | ex ξ ρ1 => exact (pi_list (tg := tg) hf).run pins s σ H R I (go .none (fun ρ1 q => by rw [r] at q; cases q) fun ρ1 y q => by rw [r] at q; cases q)
  | ok x ρ1 =>
    rw [r] at hb
    obtain ⟨xs, hx, h1⟩ := post_ofO hb
    have u : ∀ ρ1 y, me ρ = .ok y ρ1 → y = x := fun ρ2 y q => by rw [r] at q; cases q; rfl
    cases x with
    | list ds =>
      cases hx
      refine (pi_list (tg := tg) hf).run pins s σ H R I (go (.list xs) (fun ρ2 q hq F1 H1 O1 v e1 s1 p1 v1 fits => ?_) u)
      rw [r] at q; cases q
      cases v1 with
      | lst ha rr =>
        have sl : SqL X.K F1 _ _ := .of ha
        exact ⟨_, rfl, ⟨_, sq_l e1.sub sl⟩, h1 F1 H1 O1 _ e1 s1 p1 (itD_list (by rw [← rr.length]; exact (fits _ rfl).1 _ (.inl (sq_l e1.sub sl))) sl rr)⟩
    | tuple ds =>
      cases hx
      refine (pi_tup (tg := tg) hf).run pins s σ H R I (go (.tuple xs) (fun ρ2 q hq F1 H1 O1 v e1 s1 p1 v1 fits => ?_) u)
      rw [r] at q; cases q
      cases v1 with
      | tup ha rr => exact ⟨_, rfl, ⟨_, sq_t e1.sub ha⟩, h1 F1 H1 O1 _ e1 s1 p1 (itD_tup (by rw [← rr.length]; exact (fits _ rfl).1 _ (.inr (sq_t e1.sub ha))) ha rr)⟩
    | str z =>
      unfold itemsD at hx
      simp only at hx
      split at hx
      · rename_i hz
        cases hx
        refine (pi_str (tg := tg) hf).run pins s σ H R I (go (.str z) (fun ρ2 q hq F1 H1 O1 v e1 s1 p1 v1 fits => ?_) u)
        rw [r] at q; cases q
        cases v1
        exact ⟨z, rfl, h1 F1 H1 O1 _ e1 s1 p1 (itD_str hz)⟩
      · cases hx
    | dict kvs =>
      unfold itemsD at hx
      simp only at hx
      split at hx
      · rename_i ds hc
        cases hx
        have hc := cells_ok hc
        subst hc
        refine (pi_list (tg := tg) hf).run pins s σ H R I (go (.dict [(.none, .list xs)]) (fun ρ2 q hq F1 H1 O1 v e1 s1 p1 v1 fits => ?_) u)
        rw [r] at q; cases q
        obtain ⟨p, ws, rfl, h2', r1⟩ := inv_scr (Same.refl F1) (.d v1)
        have h2 := sq_l e1.sub h2'
        exact ⟨_, rfl, ⟨_, h2⟩, h1 F1 H1 O1 _ e1 s1 p1 (itD_list (by rw [← r1.length]; exact (fits _ rfl).1 _ (.inl h2)) h2' r1)⟩
      · rename_i hno
        · cases hx
          refine (pi_keys (tg := tg) hf).run pins s σ H R I (go (.dict kvs) (fun ρ2 q hq F1 H1 O1 v e1 s1 p1 v1 fits => ?_) u)
          rw [r] at q; cases q
          generalize e2 : PyData.dict kvs = z at v1
          cases v1 with
          | @dcK a ob kws ds2 ha rr =>
            cases e2
            have hl := rr.length
            rw [List.length_map] at hl
            refine ⟨a, ob, rfl, .inl ⟨kws, e1.sub _ _ ha, ?_⟩⟩
            have z := h1 F1 H1 O1 (Itk a ob kws) e1 s1 p1
            rw [zip_keys hl] at z
            exact z (itD_keys ((fits _ rfl).2 _ (.inr ⟨_, e1.sub _ _ ha⟩)) ha)
          | scr ha rr => cases e2; simp [cells] at hno
          | _ => cases e2
    | _ => cases hx⟩
end
end DL
end
section
set_option maxRecDepth 100000
set_option maxHeartbeats 4000000
/-! The functional layer, part 7: ranges, pairs, targets, for and while. -/
namespace DL
open PySem PySem.Spec PyProof.Rows L2
/-! ### range, zip, enumerate, items -/
def rangeL (lo : Int) (n : Nat) : List D := (List.range n).map fun k => .int (lo + (k : Nat))
theorem itD_range {K : Frag} {F : Hp} {lo : Int} {n : Nat} (hz : n ≤ sizeLine) : ItD K F (Itr lo n) (rangeL lo n) where
  few := by unfold rangeL; rw [List.length_map, List.length_range]; exact hz
  go := fun F2 H2 s1 s2 i hi => by
    unfold rangeL at hi
    rw [List.length_map, List.length_range] at hi
    exact hi
  yl := fun F2 H2 s1 s2 i x H3 hi y => by
    obtain ⟨e, rfl⟩ := y
    subst e
    unfold rangeL at hi ⊢
    rw [List.length_map, List.length_range] at hi
    exact ⟨F2, _, New.refl s2, by simp [hi], .int _⟩
  st := fun F2 H2 s1 s2 i hi => by
    unfold rangeL at hi
    rw [List.length_map, List.length_range] at hi
    exact hi
def intOf : D → Option Int
  | .int i => some i
  | _ => none
def range1 (x : D) : Option (List D) := (intOf x).bind fun n => if n.toNat ≤ sizeLine ∧ -(2 ^ 62) ≤ n then some (rangeL 0 n.toNat) else none
def range2 (x y : D) : Option (List D) := (intOf x).bind fun i => (intOf y).bind fun j => if (j - i).toNat ≤ sizeLine ∧ -(2 ^ 62) ≤ i ∧ i < 2 ^ 62 ∧ -(2 ^ 62) ≤ j ∧ j < 2 ^ 62 then some (rangeL i (j - i).toNat) else none
def mRange1 (a : M D) : M (List D) := fun ρ => (a ρ).bind fun x ρ1 => ofO (range1 x) ρ1
def mRange2 (a b : M D) : M (List D) := fun ρ => (a ρ).bind fun x ρ1 => (b ρ1).bind fun y ρ2 => ofO (range2 x y) ρ2
theorem intOf_ok {x : D} {i : Int} (h : intOf x = some i) : x = .int i := by
  unfold intOf at h
  split at h
  · cases h; rfl
  · cases h
theorem itD_zip {K : Frag} {F : Hp} {a b : Addr} {vs ws : List V} {ds es : List D} (hz : ds.length ≤ sizeLine) (h : SqL K F a vs) (g : SqL K F b ws) (r : RpAll K F vs ds) (q : RpAll K F ws es) : ItD K F (Itz K a b) ((ds.zip es).map fun p => .tuple [p.1, p.2]) where
  few := by rw [List.length_map, List.length_zip]; exact Nat.le_trans (Nat.min_le_left _ _) hz
  go := fun F2 H2 s1 s2 i hi => by
    rw [List.length_map, List.length_zip] at hi
    obtain ⟨v, h1, _⟩ := getR r (Nat.lt_of_lt_of_le hi (Nat.min_le_left _ _))
    obtain ⟨w, h2, _⟩ := getR q (Nat.lt_of_lt_of_le hi (Nat.min_le_right _ _))
    exact ⟨vs, ws, v, w, sq_l (s1.trans s2) h, sq_l (s1.trans s2) g, h1, h2⟩
  yl := fun F2 H2 s1 s2 i x H3 hi y => by
    obtain ⟨T, v, w, rfl, hT, rfl, y1, y2⟩ := y
    rw [List.length_map, List.length_zip] at hi
    obtain ⟨v', h1, r1⟩ := getR r (Nat.lt_of_lt_of_le hi (Nat.min_le_left _ _))
    obtain ⟨w', h2, r2⟩ := getR q (Nat.lt_of_lt_of_le hi (Nat.min_le_right _ _))
    have e1 := y1 vs (sq_l (s1.trans s2) h)
    have e2 := y2 ws (sq_l (s1.trans s2) g)
    rw [h1] at e1; cases e1
    rw [h2] at e2; cases e2
    have n := New.one s2 hT (.tup [v, w])
    refine ⟨_, _, n, ?_, .tup (.of upd_same) (.cons (r1.mono (s1.trans n.fF)) (.cons (r2.mono (s1.trans n.fF)) .nil))⟩
    rw [List.getElem?_map, List.getElem?_eq_getElem (by rw [List.length_zip]; exact hi), List.getElem_zip]
    rfl
  st := fun F2 H2 s1 s2 i hi => by
    rw [List.length_map, List.length_zip] at hi
    refine ⟨vs, ws, sq_l (s1.trans s2) h, sq_l (s1.trans s2) g, ?_⟩
    rw [r.length, q.length]
    omega
theorem itD_zipT {K : Frag} {F : Hp} {a b : Addr} {vs ws : List V} {ds es : List D} (hz : ds.length ≤ sizeLine) (h : SqT K F a vs) (g : SqT K F b ws) (r : RpAll K F vs ds) (q : RpAll K F ws es) : ItD K F (RZ.ItzT K a b) ((ds.zip es).map fun p => .tuple [p.1, p.2]) where
  few := by rw [List.length_map, List.length_zip]; exact Nat.le_trans (Nat.min_le_left _ _) hz
  go := fun F2 H2 s1 s2 i hi => by
    rw [List.length_map, List.length_zip] at hi
    obtain ⟨v, h1, _⟩ := getR r (Nat.lt_of_lt_of_le hi (Nat.min_le_left _ _))
    obtain ⟨w, h2, _⟩ := getR q (Nat.lt_of_lt_of_le hi (Nat.min_le_right _ _))
    exact ⟨vs, ws, v, w, sq_t (s1.trans s2) h, sq_t (s1.trans s2) g, h1, h2⟩
  yl := fun F2 H2 s1 s2 i x H3 hi y => by
    obtain ⟨T, v, w, rfl, hT, rfl, y1, y2⟩ := y
    rw [List.length_map, List.length_zip] at hi
    obtain ⟨v', h1, r1⟩ := getR r (Nat.lt_of_lt_of_le hi (Nat.min_le_left _ _))
    obtain ⟨w', h2, r2⟩ := getR q (Nat.lt_of_lt_of_le hi (Nat.min_le_right _ _))
    have e1 := y1 vs (sq_t (s1.trans s2) h)
    have e2 := y2 ws (sq_t (s1.trans s2) g)
    rw [h1] at e1; cases e1
    rw [h2] at e2; cases e2
    have n := New.one s2 hT (.tup [v, w])
    refine ⟨_, _, n, ?_, .tup (.of upd_same) (.cons (r1.mono (s1.trans n.fF)) (.cons (r2.mono (s1.trans n.fF)) .nil))⟩
    rw [List.getElem?_map, List.getElem?_eq_getElem (by rw [List.length_zip]; exact hi), List.getElem_zip]
    rfl
  st := fun F2 H2 s1 s2 i hi => by
    rw [List.length_map, List.length_zip] at hi
    refine ⟨vs, ws, sq_t (s1.trans s2) h, sq_t (s1.trans s2) g, ?_⟩
    rw [r.length, q.length]
    omega
def enumD (xs : List D) : List D := (xs.zipIdx).map fun p => .tuple [.int (p.2 : Nat), p.1]
theorem itD_enum {K : Frag} {F : Hp} {a : Addr} {vs : List V} {ds : List D} (hz : ds.length ≤ sizeLine) (h : SqL K F a vs) (r : RpAll K F vs ds) : ItD K F (Ite K a) (enumD ds) where
  few := by unfold enumD; rw [List.length_map, List.length_zipIdx]; exact hz
  go := fun F2 H2 s1 s2 i hi => by
    unfold enumD at hi
    rw [List.length_map, List.length_zipIdx] at hi
    obtain ⟨v, h1, _⟩ := getR r hi
    exact ⟨vs, v, sq_l (s1.trans s2) h, h1⟩
  yl := fun F2 H2 s1 s2 i x H3 hi y => by
    obtain ⟨T, v, rfl, hT, rfl, y1⟩ := y
    unfold enumD at hi ⊢
    rw [List.length_map, List.length_zipIdx] at hi
    obtain ⟨v', h1, r1⟩ := getR r hi
    have e1 := y1 vs (sq_l (s1.trans s2) h)
    rw [h1] at e1; cases e1
    have n := New.one s2 hT (.tup [.int (i : Nat), v])
    refine ⟨_, _, n, ?_, .tup (.of upd_same) (.cons (.int _) (.cons (r1.mono (s1.trans n.fF)) .nil))⟩
    simp [hi]
  st := fun F2 H2 s1 s2 i hi => by
    unfold enumD at hi
    rw [List.length_map, List.length_zipIdx] at hi
    exact ⟨vs, sq_l (s1.trans s2) h, by rw [r.length]; exact hi⟩
theorem itD_items {K : Frag} {F : Hp} {d : Addr} {o : Obj} {kvs : List (Key × V)} {ds : List D} (hz : kvs.length ≤ sizeLine) (h : F d = some (.frz o (.dK kvs))) (r : RpAll K F (kvs.map (·.2)) ds) :
    ItD K F (Iti d o kvs) (((kvs.map fun q => kD q.1).zip ds).map fun p => .tuple [p.1, p.2]) := by
  have hl := r.length
  rw [List.length_map] at hl
  have hlen : (((kvs.map fun q => kD q.1).zip ds).map fun p => PyData.tuple [p.1, p.2]).length = kvs.length := by rw [List.length_map, List.length_zip, List.length_map, hl, Nat.min_self]
  refine ⟨by rw [hlen]; exact hz, fun F2 H2 s1 s2 i hi => ⟨s2 _ _ (s1 _ _ h), by rw [← hlen]; exact hi⟩, fun F2 H2 s1 s2 i x H3 hi y => ?_, fun F2 H2 s1 s2 i hi => ⟨s2 _ _ (s1 _ _ h), by rw [← hlen]; exact hi⟩⟩
  obtain ⟨T, k, v, hk, rfl, hT, rfl⟩ := y
  rw [hlen] at hi
  obtain ⟨v', h1, r1⟩ := getR r (by rw [← hl]; exact hi)
  rw [List.getElem?_map, hk] at h1
  have e : v = v' := Option.some.inj h1
  subst e
  have n := New.one s2 hT (.tup [kV k, v])
  refine ⟨_, _, n, ?_, .tup (.of upd_same) (.cons (kV_rp k) (.cons (r1.mono (s1.trans n.fF)) .nil))⟩
  have e2 : kvs[i] = (k, v) := by
    have := List.getElem?_eq_some_iff.mp hk
    exact this.2
  rw [List.getElem?_map, List.getElem?_eq_getElem (by rw [List.length_zip, List.length_map, ← hl, Nat.min_self]; exact hi), List.getElem_zip, List.getElem_map, e2]
  rfl
section
variable {X : Cx} {c : Ct} {tg e e2 : Expr} {pos p tpos apos cpos : Pos} {pu p1 p2 : Bool} {me ma mb : M D} {elts : List Expr} {kk : Nat}
theorem ta_1 {F H : Hp} {σ : Sl} {ρ : Env} {O : List Addr} (e : EnvR X.K c F H σ ρ O) {m : M D} {k : D → M (List D)} {R : It → Hp → Prop} {Q : List V → Hp → Prop} (h : ((m ρ).bind k).post (PIx X.K c pu F H σ R) (PX X.K c σ))
    (q : ∀ x ρ1 F1 H1 O1 v, (k x ρ1).post (PIx X.K c pu F H σ R) (PX X.K c σ) → EnvR X.K c F1 H1 σ ρ1 O1 → Same F F1 → (pu = true → Same H H1) → RpB X.K F1 H1 v x → Q [v] H1) : ta1 X.K c pu m σ H Q :=
  ⟨F, ρ, O, e, Res.post_imp (Res.post_bind h) (fun x ρ1 h1 F1 H1 O1 v e1 s1 p1 r1 => q x ρ1 F1 H1 O1 v h1 e1 s1 p1 r1) fun _ _ h => h⟩
theorem si_range1 (hm : X.mg "range" = none) (ha : PE X e (te X.K c false pu ma)) (hg : Gl X "range" := by rfl) (hs : starEach [e] X.env = [(false, eval e X.env)] := by rfl) : PI X tg (.Call (.Name "range" p) [e] [] pos) (ti X.K c pu (mRange1 ma)) :=
  PI.imp (pi_range1 hg hm (sa_1 ha (by rw [hs]; rfl)) hs) fun σ H R ⟨F, ρ, O, ev, h⟩ => by
    refine ta_1 ev h fun x ρ1 F1 H1 O1 v h1 e1 s1 q1 r1 => ?_
    obtain ⟨xs, hx, h2⟩ := post_ofO h1
    obtain ⟨n, hn, hx'⟩ := Option.bind_eq_some_iff.mp hx
    have en := intOf_ok hn
    subst en
    clear hx h1
    have hx := hx'
    split at hx
    · rename_i hz
      cases hx
      have hs : sizeLine = 16777216 := sizeLine_eq
      exact ⟨n, by rw [inv_int r1], hz.2, by omega, h2 F1 H1 O1 _ e1 s1 q1 (itD_range hz.1)⟩
    · cases hx
theorem si_range2 (hm : X.mg "range" = none) (ha : PE X e (te X.K c false p1 ma)) (hb : PE X e2 (te X.K c false p2 mb)) (hg : Gl X "range" := by rfl) (hs : starEach [e, e2] X.env = [(false, eval e X.env), (false, eval e2 X.env)] := by rfl) (hs2 : starEach [e2] X.env = [(false, eval e2 X.env)] := by rfl) :
    PI X tg (.Call (.Name "range" p) [e, e2] [] pos) (ti X.K c (p1 && p2) (mRange2 ma mb)) :=
  PI.imp (pi_range2 hg hm (pa_cons ha (pa_cons hb pa_nil (by rw [hs2]; rfl)) (by rw [hs, hs2])) hs hs2) fun σ H R ⟨F, ρ, O, ev, h⟩ => by
    refine te_step ev h fun x ρ1 F1 H1 O1 v h1 e1 s1 q1 r1 => te_step e1 h1 fun y ρ2 F2 H2 O2 w h2 e2 s2 q2 r2 => ?_
    obtain ⟨xs, hx, h3⟩ := post_ofO h2
    obtain ⟨i, hi, hx'⟩ := Option.bind_eq_some_iff.mp hx
    obtain ⟨j, hj, hx''⟩ := Option.bind_eq_some_iff.mp hx'
    have ei := intOf_ok hi
    have ej := intOf_ok hj
    subst ei ej
    clear hx hx' h2 h1
    have hx := hx''
    split at hx
    · rename_i hz
      cases hx
      exact ⟨i, j, by rw [inv_int r1.up0, inv_int r2.up0], hz.2, h3 F2 H2 O2 _ e2 (s1.trans s2) (and_p q1 q2) (itD_range hz.1)⟩
    · cases hx
/-- both lists or both tuples -/
def zipD : D → D → Option (List D)
  | .list xs, .list ys => some ((xs.zip ys).map fun p => .tuple [p.1, p.2])
  | .tuple xs, .tuple ys => some ((xs.zip ys).map fun p => .tuple [p.1, p.2])
  | _, _ => none
def mZip (a b : M D) : M (List D) := fun ρ => (a ρ).bind fun x ρ1 => (b ρ1).bind fun y ρ2 => ofO (zipD x y) ρ2
theorem si_zip (hm : X.mg "zip" = none) (ha : PE X e (te X.K c false p1 ma)) (hb : PE X e2 (te X.K c false p2 mb)) (hg : Gl X "zip" := by rfl) (hs : starEach [e, e2] X.env = (false, eval e X.env) :: starEach [e2] X.env := by rfl) (hs2 : starEach [e2] X.env = (false, eval e2 X.env) :: starEach [] X.env := by rfl) (hpl : (backTo pos (starEach [e2] X.env)).any (·.1) = false := by rfl) :
    PI X (.Tuple elts kk tpos) (.Call (.Name "zip" p) [e, e2] [] pos) (ti X.K c (p1 && p2) (mZip ma mb)) :=
  PI.imp (RZ.pi_zipA hg hm (pa_cons (pe_fits ha) (pa_cons hb pa_nil hs2) hs) hs hpl) fun σ H R ⟨F, ρ, O, ev, h⟩ => by
    refine te_step ev h fun x ρ1 F1 H1 O1 v h1 e1 s1 q1 r1 fits => te_step e1 h1 fun y ρ2 F2 H2 O2 w h2 e2 s2 q2 r2 => ?_
    obtain ⟨xs, hx, h3⟩ := post_ofO h2
    unfold zipD at hx
    split at hx
    · cases hx
      cases r1 with
      | lst a1 b1 =>
        cases r2 with
        | lst a2 b2 => exact ⟨_, _, _, _, rfl, .inl ⟨sq_l (s2.trans e2.sub) (.of a1), sq_l e2.sub (.of a2), h3 F2 H2 O2 _ e2 (s1.trans s2) (and_p q1 q2) (itD_zip (by rw [← b1.length]; exact (fits _ rfl).1 _ (.inl (sq_l e1.sub (.of a1)))) (sq_l s2 (.of a1)) (.of a2) (b1.mono s2) b2)⟩⟩
    · cases hx
      cases r1 with
      | tup a1 b1 =>
        cases r2 with
        | tup a2 b2 => exact ⟨_, _, _, _, rfl, .inr ⟨sq_t (s2.trans e2.sub) a1, sq_t e2.sub a2, h3 F2 H2 O2 _ e2 (s1.trans s2) (and_p q1 q2) (itD_zipT (by rw [← b1.length]; exact (fits _ rfl).1 _ (.inr (sq_t e1.sub a1))) (sq_t s2 a1) a2 (b1.mono s2) b2)⟩⟩
    · cases hx
def enumO : D → Option (List D)
  | .list xs => some (enumD xs)
  | _ => none
def mEnum (a : M D) : M (List D) := fun ρ => (a ρ).bind fun x ρ1 => ofO (enumO x) ρ1
theorem si_enum (hm : X.mg "enumerate" = none) (ha : PE X e (te X.K c false pu ma)) (hg : Gl X "enumerate" := by rfl) (hs : starEach [e] X.env = [(false, eval e X.env)] := by rfl) : PI X (.Tuple elts kk tpos) (.Call (.Name "enumerate" p) [e] [] pos) (ti X.K c pu (mEnum ma)) :=
  PI.imp (pi_enum hg hm (pa_cons (pe_fits ha) pa_nil (by rw [hs]; rfl)) hs) fun σ H R ⟨F, ρ, O, ev, h⟩ => by
    refine te_step ev h fun x ρ1 F1 H1 O1 v h1 e1 s1 q1 r1 fits => ?_
    obtain ⟨xs, hx, h3⟩ := post_ofO h1
    unfold enumO at hx
    split at hx
    · cases hx
      cases r1 with
      | lst a1 b1 => exact ⟨_, _, rfl, sq_l e1.sub (.of a1), h3 F1 H1 O1 _ e1 s1 q1 (itD_enum (by rw [← b1.length]; exact (fits _ rfl).1 _ (.inl (sq_l e1.sub (.of a1)))) (.of a1) b1)⟩
    · cases hx
/-- d.items(), no tuple keys -/
def itemsO : D → Option (List D)
  | .dict kvs => match cells kvs with
    | some _ => none
    | none => match kvs with
      | [] => none
      | (.tuple _, _) :: _ => none
      | _ => some (kvs.map fun p => .tuple [p.1, p.2])
  | _ => none
end
/-! ### targets -/
def PGt (K : Frag) (c : Ct) (F H : Hp) (σ : Sl) (Q : Sl → Hp → Prop) (ρ' : Env) : Prop := ∀ σ' F' H' O', New F H F' H' → EnvR K c F' H' σ' ρ' O' → σ'.length = σ.length → Q σ' H'
def tgD (K : Frag) (c : Ct) (t : D → Env → Option Env) : TG := fun v σ H Q => ∃ F ρ O x ρ', EnvR K c F H σ ρ O ∧ Rp K F v x ∧ t x ρ = some ρ' ∧ PGt K c F H σ Q ρ'
def tgsD (K : Frag) (c : Ct) (t : List D → Env → Option Env) : TGs := fun vs σ H Q => ∃ F ρ O xs ρ', EnvR K c F H σ ρ O ∧ RpAll K F vs xs ∧ t xs ρ = some ρ' ∧ PGt K c F H σ Q ρ'
def tName (i : Nat) : D → Env → Option Env := fun x ρ => some (ρ.set i (some (.d x)))
def tsNil : List D → Env → Option Env := fun xs ρ => match xs with
  | [] => some ρ
  | _ => none
def tsCons (t : D → Env → Option Env) (u : List D → Env → Option Env) : List D → Env → Option Env := fun xs ρ => match xs with
  | x :: r => (t x ρ).bind fun ρ1 => u r ρ1
  | [] => none
def tTup (n : Nat) (u : List D → Env → Option Env) : D → Env → Option Env := fun x ρ => match x with
  | .tuple xs => if xs.length = n then u xs ρ else none
  | _ => none
section
variable {X : Cx} {c : Ct} {e : Expr} {es : List Expr} {pos : Pos} {t : D → Env → Option Env} {u : List D → Env → Option Env} {x : Str}
theorem tg_name {i : Nat} (hN : X.N.Nodup) (hi : X.N[i]? = some x := by rfl) (hx : Loc X.env.scope x := by first | exact Or.inl rfl | exact Or.inr rfl) (hc : (c.fx.all fun j => j != i) = true := by rfl) (hf : X.fn x = true ∨ X.env.scope.names.lookup x = some .local := by first | exact .inl rfl | exact .inr rfl) :
    PG X (.Name x pos) (tgD X.K c (tName i)) := ⟨fun pins s σ H v w Q I r ⟨F, ρ, O, d, ρ', ev, rv, ht, q⟩ => by
  refine (pg_name (pos := pos) hN hi hx hf).run pins s σ H v w Q I r ?_
  cases ht
  obtain ⟨O', e'⟩ := ev.putD rv (slen hi I) hc
  exact q _ F H O' (New.refl ev.sub) e' (List.length_set ..)⟩
theorem tg_nil : PGs X [] (tgsD X.K c tsNil) := ⟨fun pins s σ H vs us Q I r ⟨F, ρ, O, xs, ρ', ev, rv, ht, q⟩ => by
  refine pgs_nil.run pins s σ H vs us Q I r ?_
  cases rv with
  | nil => cases ht; exact ⟨rfl, q σ F H O (New.refl ev.sub) ev rfl⟩
  | cons _ _ => cases ht⟩
theorem tg_cons (h1 : PG X e (tgD X.K c t)) (h2 : PGs X es (tgsD X.K c u)) (hs : (assignEach (e :: es) X.env).map (·.2) = assign e X.env :: (assignEach es X.env).map (·.2) := by rfl) : PGs X (e :: es) (tgsD X.K c (tsCons t u)) := ⟨fun pins s σ H vs us Q I r ⟨F, ρ, O, xs, ρ', ev, rv, ht, q⟩ => by
  refine (pgs_cons h1 h2 hs).run pins s σ H vs us Q I r ?_
  cases rv with
  | nil => cases ht
  | cons r1 r2 =>
    obtain ⟨ρ1, h3, h4⟩ := Option.bind_eq_some_iff.mp ht
    exact ⟨_, _, rfl, F, ρ, O, _, ρ1, ev, r1, h3, fun σ1 F1 H1 O1 n1 e1 l1 => ⟨F1, ρ1, O1, _, ρ', e1, r2.mono n1.fF, h4, fun σ2 F2 H2 O2 n2 e2 l2 => q σ2 F2 H2 O2 (n1.trans n2) e2 (l2.trans l1)⟩⟩⟩
theorem tg_tup {k n : Nat} (hc : X.calm = true) (h : PGs X es (tgsD X.K c u)) (hn : (assignEach es X.env).length = n := by rfl) (hst : (assignEach es X.env).findIdx? (·.1) = none := by rfl) : PG X (.Tuple es k pos) (tgD X.K c (tTup n u)) := ⟨fun pins s σ H v w Q I r ⟨F, ρ, O, d, ρ', ev, rv, ht, q⟩ => by
  refine (pg_tup (pos := pos) (k := k) hc h hn hst).run pins s σ H v w Q I r ?_
  unfold tTup at ht
  split at ht
  · split at ht
    · rename_i hl
      cases rv with
      | tup ha rr => exact ⟨_, _, rfl, sq_t ev.sub ha, by rw [rr.length]; exact hl, F, ρ, O, _, ρ', ev, rr, ht, q⟩
    · cases ht
  · cases ht⟩
end
/-! ### a later entry -/
abbrev Ct.at (c : Ct) (F H : Hp) (O : List Addr) (σ : Sl) : Ct := ⟨c.ca, F, H, O, c.fx, σ, c.W⟩
theorem EnvR.self {K : Frag} {c : Ct} {F H : Hp} {σ : Sl} {ρ : Env} {O : List Addr} (e : EnvR K c F H σ ρ O) : EnvR K (c.at F H O σ) F H σ ρ O :=
  ⟨e.sub, Same.refl _, fun b o q _ => q, fun b _ _ q => q, e.sl, e.nd, fun p hp => ⟨(e.ow p hp).1, .inl hp⟩, fun i _ => rfl⟩
theorem EnvR.trans {K : Frag} {c : Ct} {F1 H1 F H : Hp} {σ1 σ : Sl} {ρ1 ρ : Env} {O1 O : List Addr} (a : EnvR K c F1 H1 σ1 ρ1 O1) (b : EnvR K (c.at F1 H1 O1 σ1) F H σ ρ O) : EnvR K c F H σ ρ O where
  sub := b.sub
  f0 := a.f0.trans b.f0
  h0 := fun x o q h => b.h0 x o (a.h0 x o q h) fun z => by
    rcases (a.ow x z).2 with w | w
    · exact h w
    · rw [w] at q; cases q
  n0 := fun x h1 h2 h3 => by
    cases q : c.H x with
    | none => exact absurd q h1
    | some o =>
      refine b.n0 x (fun z => ?_) (fun z => ?_) (a.n0 x h1 h2 h3)
      · have z : H1 x = none := z
        rw [a.h0 x o q h2] at z; cases z
      · rcases (a.ow x z).2 with w | w
        · exact h2 w
        · exact h1 w
  sl := b.sl
  nd := b.nd
  ow := fun p hp => ⟨(b.ow p hp).1, by
    rcases (b.ow p hp).2 with z | z
    · exact (a.ow p z).2
    · by_cases hc : p ∈ c.O
      · exact .inl hc
      · refine .inr ?_
        cases q : c.H p with
        | none => rfl
        | some o =>
          have z : H1 p = none := z
          rw [a.h0 p o q hc] at z; cases z⟩
  fx := fun i hi => (b.fx i hi).trans (a.fx i hi)
theorem Apart.trans {K : Frag} {c : Ct} {F1 H1 F : Hp} {σ1 : Sl} {ρ1 : Env} {O1 O A : List Addr} (a : EnvR K c F1 H1 σ1 ρ1 O1) (b : Apart (c.at F1 H1 O1 σ1) F A O) : Apart c F A O := ⟨b.nd, fun p hp => ⟨(b.ow p hp).1, by
    rcases (b.ow p hp).2 with z | z
    · exact (a.ow p z).2
    · by_cases hc : p ∈ c.O
      · exact .inl hc
      · refine .inr ?_
        cases q : c.H p with
        | none => rfl
        | some o =>
          have z : H1 p = none := z
          rw [a.h0 p o q hc] at z; cases z⟩⟩
/-! ### for -/
def forGo (tg : D → Env → Option Env) (b : M Fl) : List D → M Fl
  | [] => fun ρ => .ok .nx ρ
  | x :: xs => fun ρ => match tg x ρ with
    | none => .bad
    | some ρ1 => (b ρ1).bind fun f ρ2 => match f with
      | .nx => forGo tg b xs ρ2
      | .ct => forGo tg b xs ρ2
      | .bk => .ok .nx ρ2
      | .rt o => .ok (.rt o) ρ2
def sFor (it : M (List D)) (tg : D → Env → Option Env) (b : M Fl) : M Fl := fun ρ => (it ρ).bind fun xs ρ1 => forGo tg b xs ρ1
section
variable {X : Cx} {c : Ct} {tg e d : Expr} {body : List Stmt} {pos : Pos} {pu : Bool} {mi : M (List D)} {b : M Fl} {t : D → Env → Option Env}
def tsE (K : Frag) (c : Ct) (m : M Fl) : TS := fun D σ H => ∃ F0 H0 O0 σ0, ts K (c.at F0 H0 O0 σ0) m D σ H
def tgE (K : Frag) (c : Ct) (t : D → Env → Option Env) : TG := fun v σ H Q => ∃ F0 H0 O0 σ0, tgD K (c.at F0 H0 O0 σ0) t v σ H Q
theorem ss_at (hb : ∀ F H O σ, PSs X body (ts X.K (c.at F H O σ) b)) : PSs X body (tsE X.K c b) := ⟨fun pins s σ H D I ⟨F0, H0, O0, σ0, q⟩ => (hb F0 H0 O0 σ0).run pins s σ H D I q⟩
theorem tg_at (hg : ∀ F H O σ, PG X tg (tgD X.K (c.at F H O σ) t)) : PG X tg (tgE X.K c t) := ⟨fun pins s σ H v u Q I r ⟨F0, H0, O0, σ0, q⟩ => (hg F0 H0 O0 σ0).run pins s σ H v u Q I r q⟩
/-- the ends of a piece run from a later entry are those from the first one -/
theorem ends_at {K : Frag} {F1 H1 : Hp} {σ1 : Sl} {ρ1 : Env} {O1 : List Addr} {Dn : Ends} {f : Fl} {ρ' : Env} (a : EnvR K c F1 H1 σ1 ρ1 O1) (h : PS' K c Dn f ρ') : PS' K (c.at F1 H1 O1 σ1) Dn f ρ' := by
  cases f with
  | nx => exact fun σ F H O e => h σ F H O (a.trans e)
  | bk => exact fun σ F H O e => h σ F H O (a.trans e)
  | ct => exact fun σ F H O e => h σ F H O (a.trans e)
  | rt o => exact fun σ F H O A v e r ap => h σ F H O A v (a.trans e) r (Apart.trans a ap)
theorem exc_at {K : Frag} {F1 H1 : Hp} {σ1 : Sl} {ρ1 : Env} {O1 : List Addr} {ξ : Exc} {ρ' : Env} (a : EnvR K c F1 H1 σ1 ρ1 O1) (h : PXs K c ξ ρ') : PXs K (c.at F1 H1 O1 σ1) ξ ρ' := fun σ F H O cls d e x => h σ F H O cls d (a.trans e) x
theorem sv_for (hp : PassesOwn (model X.prog X.w) X.A X.env X.xe) (hc : X.calm = true) (hi : PI X tg e (ti X.K c pu mi)) (hg : ∀ F H O σ, PG X tg (tgD X.K (c.at F H O σ) t)) (hb : ∀ F H O σ, PSs X body (ts X.K (c.at F H O σ) b)) (hs : ∀ x, foldedSetIterable e X.env x = pure x := by intro _; rfl) :
    PS X (.For tg e body [] pos) (ts X.K c (sFor mi t b)) := (ps_for hp hc hi (tg_at hg) (ss_at hb) hs).imp fun Dn σ H ⟨F, ρ, O, ev, h⟩ => by
  refine ⟨F, ρ, O, ev, Res.post_imp (Res.post_bind h) (fun xs ρ1 h1 F1 H1 O1 J e1 s1 p1 it => ?_) fun _ _ h F' H' O' cls d => h σ F' H' O' cls d⟩
  refine ⟨fun i m σ' H' => m = xs.length - i ∧ i ≤ xs.length ∧ ∃ F2 ρ2 O2, EnvR X.K c F2 H' σ' ρ2 O2 ∧ Same F1 F2 ∧ (forGo t b (xs.drop i) ρ2).post (PS' X.K c Dn) (PXs X.K c), ⟨xs.length, by simp, Nat.zero_le _, F1, ρ1, O1, e1, Same.refl _, h1⟩, ?_⟩
  rintro i m σ' H' ⟨rfl, hi, F2, ρ2, O2, e2, s2, h2⟩
  by_cases hlt : i < xs.length
  · rw [List.drop_eq_getElem_cons hlt] at h2
    refine .inr ⟨it.go F2 H' s2 e2.sub i hlt, fun σ3 H3 => ∃ F3 ρ3 O3, EnvR X.K c F3 H3 σ3 ρ3 O3 ∧ Same F1 F3 ∧ (forGo t b (xs.drop (i + 1)) ρ3).post (PS' X.K c Dn) (PXs X.K c), fun σ3 H3 ⟨F3, ρ3, O3, e3, s3, h3⟩ => ⟨xs.length - (i + 1), by omega, rfl, hlt, F3, ρ3, O3, e3, s3, h3⟩, fun x H3 y => ?_⟩
    obtain ⟨F3, dx, n3, hd, r3⟩ := it.yl F2 H' s2 e2.sub i x H3 hlt y
    rw [List.getElem?_eq_getElem hlt] at hd
    cases hd
    have h2' : (match t xs[i] ρ2 with
      | none => Res.bad
      | some ρ1 => (b ρ1).bind fun f ρ2 => match f with
        | .nx => forGo t b (xs.drop (i + 1)) ρ2
        | .ct => forGo t b (xs.drop (i + 1)) ρ2
        | .bk => .ok .nx ρ2
        | .rt o => .ok (.rt o) ρ2).post (PS' X.K c Dn) (PXs X.K c) := h2
    cases ht : t xs[i] ρ2 with
    | none => rw [ht] at h2'; exact h2'.elim
    | some ρ3 =>
      rw [ht] at h2'
      have e3 := e2.new n3
      refine ⟨F3, H3, O2, σ', F3, ρ2, O2, _, ρ3, e3.self, r3, ht, fun σ4 F4 H4 O4 n4 e4 _ => ?_⟩
      refine ⟨F3, H3, O2, σ', F4, ρ3, O4, e4, Res.post_imp (Res.post_bind h2') (fun f ρ5 h5 => ?_) fun _ _ h => exc_at e3 h⟩
      cases f with
      | nx => exact fun σ6 F6 H6 O6 e6 => ⟨F6, ρ5, O6, e3.trans e6, (s2.trans n3.fF).trans e6.f0, h5⟩
      | ct => exact fun σ6 F6 H6 O6 e6 => ⟨F6, ρ5, O6, e3.trans e6, (s2.trans n3.fF).trans e6.f0, h5⟩
      | bk => exact fun σ6 F6 H6 O6 e6 => h5 σ6 F6 H6 O6 (e3.trans e6)
      | rt o => exact fun σ6 F6 H6 O6 A v e6 r6 a6 => h5 σ6 F6 H6 O6 A v (e3.trans e6) r6 (Apart.trans e3 a6)
  · have e : i = xs.length := by omega
    subst e
    rw [List.drop_length] at h2
    exact .inl ⟨it.st F2 H' s2 e2.sub _ (Nat.le_refl _), h2 σ' F2 H' O2 e2⟩

/-! ### while -/
def whileGo (t : M Bool) (b : M Fl) : Nat → M Fl
  | 0 => fun _ => .bad
  | n + 1 => fun ρ => (t ρ).bind fun x ρ1 => if x = true then (b ρ1).bind fun f ρ2 => match f with
      | .nx => whileGo t b n ρ2
      | .ct => whileGo t b n ρ2
      | .bk => .ok .nx ρ2
      | .rt o => .ok (.rt o) ρ2
    else .ok .nx ρ1
open Classical in
noncomputable def sWhile (t : M Bool) (b : M Fl) : M Fl := fun ρ => if h : ∃ n, whileGo t b n ρ ≠ .bad then whileGo t b (Classical.choose h) ρ else .bad
theorem whileGo_more {t : M Bool} {b : M Fl} : ∀ {n : Nat} {ρ : Env}, whileGo t b n ρ ≠ .bad → whileGo t b (n + 1) ρ = whileGo t b n ρ
  | 0, ρ, h => absurd rfl h
  | n + 1, ρ, h => by
    have e : whileGo t b (n + 1) ρ = ((t ρ).bind fun x ρ1 => if x = true then (b ρ1).bind fun f ρ2 => match f with
      | .nx => whileGo t b n ρ2
      | .ct => whileGo t b n ρ2
      | .bk => .ok .nx ρ2
      | .rt o => .ok (.rt o) ρ2
      else .ok .nx ρ1) := rfl
    have e2 : whileGo t b (n + 1 + 1) ρ = ((t ρ).bind fun x ρ1 => if x = true then (b ρ1).bind fun f ρ2 => match f with
      | .nx => whileGo t b (n + 1) ρ2
      | .ct => whileGo t b (n + 1) ρ2
      | .bk => .ok .nx ρ2
      | .rt o => .ok (.rt o) ρ2
      else .ok .nx ρ1) := rfl
    rw [e] at h ⊢
    rw [e2]
    cases ht : t ρ with
    | bad => rfl
    | ex ξ ρ1 => rfl
    | ok x ρ1 =>
      rw [ht] at h
      cases x with
      | false => rfl
      | true =>
        show ((b ρ1).bind _) = ((b ρ1).bind _)
        have h : ((b ρ1).bind fun f ρ2 => match f with
          | .nx => whileGo t b n ρ2
          | .ct => whileGo t b n ρ2
          | .bk => .ok .nx ρ2
          | .rt o => .ok (.rt o) ρ2) ≠ .bad := h
        cases hb : b ρ1 with
        | bad => rfl
        | ex ξ ρ2 => rfl
        | ok f ρ2 =>
          rw [hb] at h
          cases f with
          | nx => exact whileGo_more (n := n) h
          | ct => exact whileGo_more (n := n) h
          | bk => rfl
          | rt o => rfl
theorem whileGo_le {t : M Bool} {b : M Fl} {n m : Nat} {ρ : Env} (hl : n ≤ m) (h : whileGo t b n ρ ≠ .bad) : whileGo t b m ρ = whileGo t b n ρ := by
  induction m with
  | zero =>
    have e : n = 0 := by omega
    subst e
    rfl
  | succ m ih =>
    by_cases e : n = m + 1
    · subst e; rfl
    · have hl : n ≤ m := by omega
      have q := ih hl
      rw [whileGo_more (by rw [q]; exact h), q]
theorem sWhile_eq {t : M Bool} {b : M Fl} {n : Nat} {ρ : Env} (h : whileGo t b n ρ ≠ .bad) : sWhile t b ρ = whileGo t b n ρ := by
  unfold sWhile
  have hx : ∃ n, whileGo t b n ρ ≠ .bad := ⟨n, h⟩
  rw [dif_pos hx]
  have hc := Classical.choose_spec hx
  rcases Nat.le_total n (Classical.choose hx) with hl | hl
  · exact whileGo_le hl h
  · exact (whileGo_le hl hc).symm
theorem sv_while {tst : M Bool} (hp : PassesOwn (model X.prog X.w) X.A X.env X.xe) (hd : PT X d (tt X.K c pu tst)) (hb : PSs X body (ts X.K c b)) : PS X (.While d body [] pos) (ts X.K c (sWhile tst b)) := (ps_while hp hd hb).imp fun Dn σ H ⟨F, ρ, O, ev, h⟩ => by
  unfold sWhile at h
  split at h
  · rename_i hx
    generalize Classical.choose hx = n at h
    refine ⟨fun m σ H => ∃ F ρ O, EnvR X.K c F H σ ρ O ∧ (whileGo tst b m ρ).post (PS' X.K c Dn) (PXs X.K c), ⟨n, F, ρ, O, ev, h⟩, ?_⟩
    rintro m σ1 H1 ⟨F1, ρ1, O1, e1, h1⟩
    cases m with
    | zero => exact h1.elim
    | succ m =>
      refine tt_stepS e1 h1 fun x ρ2 F2 H2 O2 h2 e2 s2 p2 => ?_
      cases x with
      | false => exact h2 σ1 F2 H2 O2 e2
      | true =>
        rw [if_pos rfl] at h2 ⊢
        refine ⟨fun σ3 H3 => ∃ F3 ρ3 O3, EnvR X.K c F3 H3 σ3 ρ3 O3 ∧ (whileGo tst b m ρ3).post (PS' X.K c Dn) (PXs X.K c), fun σ3 H3 q => ⟨m, Nat.lt_succ_self m, q⟩, ?_⟩
        refine ⟨F2, ρ2, O2, e2, Res.post_imp (Res.post_bind h2) (fun f ρ3 h3 => ?_) fun _ _ h => h⟩
        cases f with
        | nx => exact fun σ4 F4 H4 O4 e4 => ⟨F4, ρ3, O4, e4, h3⟩
        | ct => exact fun σ4 F4 H4 O4 e4 => ⟨F4, ρ3, O4, e4, h3⟩
        | bk => exact h3
        | rt o => exact h3
  · exact h.elim
end
end DL
end
section
set_option maxRecDepth 100000
set_option maxHeartbeats 4000000
/-! The functional layer, part 8: comprehensions. -/
namespace DL
open PySem PySem.Spec PyProof.Rows L2
/-! ### slots forgotten and put back -/
def wipeE (ρ : Env) : List Nat → Env
  | [] => ρ
  | v :: vs => (wipeE ρ vs).set v none
def backE (ρ1 : Env) : List Nat → Env → Env
  | [], ρ2 => ρ2
  | v :: vs, ρ2 => backE ρ1 vs (ρ2.set v (match ρ1[v]? with
    | some w => w
    | none => none))
def dataAt (ρ1 : Env) : List Nat → Bool
  | [] => true
  | v :: vs => (match ρ1[v]? with
    | some (some (.d _)) => !vs.contains v
    | some (some _) => false
    | _ => true) && dataAt ρ1 vs
section
variable {K : Frag} {c : Ct} {F H : Hp} {σ : Sl} {ρ : Env} {O : List Addr}
theorem EnvR.wipe1 (e : EnvR K c F H σ ρ O) {i : Nat} (hf : (c.fx.all fun j => j != i) = true) : ∃ R, EnvR K c F H (σ.set i none) (ρ.set i none) R ∧ ∀ b ∈ R, b ∈ O := by
  by_cases hi : i < σ.length
  · obtain ⟨R, h1, h2, h3, _⟩ := e.sl.put (i := i) hi
    refine ⟨R, ⟨e.sub, e.f0, e.h0, e.n0, h3 none, h2 e.nd, fun p hp => e.ow p (h1 p hp), fun j hj => ?_⟩, h1⟩
    have z := List.all_eq_true.mp hf j hj
    have z : j ≠ i := by simpa using z
    rw [List.getElem?_set_ne (Ne.symm z)]
    exact e.fx j hj
  · have hl := e.sl.length
    rw [List.set_eq_of_length_le (by omega), List.set_eq_of_length_le (by omega)]
    exact ⟨O, e, fun _ h => h⟩
theorem EnvR.wipe (e : EnvR K c F H σ ρ O) : ∀ {vs : List Nat}, (vs.all fun i => c.fx.all fun j => j != i) = true → ∃ R, EnvR K c F H (L2.wipe σ vs) (wipeE ρ vs) R ∧ ∀ b ∈ R, b ∈ O
  | [], _ => ⟨O, e, fun _ h => h⟩
  | v :: vs, hf => by
    rw [List.all_cons, Bool.and_eq_true] at hf
    obtain ⟨R, h1, h2⟩ := EnvR.wipe e hf.2
    obtain ⟨R', h3, h4⟩ := h1.wipe1 hf.1
    exact ⟨R', h3, fun b hb => h2 b (h4 b hb)⟩
theorem slr_set_one {v : Option V} {w : Option OV} {R : List Addr} {i : Nat} {τ : Sl} (e : SlR K c.ca F H (τ.set i none) ρ O) (hv : τ[i]? = some v) (hw : w = none ∨ ∃ u x, v = some u ∧ w = some (.d x) ∧ Rp K F u x) :
    ∃ O', SlR K c.ca F H τ (ρ.set i w) O' ∧ (∀ b ∈ O', b ∈ O) ∧ (O.Nodup → O'.Nodup) := by
  have hi : i < (τ.set i none).length := by rw [List.length_set]; exact (List.getElem?_eq_some_iff.mp hv).1
  obtain ⟨R, h1, h2, h3, h4⟩ := e.put (i := i) hi
  have es : (τ.set i none).set i v = τ := by rw [List.set_set, set_self hv]
  rcases hw with rfl | ⟨u, x, rfl, rfl, r⟩
  · have z := h3 v
    rw [es] at z
    exact ⟨R, z, h1, h2⟩
  · obtain ⟨O', k1, k2⟩ := h4 u (.d x) [] (.d r)
    rw [es] at k1
    exact ⟨O', k1, fun b hb => h1 b (by simpa using k2.mem_iff.mp hb), fun n => k2.nodup_iff.mpr (by simpa using h2 n)⟩
theorem slr_back {F1 H1 : Hp} {ρ1 : Env} {O1 : List Addr} (a : SlR K c.ca F1 H1 σ ρ1 O1) (s : Same F1 F) : ∀ {vs : List Nat} {ρ2 : Env} {O2 : List Addr}, SlR K c.ca F H (L2.wipe σ vs) ρ2 O2 → dataAt ρ1 vs = true →
    ∃ O3, SlR K c.ca F H σ (backE ρ1 vs ρ2) O3 ∧ (∀ b ∈ O3, b ∈ O2) ∧ (O2.Nodup → O3.Nodup)
  | [], ρ2, O2, e, _ => ⟨O2, e, fun _ h => h, fun h => h⟩
  | v :: vs, ρ2, O2, e, hd => by
    unfold dataAt at hd
    rw [Bool.and_eq_true] at hd
    have e' : SlR K c.ca F H ((L2.wipe σ vs).set v none) ρ2 O2 := e
    by_cases hv : v < (L2.wipe σ vs).length
    · obtain ⟨O', k1, k2, k3⟩ := slr_set_one (R := []) (w := match ρ1[v]? with
        | some w => w
        | none => none) e' (List.getElem?_eq_getElem hv) (by
        cases q : ρ1[v]? with
        | none => exact .inl rfl
        | some w =>
          cases w with
          | none => exact .inl rfl
          | some o =>
            have hd1 := hd.1
            rw [q] at hd1
            cases o with
            | d x =>
              refine .inr ?_
              obtain ⟨u, A, R, t1, t2, _⟩ := a.at q
              cases t2 with
              | d r =>
                have hn : v ∉ vs := by simpa using hd1
                have z := wipe_out (σ := σ) hn
                rw [t1, List.getElem?_eq_getElem hv] at z
                exact ⟨u, x, Option.some.inj z, rfl, r.mono s⟩
            | lst _ => cases hd1
            | dct _ => cases hd1
            | dctT _ => cases hd1
            | obj _ _ => cases hd1)
      obtain ⟨O3, m1, m2, m3⟩ := slr_back a s k1 hd.2
      exact ⟨O3, m1, fun b hb => k2 b (m2 b hb), fun n => m3 (k3 n)⟩
    · have hl := e'.length
      rw [List.length_set] at hl
      rw [List.set_eq_of_length_le (Nat.le_of_not_lt hv)] at e'
      obtain ⟨O3, m1, m2, m3⟩ := slr_back a s e' hd.2
      refine ⟨O3, ?_, m2, m3⟩
      unfold backE
      rw [List.set_eq_of_length_le (by omega)]
      exact m1
theorem wipe_in {i : Nat} : ∀ {vs : List Nat}, i ∈ vs → i < σ.length → (L2.wipe σ vs)[i]? = some none
  | v :: vs, h, hl => by
    unfold L2.wipe
    by_cases e : v = i
    · subst e
      rw [List.getElem?_set_self (by rw [wipe_length]; exact hl)]
    · rw [List.getElem?_set_ne e]
      exact wipe_in (by
        rcases List.mem_cons.mp h with h | h
        · exact absurd h.symm e
        · exact h) hl
theorem wipe_eq {σ2 : Sl} {vs fb : List Nat} {n : Nat} (hn : σ.length = n) (hl : σ2.length = (L2.wipe σ vs).length) (hall : ((List.range n).all fun i => vs.contains i || fb.contains i) = true) (hf : ∀ i ∈ fb, σ2[i]? = (L2.wipe σ vs)[i]?) : L2.wipe σ2 vs = L2.wipe σ vs := by
  rw [wipe_length] at hl
  refine List.ext_getElem? fun i => ?_
  by_cases hi : i < n
  · by_cases hm : i ∈ vs
    · rw [wipe_in hm (by omega), wipe_in hm (by omega)]
    · rw [wipe_out hm]
      have z := List.all_eq_true.mp hall i (List.mem_range.mpr hi)
      have z : i ∈ fb := by
        rcases Bool.or_eq_true_iff.mp z with z | z
        · exact absurd (by simpa using z) hm
        · simpa using z
      exact hf i z
  · rw [List.getElem?_eq_none (by rw [wipe_length]; omega), List.getElem?_eq_none (by rw [wipe_length]; omega)]
end
/-! ### no exceptions here -/
def Res.bindN {α β : Type} : Res α → (α → Env → Res β) → Res β
  | .ok a ρ, k => k a ρ
  | .ex _ _, _ => .bad
  | .bad, _ => .bad
theorem post_bindN {α β : Type} {r : Res α} {k : α → Env → Res β} {P : β → Env → Prop} {E : Exc → Env → Prop} (h : (r.bindN k).post P E) : r.post (fun a ρ => (k a ρ).post P E) fun _ _ => False := by
  cases r <;> exact h
/-- [e for t in xs if tst] -/
def lcGo (vs : List Nat) (t : D → Env → Option Env) (tst : M Bool) (e : M D) : List D → M (List D)
  | [] => fun ρ => .ok [] ρ
  | x :: xs => fun ρ => match t x ρ with
    | none => .bad
    | some ρ1 => (tst ρ1).bindN fun b ρ2 => if b = true then (e ρ2).bindN fun y ρ3 => (lcGo vs t tst e xs (wipeE ρ3 vs)).bindN fun ys ρ4 => .ok (y :: ys) ρ4 else lcGo vs t tst e xs (wipeE ρ2 vs)
def mLc (vs : List Nat) (it : M (List D)) (t : D → Env → Option Env) (tst : M Bool) (e : M D) : M (List D) := fun ρ => (it ρ).bind fun xs ρ1 => if dataAt ρ1 vs = true then (lcGo vs t tst e xs (wipeE ρ1 vs)).bindN fun ys ρ2 => .ok ys (backE ρ1 vs ρ2) else .bad
def mYes : M Bool := fun ρ => .ok true ρ
/-- the entry of a block -/
abbrev Ct.blk (c : Ct) (fb : List Nat) (F H : Hp) (O : List Addr) (σ : Sl) : Ct := ⟨c.ca, F, H, O, fb, σ, fun _ _ _ _ => False⟩
section
variable {X : Cx} {c : Ct} {tg e elt : Expr} {pos : Pos} {pi pt pe : Bool} {mi : M (List D)} {t : D → Env → Option Env} {tst : M Bool} {me : M D} {scope : Scope} {own : List (Str × Nat)} {ifs : List Expr} {fb : List Nat}
theorem st_yes : ∀ {X : Cx} {c : Ct}, PTs X [] (tt X.K c true mYes) := ⟨fun pins s σ H Q I ⟨F, ρ, O, e, h⟩ => pts_nil.run pins s σ H Q I (h F H O e (Same.refl _) fun _ => Same.refl _)⟩
/-- an entry that leaves the new list D out -/
structure Out (K : Frag) (F H : Hp) (D0 : Addr) (O : List Addr) (a : List V) (xs : List D) : Prop where
  at_ : H D0 = some (.lst a)
  rp : RpAll K F a xs
  nf : F D0 = none
  no : D0 ∉ O
theorem Out.step {K : Frag} {cb : Ct} {F H F' H' : Hp} {D0 : Addr} {O O' : List Addr} {σ σ' : Sl} {ρ' : Env} {a : List V} {xs : List D} (o : Out K F H D0 O a xs) (e : EnvR K (cb.at F H O σ) F' H' σ' ρ' O') : Out K F' H' D0 O' a xs := by
  refine ⟨e.h0 _ _ o.at_ o.no, o.rp.mono e.f0, e.n0 D0 (fun z => by have z : H D0 = none := z; rw [o.at_] at z; cases z) o.no o.nf, fun hm => ?_⟩
  rcases (e.ow D0 hm).2 with z | z
  · exact o.no z
  · have z : H D0 = none := z
    rw [o.at_] at z
    cases z
theorem pe_len {e : Expr} {t : TE} (h : PE X e t) : PE X e (fun σ H Q => σ.length = X.N.length → t σ H Q) := ⟨fun pins s σ H Q I q => h.run pins s σ H Q I (q I.len)⟩
def ttE (K : Frag) (c : Ct) (fb : List Nat) (pu : Bool) (m : M Bool) : TT := fun σ H Q => ∃ F0 H0 O0 σ0, tt K (c.blk fb F0 H0 O0 σ0) pu m σ H Q
def teE (K : Frag) (c : Ct) (fb : List Nat) (pu : Bool) (m : M D) : TE := fun σ H Q => ∃ F0 H0 O0 σ0, te K (c.blk fb F0 H0 O0 σ0) false pu m σ H Q
def tgB (K : Frag) (c : Ct) (fb : List Nat) (t : D → Env → Option Env) : TG := fun v σ H Q => ∃ F0 H0 O0 σ0, tgD K (c.blk fb F0 H0 O0 σ0) t v σ H Q
theorem lc_step {n : Nat} {vs : List Nat} {σ : Sl} {H : Hp} {Q : VK} (hlen : σ.length = n) (hvf : (vs.all fun i => fb.all fun j => j != i) = true) (hall : ((List.range n).all fun i => vs.contains i || fb.contains i) = true) (hcf : (vs.all fun i => c.fx.all fun j => j != i) = true)
    (h0 : tn X.K c (pi && (pt && pe)) (mLc vs mi t tst me) σ H Q) : tLc (ti X.K c pi mi) (tgB X.K c fb t) (ttE X.K c fb pt tst) (teE X.K c fb pe me) vs σ H Q := by
  obtain ⟨F, ρ, O, ev, h⟩ := h0
  refine ⟨F, ρ, O, ev, Res.post_imp (Res.post_bind h) (fun xs ρ1 h1 F1 H1 O1 J e1 s1 p1 it D0 hD => ?_) fun _ _ h => h⟩
  split at h1
  rotate_left
  · exact h1.elim
  rename_i hda
  -- the block's entry
  obtain ⟨R, ew, hR⟩ := e1.wipe (vs := vs) hcf
  have nD := New.own e1.sub hD (.lst ([] : List V))
  have ew := ew.new nD
  have h2 := post_bindN h1
  have start : EnvR X.K (c.blk fb F1 (upd H1 D0 (.lst [])) (D0 :: R) (L2.wipe σ vs)) F1 (upd H1 D0 (.lst [])) (L2.wipe σ vs) (wipeE ρ1 vs) R :=
    ⟨ew.sub, Same.refl _, fun b o q _ => q, fun b _ _ q => q, ew.sl, ew.nd, fun p hp => ⟨(ew.ow p hp).1, .inl (List.mem_cons_of_mem _ hp)⟩, fun i _ => rfl⟩
  have DR : D0 ∉ R := fun z => e1.sl.there D0 (hR D0 z) hD
  generalize hcb : c.blk fb F1 (upd H1 D0 (.lst [])) (D0 :: R) (L2.wipe σ vs) = cb at start
  have cbat : ∀ F H O σ, cb.at F H O σ = c.blk fb F H O σ := fun F H O σ => by rw [← hcb]
  have cbfx : cb.fx = fb := by rw [← hcb]
  refine ⟨fun i m H' => m = xs.length - i ∧ i ≤ xs.length ∧ ∃ F2 ρ2 O2 a acc, EnvR X.K cb F2 H' (L2.wipe σ vs) ρ2 O2 ∧ Out X.K F2 H' D0 O2 a acc ∧ acc.length ≤ i ∧ ((pt && pe) = true → Same H1 H') ∧
      (lcGo vs t tst me (xs.drop i) ρ2).post (fun ys ρ3 => PN X.K c (pi && (pt && pe)) F H σ Q (acc ++ ys) (backE ρ1 vs ρ3)) (fun _ _ => False),
    ⟨xs.length, by simp, Nat.zero_le _, F1, wipeE ρ1 vs, R, [], [], start, ⟨upd_same, .nil, e1.sub.free hD, DR⟩, Nat.zero_le _, fun _ => nD.hH, h2⟩, ?_⟩
  rintro i m H' ⟨rfl, hil, F2, ρ2, O2, a, acc, e2, out, hacc, pur, h3⟩
  have s2 : Same F1 F2 := by have z := e2.f0; rw [← hcb] at z; exact z
  by_cases hlt : i < xs.length
  · rw [List.drop_eq_getElem_cons hlt] at h3
    refine .inr ⟨it.go F2 H' s2 e2.sub i hlt, fun H3 => ∃ F3 ρ3 O3 a' acc', EnvR X.K cb F3 H3 (L2.wipe σ vs) ρ3 O3 ∧ Out X.K F3 H3 D0 O3 a' acc' ∧ acc'.length ≤ i + 1 ∧ ((pt && pe) = true → Same H1 H3) ∧
      (lcGo vs t tst me (xs.drop (i + 1)) ρ3).post (fun ys ρ4 => PN X.K c (pi && (pt && pe)) F H σ Q (acc' ++ ys) (backE ρ1 vs ρ4)) (fun _ _ => False), fun H3 ⟨F3, ρ3, O3, a', acc', q1, q2, q3, q4, q5⟩ => ⟨xs.length - (i + 1), by omega, rfl, hlt, F3, ρ3, O3, a', acc', q1, q2, q3, q4, q5⟩, fun x H3 y => ?_⟩
    obtain ⟨F3, dx, n3, hd, r3⟩ := it.yl F2 H' s2 e2.sub i x H3 hlt y
    rw [List.getElem?_eq_getElem hlt] at hd
    cases hd
    have h3' : (match t xs[i] ρ2 with
      | none => Res.bad
      | some ρ1 => (tst ρ1).bindN fun b ρ2 => if b = true then (me ρ2).bindN fun y ρ3 => (lcGo vs t tst me (xs.drop (i + 1)) (wipeE ρ3 vs)).bindN fun ys ρ4 => .ok (y :: ys) ρ4 else lcGo vs t tst me (xs.drop (i + 1)) (wipeE ρ2 vs)).post
        (fun ys ρ3 => PN X.K c (pi && (pt && pe)) F H σ Q (acc ++ ys) (backE ρ1 vs ρ3)) (fun _ _ => False) := h3
    cases htx : t xs[i] ρ2 with
    | none => rw [htx] at h3'; exact h3'.elim
    | some ρ3 =>
      rw [htx] at h3'
      have e3 := e2.new n3
      have out3 : Out X.K F3 H3 D0 O2 a acc := ⟨n3.hH _ _ out.at_, out.rp.mono n3.fF, n3.nw D0 (fun z => by rw [out.at_] at z; cases z) out.nf, out.no⟩
      refine ⟨F3, H3, O2, L2.wipe σ vs, F3, ρ2, O2, _, ρ3, ?_, r3, htx, fun σ4 F4 H4 O4 n4 e4 l4 => ?_⟩
      · rw [← cbat]; exact e3.self
      · rw [← cbat] at e4
        have a4 := e3.trans e4
        have out4 := out3.step e4
        refine ⟨wipe_eq hlen l4 hall fun j hj => e4.fx j (by rw [← cbfx] at hj; exact hj), ?_⟩
        have hw : L2.wipe σ4 vs = L2.wipe σ vs := wipe_eq hlen l4 hall fun j hj => e4.fx j (by rw [← cbfx] at hj; exact hj)
        refine ⟨F4, H4, O4, σ4, F4, ρ3, O4, by rw [← cbat]; exact a4.self, Res.post_imp (post_bindN h3') (fun b ρ5 h5 F5 H5 O5 e5 s5 p5 => ?_) fun _ _ h => h.elim⟩
        rw [← cbat] at e5
        have a5 := a4.trans e5
        have out5 := out4.step e5
        cases b with
        | false =>
          rw [if_neg Bool.false_ne_true] at h5 ⊢
          obtain ⟨R5, w5, hR5⟩ := a5.wipe (vs := vs) (by rw [cbfx]; exact hvf)
          rw [hw] at w5
          exact ⟨F5, wipeE ρ5 vs, R5, a, acc, w5, ⟨out5.at_, out5.rp, out5.nf, fun z => out5.no (hR5 _ z)⟩, by omega, fun q => (((pur q).trans n3.hH).trans n4.hH).trans (p5 (Bool.and_eq_true_iff.mp q).1), h5⟩
        | true =>
          rw [if_pos rfl] at h5 ⊢
          refine ⟨F5, H5, O5, σ4, F5, ρ5, O5, by rw [← cbat]; exact a5.self, Res.post_imp (post_bindN h5) (fun yv ρ6 h6 F6 H6 O6 v6 e6 s6 p6 r6 => ?_) fun _ _ h => h.elim⟩
          rw [← cbat] at e6
          have a6 := a5.trans e6
          have out6 := out5.step e6
          obtain ⟨R6, w6, hR6⟩ := a6.wipe (vs := vs) (by rw [cbfx]; exact hvf)
          rw [hw] at w6
          have noR6 : D0 ∉ R6 := fun z => out6.no (hR6 _ z)
          have few := it.few
          refine ⟨a, out6.at_, by rw [out6.rp.length]; omega, F6, wipeE ρ6 vs, R6, a ++ [v6], acc ++ [yv], ?_, ⟨upd_same, out6.rp.append (.one r6), out6.nf, noR6⟩, by rw [List.length_append]; simp; omega, fun q => ?_, ?_⟩
          · refine ⟨fun b u q => ?_, w6.f0, fun b o q hb => ?_, w6.n0, w6.sl.mono (Same.refl _) fun b hb => upd_ne fun z => noR6 (by rw [← z]; exact hb), w6.nd, w6.ow, w6.fx⟩
            · rw [upd_ne fun z => by rw [z, out6.nf] at q; cases q]
              exact w6.sub b u q
            · rw [upd_ne fun z => hb (by rw [z, ← hcb]; exact List.mem_cons_self)]
              exact w6.h0 b o q hb
          · obtain ⟨q1, q2⟩ := Bool.and_eq_true_iff.mp q
            refine fun b o hb => ?_
            rw [upd_ne fun z => by rw [z, hD] at hb; cases hb]
            exact p6 q2 _ _ (p5 q1 _ _ (n4.hH _ _ (n3.hH _ _ (pur q b o hb))))
          · have z := post_bindN h6
            refine Res.post_imp z (fun ys ρ7 h7 => ?_) fun _ _ h => h
            have h7 : PN X.K c (pi && (pt && pe)) F H σ Q (acc ++ yv :: ys) (backE ρ1 vs ρ7) := h7
            rw [List.append_assoc]
            exact h7
  · have ei : i = xs.length := by omega
    subst ei
    rw [List.drop_length] at h3
    have h3 : PN X.K c (pi && (pt && pe)) F H σ Q (acc ++ []) (backE ρ1 vs ρ2) := h3
    rw [List.append_nil] at h3
    obtain ⟨O3, m1, m2, m3⟩ := slr_back (H := H') e1.sl s2 (by have z := e2.sl; rw [← hcb] at z; exact z) hda
    have fin : EnvR X.K c F2 H' σ (backE ρ1 vs ρ2) O3 := by
      rw [← hcb] at e2
      refine ⟨e2.sub, e1.f0.trans s2, fun b o q hb => ?_, fun b q1 q2 q3 => ?_, m1, m3 e2.nd, fun p hp => ?_, e1.fx⟩
      · have z := e1.h0 b o q hb
        have hbD : b ≠ D0 := fun k => by rw [k, hD] at z; cases z
        refine e2.h0 b o ?_ fun k => ?_
        · show upd H1 D0 _ b = _
          rw [upd_ne hbD]; exact z
        · rcases List.mem_cons.mp k with k | k
          · exact hbD k
          · rcases (ew.ow b k).2 with k2 | k2
            · exact hb k2
            · rw [q] at k2; cases k2
      · cases q : c.H b with
        | none => exact absurd q q1
        | some o =>
          have z := e1.h0 b o q q2
          have hbD : b ≠ D0 := fun k => by rw [k, hD] at z; cases z
          refine e2.n0 b (fun k => ?_) (fun k => ?_) (e1.n0 b q1 q2 q3)
          · have k : upd H1 D0 (.lst []) b = none := k
            rw [upd_ne hbD, z] at k; cases k
          · rcases List.mem_cons.mp k with k | k
            · exact hbD k
            · rcases (ew.ow b k).2 with k2 | k2
              · exact q2 k2
              · rw [q] at k2; cases k2
      · have hp2 := m2 p hp
        refine ⟨(e2.ow p hp2).1, ?_⟩
        have hpD : p ≠ D0 := fun k => out.no (by rw [← k]; exact hp2)
        rcases (e2.ow p hp2).2 with k | k
        · rcases List.mem_cons.mp k with k | k
          · exact absurd k hpD
          · exact (ew.ow p k).2
        · have k : upd H1 D0 (.lst []) p = none := k
          rw [upd_ne hpD] at k
          by_cases hc : p ∈ c.O
          · exact .inl hc
          · refine .inr ?_
            cases q : c.H p with
            | none => rfl
            | some o => rw [e1.h0 p o q hc] at k; cases k
    refine .inl ⟨it.st F2 H' s2 e2.sub _ (Nat.le_refl _), h3 F2 H' O3 D0 a fin (s1.trans s2) (fun q => ?_) out.at_ out.rp ⟨?_, fun p hp => ?_⟩⟩
    · obtain ⟨q1, q2⟩ := Bool.and_eq_true_iff.mp q
      exact (p1 q1).trans (pur q2)
    · rw [List.singleton_append, List.nodup_cons]
      exact ⟨fun k => out.no (m2 _ k), fin.nd⟩
    · rw [List.mem_singleton] at hp
      subst hp
      refine ⟨out.nf, ?_⟩
      by_cases hc : p ∈ c.O
      · exact .inl hc
      · refine .inr ?_
        cases q : c.H p with
        | none => rfl
        | some o => rw [e1.h0 p o q hc] at hD; cases hD
theorem blk_g (hg : ∀ F H O σ (s : Shared) (Hb : Hp) (C : Addr) (cl : List (Str × Addr)) (fp : List Addr), PG (X.blk s Hb scope (compEnvC scope cl C X.env) fp) tg (tgD X.K (c.blk fb F H O σ) t)) : ∀ (s : Shared) (Hb : Hp) (C : Addr) (cl : List (Str × Addr)) (fp : List Addr), PG (X.blk s Hb scope (compEnvC scope cl C X.env) fp) tg (tgB X.K c fb t) :=
  fun s H C cl fp => ⟨fun pins s' σ H' v u Q I r ⟨F0, H0, O0, σ0, q⟩ => (hg F0 H0 O0 σ0 s H C cl fp).run pins s' σ H' v u Q I r q⟩
theorem blk_t (ht : ∀ F H O σ (s : Shared) (Hb : Hp) (C : Addr) (cl : List (Str × Addr)) (fp : List Addr), PTs (X.blk s Hb scope (compEnvC scope cl C X.env) fp) ifs (tt X.K (c.blk fb F H O σ) pt tst)) : ∀ (s : Shared) (Hb : Hp) (C : Addr) (cl : List (Str × Addr)) (fp : List Addr), PTs (X.blk s Hb scope (compEnvC scope cl C X.env) fp) ifs (ttE X.K c fb pt tst) :=
  fun s H C cl fp => ⟨fun pins s' σ H' Q I ⟨F0, H0, O0, σ0, q⟩ => (ht F0 H0 O0 σ0 s H C cl fp).run pins s' σ H' Q I q⟩
theorem blk_e (he : ∀ F H O σ (s : Shared) (Hb : Hp) (C : Addr) (cl : List (Str × Addr)) (fp : List Addr), PE (X.blk s Hb scope (compEnvC scope cl C X.env) fp) elt (te X.K (c.blk fb F H O σ) false pe me)) : ∀ (s : Shared) (Hb : Hp) (C : Addr) (cl : List (Str × Addr)) (fp : List Addr), PE (X.blk s Hb scope (compEnvC scope cl C X.env) fp) elt (teE X.K c fb pe me) :=
  fun s H C cl fp => ⟨fun pins s' σ H' Q I ⟨F0, H0, O0, σ0, q⟩ => (he F0 H0 O0 σ0 s H C cl fp).run pins s' σ H' Q I q⟩
theorem n_lc (hc : X.calm = true) (hN : X.N.Nodup) (hi : PI X tg e (ti X.K c pi mi)) (ok : BlkOk X.N X.env.scope scope own)
    (hg : ∀ F H O σ (s : Shared) (Hb : Hp) (C : Addr) (cl : List (Str × Addr)) (fp : List Addr), PG (X.blk s Hb scope (compEnvC scope cl C X.env) fp) tg (tgD X.K (c.blk fb F H O σ) t))
    (ht : ∀ F H O σ (s : Shared) (Hb : Hp) (C : Addr) (cl : List (Str × Addr)) (fp : List Addr), PTs (X.blk s Hb scope (compEnvC scope cl C X.env) fp) ifs (tt X.K (c.blk fb F H O σ) pt tst))
    (he : ∀ F H O σ (s : Shared) (Hb : Hp) (C : Addr) (cl : List (Str × Addr)) (fp : List Addr), PE (X.blk s Hb scope (compEnvC scope cl C X.env) fp) elt (te X.K (c.blk fb F H O σ) false pe me))
    (hs : ∀ x, foldedSetIterable e X.env x = pure x := by intro _; rfl) (hvf : ((own.map (·.2)).all fun i => fb.all fun j => j != i) = true := by rfl) (hall : ((List.range X.N.length).all fun i => (own.map (·.2)).contains i || fb.contains i) = true := by rfl) (hcf : ((own.map (·.2)).all fun i => c.fx.all fun j => j != i) = true := by rfl) :
    PE X (.ListComp elt [⟨tg, e, ifs, 0⟩] scope pos) (tn X.K c (pi && (pt && pe)) (mLc (own.map (·.2)) mi t tst me)) :=
  (pe_len (pe_lc (pos := pos) hc hN hi ok (blk_g hg) (blk_t ht) (blk_e he) hs)).imp fun σ H Q h hlen => lc_step hlen hvf hall hcf h
/-- name = [..] on one line -/
theorem sv_setLc {i : Nat} {y : Str} {py spos : Pos} (hc : X.calm = true) (hN : X.N.Nodup) (hi : PI X tg e (ti X.K c pi mi)) (ok : BlkOk X.N X.env.scope scope own)
    (hg : ∀ F H O σ (s : Shared) (Hb : Hp) (C : Addr) (cl : List (Str × Addr)) (fp : List Addr), PG (X.blk s Hb scope (compEnvC scope cl C X.env) fp) tg (tgD X.K (c.blk fb F H O σ) t))
    (ht : ∀ F H O σ (s : Shared) (Hb : Hp) (C : Addr) (cl : List (Str × Addr)) (fp : List Addr), PTs (X.blk s Hb scope (compEnvC scope cl C X.env) fp) ifs (tt X.K (c.blk fb F H O σ) pt tst))
    (he : ∀ F H O σ (s : Shared) (Hb : Hp) (C : Addr) (cl : List (Str × Addr)) (fp : List Addr), PE (X.blk s Hb scope (compEnvC scope cl C X.env) fp) elt (te X.K (c.blk fb F H O σ) false pe me))
    (hy : X.N[i]? = some y := by rfl) (hyl : X.env.scope.names.lookup y = some .local := by rfl) (hfi : (c.fx.all fun j => j != i) = true := by rfl)
    (hsw : swapsWith (.ListComp elt [⟨tg, e, ifs, 0⟩] scope pos) (some (.Name y py)) spos.line X.env = pure true := by exact sw_true rfl rfl rfl rfl)
    (hs : ∀ x, foldedSetIterable e X.env x = pure x := by intro _; rfl) (hvf : ((own.map (·.2)).all fun i => fb.all fun j => j != i) = true := by rfl) (hall : ((List.range X.N.length).all fun i => (own.map (·.2)).contains i || fb.contains i) = true := by rfl) (hcf : ((own.map (·.2)).all fun i => c.fx.all fun j => j != i) = true := by rfl) :
    PS X (.Assign [.Name y py] (.ListComp elt [⟨tg, e, ifs, 0⟩] scope pos) spos) (ts X.K c (sSet i (mLstF (mLc (own.map (·.2)) mi t tst me)))) := ⟨fun pins s σ H Dn I ⟨F, ρ, O, ev, h⟩ => by
  refine (ps_setLc hc hN hy hyl hsw hi ok (blk_g hg) (blk_t ht) (blk_e he) hs).run pins s σ H Dn I ?_
  refine lc_step I.len hvf hall hcf ⟨F, ρ, O, ev, ?_⟩
  refine Res.post_imp (Res.post_bind (Res.post_bind h)) (fun xs ρ1 h2 F' H' O' p vs e' s' p' h3 h4 h5 => ?_) fun _ _ h F' H' O' cls d => h σ F' H' O' cls d
  have s2 : Same F' (frzF F' H' [p]) := frz_same fun q hq => (h5.ow q hq).1
  obtain ⟨O2, e2⟩ := (e'.frz h5).putD (i := i) (.lst ((frz_in (List.mem_singleton_self _)).trans h3) (h4.mono s2)) (slen hy I) hfi
  exact h2 _ _ H' O2 e2⟩
theorem sv_setLcO {i : Nat} {y : Str} {py spos : Pos} (hc : X.calm = true) (hN : X.N.Nodup) (hi : PI X tg e (ti X.K c pi mi)) (ok : BlkOk X.N X.env.scope scope own)
    (hg : ∀ F H O σ (s : Shared) (Hb : Hp) (C : Addr) (cl : List (Str × Addr)) (fp : List Addr), PG (X.blk s Hb scope (compEnvC scope cl C X.env) fp) tg (tgD X.K (c.blk fb F H O σ) t))
    (ht : ∀ F H O σ (s : Shared) (Hb : Hp) (C : Addr) (cl : List (Str × Addr)) (fp : List Addr), PTs (X.blk s Hb scope (compEnvC scope cl C X.env) fp) ifs (tt X.K (c.blk fb F H O σ) pt tst))
    (he : ∀ F H O σ (s : Shared) (Hb : Hp) (C : Addr) (cl : List (Str × Addr)) (fp : List Addr), PE (X.blk s Hb scope (compEnvC scope cl C X.env) fp) elt (te X.K (c.blk fb F H O σ) false pe me))
    (hy : X.N[i]? = some y := by rfl) (hyl : X.env.scope.names.lookup y = some .local := by rfl) (hfi : (c.fx.all fun j => j != i) = true := by rfl)
    (hsw : swapsWith (.ListComp elt [⟨tg, e, ifs, 0⟩] scope pos) (some (.Name y py)) spos.line X.env = pure true := by exact sw_true rfl rfl rfl rfl)
    (hs : ∀ x, foldedSetIterable e X.env x = pure x := by intro _; rfl) (hvf : ((own.map (·.2)).all fun i => fb.all fun j => j != i) = true := by rfl) (hall : ((List.range X.N.length).all fun i => (own.map (·.2)).contains i || fb.contains i) = true := by rfl) (hcf : ((own.map (·.2)).all fun i => c.fx.all fun j => j != i) = true := by rfl) :
    PS X (.Assign [.Name y py] (.ListComp elt [⟨tg, e, ifs, 0⟩] scope pos) spos) (ts X.K c (sSetO i (mLst (mLc (own.map (·.2)) mi t tst me)))) := ⟨fun pins s σ H Dn I ⟨F, ρ, O, ev, h⟩ => by
  refine (ps_setLc hc hN hy hyl hsw hi ok (blk_g hg) (blk_t ht) (blk_e he) hs).run pins s σ H Dn I ?_
  refine lc_step I.len hvf hall hcf ⟨F, ρ, O, ev, ?_⟩
  refine Res.post_imp (Res.post_bind (Res.post_bind h)) (fun xs ρ1 h2 F' H' O' p vs e' s' p' h3 h4 h5 => ?_) fun _ _ h F' H' O' cls d => h σ F' H' O' cls d
  obtain ⟨O2, e2⟩ := e'.put (i := i) (.lst h3 h4) h5 (slen hy I) hfi
  exact h2 _ F' H' O2 e2⟩
end
end DL
end
section
set_option maxRecDepth 100000
set_option maxHeartbeats 4000000
/-! The functional layer, part 9: lists that change, stores, isinstance. -/
namespace DL
open PySem PySem.Spec PyProof.Rows L2
/-! ### a list that is written -/
theorem EnvR.write {K : Frag} {c : Ct} {F H : Hp} {σ : Sl} {ρ : Env} {O : List Addr} {i : Nat} {xs ys : List D} {p : Addr} {ws : List V} (e : EnvR K c F H σ ρ O) (h : ρ[i]? = some (some (.lst xs))) (hp : σ[i]? = some (some (.ref p))) (r : RpAll K F ws ys) :
    ∃ O', EnvR K c F (upd H p (.lst ws)) σ (ρ.set i (some (.lst ys))) O' := by
  obtain ⟨v, A, R, h1, h2, h3, h4⟩ := e.sl.at h
  rw [hp] at h1; cases h1
  have hA : A = [p] := by cases h2; rfl
  subst hA
  have nd := h3.nodup_iff.mp e.nd
  have pR : p ∉ R := fun z => (List.nodup_cons.mp nd).1 z
  have pO : p ∈ O := h3.mem_iff.mpr (by simp)
  obtain ⟨_, k2⟩ := h4 F (upd H p (.lst ws)) (Same.refl _) fun b hb => upd_ne fun z => pR (by rw [← z]; exact hb)
  obtain ⟨O', k3, k4⟩ := k2 (.ref p) (.lst ys) [p] (.lst upd_same r)
  rw [set_self hp] at k3
  have hO : O'.Perm O := k4.trans h3.symm
  refine ⟨O', fun b u q => ?_, e.f0, fun b o q hb => ?_, e.n0, k3, hO.nodup_iff.mpr e.nd, fun q hq => e.ow q (hO.mem_iff.mp hq), e.fx⟩
  · rw [upd_ne fun z => by rw [z, (e.ow p pO).1] at q; cases q]
    exact e.sub b u q
  · rw [upd_ne fun z => by
      subst z
      rcases (e.ow b pO).2 with w | w
      · exact hb w
      · rw [w] at q; cases q]
    exact e.h0 b o q hb
theorem EnvR.lstAt {K : Frag} {c : Ct} {F H : Hp} {σ : Sl} {ρ : Env} {O : List Addr} {i : Nat} {xs : List D} (e : EnvR K c F H σ ρ O) (h : ρ[i]? = some (some (.lst xs))) : ∃ p vs, σ[i]? = some (some (.ref p)) ∧ H p = some (.lst vs) ∧ RpAll K F vs xs := by
  obtain ⟨v, A, h1, h2⟩ := e.var h
  cases h2 with
  | lst h3 h4 => exact ⟨_, _, h1, h3, h4⟩
/-- x.m(..) of a list in the slot i: what it holds then, what comes -/
def mLM (i : Nat) (g : List D → List D → Option (List D × D)) (ms : M (List D)) : M D := fun ρ => match ρ[i]? with
  | some (some (.lst _)) => (ms ρ).bind fun as ρ1 => match ρ1[i]? with
    | some (some (.lst xs)) => match g xs as with
      | some z => .ok z.2 (ρ1.set i (some (.lst z.1)))
      | none => .bad
    | _ => .bad
  | _ => .bad
/-- a list's method by data -/
def rLM (K : Frag) (g : List D → List D → Option (List D × D)) : V → List V → Hp → VK → Prop := fun v vs H Q => ∃ F p ws xs as z, v = .ref p ∧ Same F H ∧ H p = some (.lst ws) ∧ F p = none ∧ RpAll K F ws xs ∧ RpAll K F vs as ∧ g xs as = some z ∧ ∀ ws' u, RpAll K F ws' z.1 → Rp K F u z.2 → Q u (upd H p (.lst ws'))
section
variable {X : Cx} {c : Ct} {e : Expr} {es : List Expr} {pos apos cpos npos : Pos} {pu : Bool} {ms : M (List D)} {g : List D → List D → Option (List D × D)} {x name : Str} {id : String}
theorem lm_step {i : Nat} {to : TE} {t : TA} {σ : Sl} {H : Hp} {Q : VK} {F : Hp} {ρ1 : Env} {O : List Addr} {as : List D} {vs : List V} {p : Addr} (e : EnvR X.K c F H σ ρ1 O) (hp : σ[i]? = some (some (.ref p))) (ra : RpAll X.K F vs as)
    (h : (match ρ1[i]? with
    | some (some (.lst xs)) => match g xs as with
      | some z => Res.ok z.2 (ρ1.set i (some (.lst z.1)))
      | none => .bad
    | _ => .bad).post (fun (x : D) ρ' => ∀ F' H' O' v, EnvR X.K c F' H' σ ρ' O' → Same F F' → Rp X.K F' v x → Q v H') (PX X.K c σ)) : rLM X.K g (.ref p) vs H Q := by
  cases q : ρ1[i]? with
  | none => rw [q] at h; exact h.elim
  | some w =>
    rw [q] at h
    cases w with
    | none => exact h.elim
    | some o =>
      cases o with
      | lst xs =>
        obtain ⟨p', ws, h1, h2, h3⟩ := e.lstAt q
        rw [hp] at h1; cases h1
        cases hg : g xs as with
        | none => simp only [hg] at h; exact h.elim
        | some z =>
          simp only [hg] at h
          have fp : F p = none := by
            obtain ⟨v, A, R, t1, t2, t3, _⟩ := e.sl.at q
            rw [hp] at t1; cases t1
            cases t2
            exact (e.ow p (t3.mem_iff.mpr (by simp))).1
          refine ⟨F, p, ws, xs, as, z, rfl, e.sub, h2, fp, h3, ra, hg, fun ws' u r1 r2 => ?_⟩
          obtain ⟨O', e'⟩ := e.write q hp r1
          exact h F _ O' u e' (Same.refl _) r2
      | d _ => exact h.elim
      | dct _ => exact h.elim
      | dctT _ => exact h.elim
      | obj _ _ => exact h.elim
/-- x.m(e, ..) -/
theorem se_lm (i : Nat) (slot : Slot "list" name id) (hty : typeOf (.builtin id) = pure (.type "method_descriptor")) (hm : MtR X id (rLM X.K g)) (ha : SA X c (e :: es) pu ms) (hN : X.N[i]? = some x := by rfl) (hv : Vis X.env.scope x := by first | exact Or.inl rfl | exact Or.inr (Or.inl rfl) | exact Or.inr (Or.inr rfl)) (hd : (x == ("__debug__" : Str)) = false := by decide)
    (hcd : (x == ("__classdict__" : Str)) = false := by decide)
    (hbase : attributeBase (.Name x npos) name X.env (eval (.Name x npos) X.env) = eval (.Name x npos) X.env := by rfl)
    (hfew : ((backTo cpos (starEach (e :: es) X.env)).all (fun x => !x.1) && (backToKw cpos (keywordEach [] X.env)).all (fun x => x.1.isSome)
      && decide ((e :: es).length + ([] : List Keyword).length + (if ([] : List Keyword).isEmpty then 0 else 1) < 30)) = true := by rfl)
    (hline : (apos.endLine == cpos.line) = true := by rfl) (hs : starEach (e :: es) X.env = (false, eval e X.env) :: starEach es X.env := by rfl) (hplain : (backTo cpos (starEach es X.env)).any (·.1) = false := by rfl) :
    PE X (.Call (.Attribute (.Name x npos) name apos) (e :: es) [] cpos) (te X.K c false false (mLM i g ms)) := (pe_bm F.plainAttrs_list slot hty hm (pe_var hN hv hd hcd) ha.pa hbase hfew hline hs hplain).imp fun σ H Q ⟨F, ρ, O, ev, h⟩ => by
  unfold mLM at h
  cases q : ρ[i]? with
  | none => rw [q] at h; exact h.elim
  | some w =>
    rw [q] at h
    cases w with
    | none => exact h.elim
    | some o =>
      cases o with
      | lst xs =>
        obtain ⟨p, vs, h1, h2, _⟩ := ev.lstAt q
        refine ⟨_, h1, .inl ⟨rfl, _, .of h2⟩, ?_⟩
        refine ta_step ev h fun as ρ1 F1 H1 O1 ws _ h3 e1 s1 p1 r1 => ?_
        exact lm_step (i := i) (to := fun _ _ _ => True) (t := fun _ _ _ => True) e1 h1 r1 (Res.post_imp h3 (fun x ρ' k F' H' O' v e' s' r => k F' H' O' v e' (s1.trans s') (fun z => nomatch z) r) fun _ _ k => k)
      | d _ => exact h.elim
      | dct _ => exact h.elim
      | dctT _ => exact h.elim
      | obj _ _ => exact h.elim
/-- x.m() -/
theorem se_lm0 (i : Nat) (slot : Slot "list" name id) (hty : typeOf (.builtin id) = pure (.type "method_descriptor")) (hm : MtR X id (rLM X.K g)) (hN : X.N[i]? = some x := by rfl) (hv : Vis X.env.scope x := by first | exact Or.inl rfl | exact Or.inr (Or.inl rfl) | exact Or.inr (Or.inr rfl)) (hd : (x == ("__debug__" : Str)) = false := by decide)
    (hcd : (x == ("__classdict__" : Str)) = false := by decide)
    (hbase : attributeBase (.Name x npos) name X.env (eval (.Name x npos) X.env) = eval (.Name x npos) X.env := by rfl) (hline : (apos.endLine == cpos.line) = true := by rfl) :
    PE X (.Call (.Attribute (.Name x npos) name apos) [] [] cpos) (te X.K c false false (mLM i g mNil)) := (pe_bm0 F.plainAttrs_list slot hty hm (pe_var hN hv hd hcd) hbase hline).imp fun σ H Q ⟨F, ρ, O, ev, h⟩ => by
  unfold mLM at h
  cases q : ρ[i]? with
  | none => rw [q] at h; exact h.elim
  | some w =>
    rw [q] at h
    cases w with
    | none => exact h.elim
    | some o =>
      cases o with
      | lst xs =>
        obtain ⟨p, vs, h1, h2, _⟩ := ev.lstAt q
        refine ⟨_, h1, .inl ⟨rfl, _, .of h2⟩, ?_⟩
        have h3 := Res.post_bind h
        exact lm_step (i := i) (to := fun _ _ _ => True) (t := fun _ _ _ => True) ev h1 .nil (Res.post_imp h3 (fun x ρ' k F' H' O' v e' s' r => k F' H' O' v e' s' (fun z => nomatch z) r) fun _ _ k => k)
      | d _ => exact h.elim
      | dct _ => exact h.elim
      | dctT _ => exact h.elim
      | obj _ _ => exact h.elim
theorem mt_imp {r r' : V → List V → Hp → VK → Prop} (h : MtR X id r) (k : ∀ v vs H Q, r' v vs H Q → r v vs H Q) : MtR X id r' := fun pins s σ H x xs v us Q I rx rs q => h pins s σ H x xs v us Q I rx rs (k x xs H Q q)
def appendD (xs as : List D) : Option (List D × D) := match as with
  | [a] => if xs.length < sizeLine then some (xs ++ [a], .none) else none
  | _ => none
theorem md_append : MtR X "list.append" (rLM X.K appendD) := mt_imp mt_append fun v vs H Q ⟨F, p, ws, xs, as, z, hv, s, hp, hf, r1, r2, hg, q⟩ => by
  unfold appendD at hg
  split at hg
  · split at hg
    · rename_i hl
      cases hg
      cases r2 with
      | cons ra rn =>
        cases rn
        exact ⟨p, ws, _, hv, rfl, hp, by rw [r1.length]; exact hl, q _ _ (r1.append (.one ra)) .non⟩
    · cases hg
  · cases hg
def clearD (xs as : List D) : Option (List D × D) := match as with
  | [] => some ([], .none)
  | _ => none
theorem md_clear : MtR X "list.clear" (rLM X.K clearD) := mt_imp mt_clear fun v vs H Q ⟨F, p, ws, xs, as, z, hv, s, hp, hf, r1, r2, hg, q⟩ => by
  unfold clearD at hg
  split at hg
  · cases hg
    cases r2
    exact ⟨p, ws, hv, rfl, hp, q _ _ .nil .non⟩
  · cases hg
theorem RpAll.dropLast {K : Frag} {F : Hp} {vs : List V} {xs : List D} (r : RpAll K F vs xs) : RpAll K F vs.dropLast xs.dropLast := by
  rw [List.dropLast_eq_take, List.dropLast_eq_take, r.length]
  exact r.take _
/-- pop(), pop(i) -/
def popD (xs as : List D) : Option (List D × D) := match as with
  | [] => (xs[xs.length - 1]?).map fun y => (xs.dropLast, y)
  | [.int i] => if -(2 ^ 63) ≤ i ∧ i < 2 ^ 63 then (seqIndex? i xs.length).bind fun k => (xs[k]?).map fun y => (xs.eraseIdx k, y) else none
  | _ => none
theorem md_pop : MtR X "list.pop" (rLM X.K popD) := mt_imp (MtR.or mt_pop mt_popAt) fun v vs H Q ⟨F, p, ws, xs, as, z, hv, s, hp, hf, r1, r2, hg, q⟩ => by
  unfold popD at hg
  split at hg
  · cases r2
    obtain ⟨y, h1, rfl⟩ := Option.map_eq_some_iff.mp hg
    obtain ⟨w, h2, h3⟩ := r1.getD h1
    exact .inl ⟨p, ws, w, hv, rfl, hp, by rw [r1.length]; exact h2, q _ _ r1.dropLast h3⟩
  · split at hg
    · rename_i hb
      cases r2 with
      | cons ra rn =>
        cases rn
        cases ra
        obtain ⟨k, hk, hg⟩ := Option.bind_eq_some_iff.mp hg
        obtain ⟨y, h1, rfl⟩ := Option.map_eq_some_iff.mp hg
        obtain ⟨w, h2, h3⟩ := r1.getD h1
        exact .inr ⟨p, ws, _, k, w, hv, rfl, hp, hb.1, hb.2, by rw [r1.length]; exact hk, h2, q _ _ (r1.erase k) h3⟩
    · cases hg
  · cases hg
end
/-! ### extend -/
end DL
namespace PySem
open PyProof.Rows
theorem dl_extend_tuple (l : Addr) (items : Array Value) (n : Nat) (b : Addr) (items2 : Array Value) (n2 : Nat) (dd : Option Addr) (sl : Array (Option Value)) (hs0 : ¬(!items.isEmpty && Builtin.List.listTooLong (items.size + items2.size)) = true) (hs1 : items.size ≤ sizeLine) (hs2 : items.size + items2.size ≤ sizeLine + 1) :
    Meets (Builtin.«list.extend» ⟨[.ref l, .ref b], []⟩) (fun _ R s => s.heap.get? l = some { cls := .type "list", dict := none, data := .seq items n, slots := #[] } ∧ s.heap.get? b = some { cls := .type "tuple", dict := dd, data := .seq items2 n2, slots := sl } ∧ R (.ok (.ret Value.none)) { s with heap := s.heap.update l (Obj.mapSeq fun x => x ++ items2), toks := s.toks }) :=
  .of_wp fun prog w A R s h => by
    obtain ⟨hp, g, d, tk, os⟩ := s; obtain ⟨hl, hb, h⟩ := h; have f1 := AutoSeq1.idx_int; have f2 := AutoSeq1.sub_tuple_tuple; have f3 := AutoSeq1.sub_list_list; have f4 := AutoSeq1.sub_tuple_list; have f5 := AutoSeq1.sub_list_tuple;
    have hz' : (items ++ items2).size ≤ sizeLine + 1 := by rw [Array.size_append]; exact hs2
    wp_walk using (wpAny_updateSeq hl rfl (hz := hs1) (_hz' := hz')), AutoSeq1.wpAny_loadPart' hl, AutoSeq1.wpAny_loadPart' hb; exact ⟨_, rfl, h⟩
end PySem
namespace DL
open PySem PySem.Spec PyProof.Rows L2
def rExtT (K : Frag) : V → List V → Hp → VK → Prop := fun x vs H Q => ∃ l b xs zs, x = .ref l ∧ vs = [.ref b] ∧ H l = some (.lst xs) ∧ SqT K H b zs ∧ xs.length + zs.length ≤ sizeLine ∧ Q .non (upd H l (.lst (xs ++ zs)))
theorem mt_extendT {X : Cx} : MtR X "list.extend" (rExtT X.K) := by
  intro pins s σ H x vs v us Q I rx rv h
  obtain ⟨l, b, xs, zs, rfl, rfl, hH, hB, hz, q⟩ := h
  cases rx
  obtain ⟨u, rfl, ru⟩ := rv.one
  cases ru
  obtain ⟨z, its, n, r, hl, e⟩ := I.lstM hH
  obtain ⟨its2, r2, pl, hz2⟩ := I.tuple hB
  obtain ⟨o, e2, hc, n2, hd⟩ := pl
  obtain ⟨oc, od, dt, sl⟩ := o
  simp only at hc hd
  subst hc hd
  have hl2 := r2.length
  have hsz : its.toArray.size + its2.toArray.size ≤ sizeLine := by rw [List.size_toArray, List.size_toArray]; omega
  have hlong : ¬ (!its.toArray.isEmpty && Builtin.List.listTooLong (its.toArray.size + its2.toArray.size)) = true := by
    rw [notLongL hsz, Bool.and_false]
    exact Bool.false_ne_true
  refine call_meets F.slot_list_extend ⟨_, e, rfl⟩ F.entry_list_extend (F.args_list_extend_2 _ _) (PySem.dl_extend_tuple l its.toArray n b its2.toArray n2 od sl hlong (by rw [List.size_toArray]; omega) (by omega)) ⟨e, e2, ?_⟩
  refine ⟨.non, _, I.lset (its' := its ++ its2) hH e (by simp) (r.append r2) ?_, rfl, q⟩
  rw [List.length_append]
  omega
def extendD (xs : List D) (a : D) : Option (List D) := match a with
  | .list ys => if xs.length + ys.length ≤ sizeLine then some (xs ++ ys) else none
  | .tuple ys => if xs.length + ys.length ≤ sizeLine then some (xs ++ ys) else none
  | _ => none
/-- x.extend(e), e looked at -/
def mExtend (i : Nat) (m : M D) : M D := fun ρ => match ρ[i]? with
  | some (some (.lst _)) => (m ρ).bind fun a ρ1 => match ρ1[i]? with
    | some (some (.lst xs)) => match extendD xs a with
      | some z => .ok .none (ρ1.set i (some (.lst z)))
      | none => .bad
    | _ => .bad
  | _ => .bad
section
variable {X : Cx} {c : Ct} {e : Expr} {pos apos cpos npos : Pos} {ka pu : Bool} {me : M D} {x : Str}
theorem se_extend (i : Nat) (ha : PE X e (te X.K c ka pu me)) (hN : X.N[i]? = some x := by rfl) (hv : Vis X.env.scope x := by first | exact Or.inl rfl | exact Or.inr (Or.inl rfl) | exact Or.inr (Or.inr rfl)) (hd : (x == ("__debug__" : Str)) = false := by decide)
    (hcd : (x == ("__classdict__" : Str)) = false := by decide)
    (hbase : attributeBase (.Name x npos) "extend" X.env (eval (.Name x npos) X.env) = eval (.Name x npos) X.env := by rfl)
    (hfew : ((backTo cpos (starEach [e] X.env)).all (fun x => !x.1) && (backToKw cpos (keywordEach [] X.env)).all (fun x => x.1.isSome)
      && decide ([e].length + ([] : List Keyword).length + (if ([] : List Keyword).isEmpty then 0 else 1) < 30)) = true := by rfl)
    (hline : (apos.endLine == cpos.line) = true := by rfl) (hs : starEach [e] X.env = (false, eval e X.env) :: starEach [] X.env := by rfl) (hplain : (backTo cpos (starEach [] X.env)).any (·.1) = false := by rfl) :
    PE X (.Call (.Attribute (.Name x npos) "extend" apos) [e] [] cpos) (te X.K c false false (mExtend i me)) := (pe_bm F.plainAttrs_list F.slot_list_extend F.type_list_extend (MtR.or mt_extend mt_extendT) (pe_var hN hv hd hcd) (sa_1 ha hs) hbase hfew hline hs hplain).imp fun σ H Q ⟨F, ρ, O, ev, h⟩ => by
  unfold mExtend at h
  cases q : ρ[i]? with
  | none => rw [q] at h; exact h.elim
  | some w =>
    rw [q] at h
    cases w with
    | none => exact h.elim
    | some o =>
      cases o with
      | d _ => exact h.elim
      | dct _ => exact h.elim
      | dctT _ => exact h.elim
      | obj _ _ => exact h.elim
      | lst xs =>
        obtain ⟨p, vs, h1, h2, _⟩ := ev.lstAt q
        refine ⟨_, h1, .inl ⟨rfl, _, .of h2⟩, ?_⟩
        refine ⟨F, ρ, O, ev, Res.post_imp (Res.post_bind h) (fun a ρ1 h3 F1 H1 O1 v e1 s1 p1 r1 => ?_) fun _ _ h => h⟩
        cases q1 : ρ1[i]? with
        | none => rw [q1] at h3; exact h3.elim
        | some w =>
          rw [q1] at h3
          cases w with
          | none => exact h3.elim
          | some o =>
            cases o with
            | d _ => exact h3.elim
            | dct _ => exact h3.elim
            | dctT _ => exact h3.elim
            | obj _ _ => exact h3.elim
            | lst xs =>
              obtain ⟨p', ws, k1, k2, k3⟩ := e1.lstAt q1
              rw [h1] at k1; cases k1
              simp only at h3
              cases hg : extendD xs a with
              | none => rw [hg] at h3; exact h3.elim
              | some z =>
                rw [hg] at h3
                have fin : ∀ ws', RpAll X.K F1 ws' z → Q .non (upd H1 p (.lst ws')) := fun ws' r => by
                  obtain ⟨O', e'⟩ := e1.write q1 h1 r
                  exact h3 F1 _ O' .non e' s1 (fun z => nomatch z) .non
                unfold extendD at hg
                split at hg
                · split at hg
                  · rename_i hl
                    cases hg
                    obtain ⟨b, zs, rfl, g2, g3⟩ := inv_list e1.sub r1
                    exact .inl ⟨p, b, ws, zs, rfl, rfl, k2, g2, by rw [k3.length, g3.length]; exact hl, fin _ (k3.append g3)⟩
                  · cases hg
                · split at hg
                  · rename_i hl
                    cases hg
                    obtain ⟨b, zs, rfl, g2, g3⟩ := inv_tup r1
                    exact .inr ⟨p, b, ws, zs, rfl, rfl, k2, sq_t e1.sub g2, by rw [k3.length, g3.length]; exact hl, fin _ (k3.append g3)⟩
                  · cases hg
                · cases hg
end
/-! ### x[i] = v -/
/-- the item of the list in the slot i -/
def sPut (i : Nat) (mi mv : M D) : M Fl := fun ρ => (mv ρ).bind fun v ρ1 => match ρ1[i]? with
  | some (some (.lst _)) => (mi ρ1).bind fun k ρ2 => match ρ2[i]?, k with
    | some (some (.lst xs)), .int j => match ixN xs.length j with
      | some n => .ok .nx (ρ2.set i (some (.lst (xs.set n v))))
      | none => .bad
    | _, _ => .bad
  | _ => .bad
section
variable {X : Cx} {c : Ct} {e o ix : Expr} {pos spos npos : Pos} {p1 p2 : Bool} {mi mv : M D} {x : Str}
theorem sv_put (i : Nat) (hN' : X.N[i]? = some x := by rfl) (hix : PE X ix (te X.K c false p1 mi)) (he : PE X e (te X.K c false p2 mv)) (hv : Vis X.env.scope x := by first | exact Or.inl rfl | exact Or.inr (Or.inl rfl) | exact Or.inr (Or.inr rfl)) (hd : (x == ("__debug__" : Str)) = false := by decide)
    (hcd : (x == ("__classdict__" : Str)) = false := by decide)
    (ha : ∀ v, assign (.Subscript (.Name x npos) ix spos) X.env v = (do
      let ov ← holding [v] (eval (.Name x npos) X.env)
      let iv ← holding [v, ov] (eval ix X.env)
      standAt spos
      holding [v, ov, iv] (setItem ov iv v)
      release [v, ov, iv] []) := by intro _; rfl)
    (hs : swapsWithSole [.Subscript (.Name x npos) ix spos] e pos.line X.env = pure false := by rfl) (hw : swappedStores [.Subscript (.Name x npos) ix spos] e X.env = pure none := by rfl)
    (h1 : (assignEach [.Subscript (.Name x npos) ix spos] X.env).map (·.2) = [assign (.Subscript (.Name x npos) ix spos) X.env] := by rfl) :
    PS X (.Assign [.Subscript (.Name x npos) ix spos] e pos) (ts X.K c (sPut i mi mv)) := (ps_asg he (pg_sub (pe_var hN' hv hd hcd) hix set_list ha) hs hw h1).imp fun Dn σ H ⟨F, ρ, O, ev, h⟩ => by
  refine te_stepS ev h fun v ρ1 F1 H1 O1 vv h1 e1 s1 q1 v1 => ?_
  cases k : ρ1[i]? with
  | none => rw [k] at h1; exact h1.elim
  | some w =>
    rw [k] at h1
    cases w with
    | none => exact h1.elim
    | some o =>
      cases o with
      | d _ => exact h1.elim
      | dct _ => exact h1.elim
      | dctT _ => exact h1.elim
      | obj _ _ => exact h1.elim
      | lst xs0 =>
        obtain ⟨p, ws0, g1, _, _⟩ := e1.lstAt k
        refine ⟨_, g1, ?_⟩
        refine te_stepS e1 h1 fun kx ρ2 F2 H2 O2 kv h2 e2 s2 q2 v2 => ?_
        cases k2 : ρ2[i]? with
        | none => simp only [k2] at h2; exact h2.elim
        | some w =>
          simp only [k2] at h2
          cases w with
          | none => exact h2.elim
          | some o =>
            cases o with
            | d _ => exact h2.elim
            | dct _ => exact h2.elim
            | dctT _ => exact h2.elim
            | obj _ _ => exact h2.elim
            | lst xs =>
              cases kx with
              | int j =>
                obtain ⟨p', ws, g2, g3, g4⟩ := e2.lstAt k2
                rw [g1] at g2; cases g2
                simp only at h2
                cases hj : ixN xs.length j with
                | none => rw [hj] at h2; exact h2.elim
                | some n =>
                  rw [hj] at h2
                  obtain ⟨O', e'⟩ := e2.write k2 g1 (g4.set (Rp.mono s2 v1) n)
                  exact ⟨p, ws, j, n, rfl, inv_int v2.up0, g3, by rw [g4.length]; exact hj, h2 σ F2 _ O' e'⟩
              | _ => exact h2.elim
end
end DL
end
section
set_option maxRecDepth 100000
set_option maxHeartbeats 4000000
/-! The functional layer, part 10: isinstance, pairs of names, dicts shown. -/
namespace DL
open PySem PySem.Spec PyProof.Rows L2
/-! ### isinstance(x, T) -/
inductive Ty where
  | str | int | bool | tup | lst | dct
def Ty.nm : Ty → String
  | .str => "str" | .int => "int" | .bool => "bool" | .tup => "tuple" | .lst => "list" | .dct => "dict"
def isT : Ty → D → Option Bool
  | t, .dict kvs => match cells kvs with
    | some _ => none
    | none => some (match t with | .dct => true | _ => false)
  | t, x => some (match t, x with
    | .str, .str _ => true
    | .int, .int _ => true
    | .int, .bool _ => true
    | .bool, .bool _ => true
    | .tup, .tuple _ => true
    | .lst, .list _ => true
    | _, _ => false)
def tyN : D → String
  | .none => "NoneType" | .bool _ => "bool" | .int _ => "int" | .str _ => "str" | .list _ => "list" | .tuple _ => "tuple" | .dict _ => "dict"
theorem sqT_ty {K : Frag} {H : Hp} {p : Addr} {vs : List V} (h : SqT K H p vs) : TyX K H (.ref p) (.type "tuple") := by
  rcases h with (h | ⟨o, h⟩) | ⟨o, _, _, h1, h2, _⟩
  · exact .base (.tup h)
  · exact .fTuple h
  · exact .kTuple h1 h2
theorem ty_of {K : Frag} {F H : Hp} {v : V} {x : D} {t : Ty} {b : Bool} (s : Same F H) (r : RpB K F H v x) (h : isT t x = some b) : TyX K H v (.type (tyN x)) := by
  cases x with
  | none => rw [inv_none r]; exact .base .non
  | bool b => rw [inv_bool r]; exact .base (.bl b)
  | int i => rw [inv_int r]; exact .base (.int i)
  | str z => rw [inv_str r]; exact .base (.str z)
  | list xs =>
    obtain ⟨p, vs, rfl, h1, _⟩ := inv_list s r
    exact .base (.lst h1)
  | tuple xs =>
    obtain ⟨p, vs, rfl, h1, _⟩ := inv_tup r
    exact sqT_ty (sq_t s h1)
  | dict kvs =>
    rcases inv_dict s r with ⟨p, vs, ds, rfl, e, _⟩ | ⟨p, kws, ds, rfl, h1, _⟩
    · subst e
      cases h
    · rcases h1 with h1 | ⟨o, h1⟩
      · exact .base (.dK h1)
      · exact .fDict h1
theorem kt_NoneType (t : Ty) : kitB "NoneType" t.nm = some (false) := by cases t <;> decide +kernel
theorem kt_bool (t : Ty) : kitB "bool" t.nm = some (match t with | .int => true | .bool => true | _ => false) := by cases t <;> decide +kernel
theorem kt_int (t : Ty) : kitB "int" t.nm = some (match t with | .int => true | _ => false) := by cases t <;> decide +kernel
theorem kt_str (t : Ty) : kitB "str" t.nm = some (match t with | .str => true | _ => false) := by cases t <;> decide +kernel
theorem kt_list (t : Ty) : kitB "list" t.nm = some (match t with | .lst => true | _ => false) := by cases t <;> decide +kernel
theorem kt_tuple (t : Ty) : kitB "tuple" t.nm = some (match t with | .tup => true | _ => false) := by cases t <;> decide +kernel
theorem kt_dict (t : Ty) : kitB "dict" t.nm = some (match t with | .dct => true | _ => false) := by cases t <;> decide +kernel
theorem kit_nm {K : Frag} {t : Ty} {x : D} {b : Bool} (h : isT t x = some b) : PySem.W.kitOne K (.type (tyN x)) (.type t.nm) = some b := by
  have tab : ∀ (a c : String) (r : Bool), kitB a c = some r → PySem.W.kitOne K (.type a) (.type c) = some r := fun a c r q => kit_ty q
  cases x with
  | dict kvs =>
    unfold isT at h
    simp only at h
    split at h
    · cases h
    · cases h
      exact tab _ _ _ (kt_dict t)
  | none => cases t <;> cases h <;> exact tab _ _ _ (kt_NoneType _)
  | bool _ => cases t <;> cases h <;> exact tab _ _ _ (kt_bool _)
  | int _ => cases t <;> cases h <;> exact tab _ _ _ (kt_int _)
  | str _ => cases t <;> cases h <;> exact tab _ _ _ (kt_str _)
  | list _ => cases t <;> cases h <;> exact tab _ _ _ (kt_list _)
  | tuple _ => cases t <;> cases h <;> exact tab _ _ _ (kt_tuple _)
def isiD (t : Ty) (x : D) : Option D := (isT t x).map .bool
section
variable {X : Cx} {c : Ct} {e : Expr} {pos p p2 : Pos} {ka pu : Bool} {me : M D} {t : Ty} {x : Str}
theorem se_isi (t : Ty) (hm : X.mg "isinstance" = none) (hm2 : X.mg x = none) (ha : PE X e (te X.K c ka pu me)) (hv2 : bootBuiltins x = some (.type t.nm) := by decide +kernel) (hg : Gl X "isinstance" := by rfl) (hg2 : Gl X x := by rfl) (hn2 : x ≠ "__name__" := by decide) (hd2 : (x == ("__debug__" : Str)) = false := by decide)
    (hs : starEach [e, .Name x p2] X.env = (false, eval e X.env) :: starEach [.Name x p2] X.env := by rfl) (hs2 : starEach [.Name x p2] X.env = (false, eval (.Name x p2) X.env) :: starEach [] X.env := by rfl) (hpl : (backTo pos (starEach [.Name x p2] X.env)).any (·.1) = false := by rfl) :
    PE X (.Call (.Name "isinstance" p) [e, .Name x p2] [] pos) (te X.K c false pu (mF1 (isiD t) me)) :=
  (pe_callB call_isi hg hm boot_isinstance (pa_cons ha (pa_cons (pe_bltn (v := .ty t.nm) hg2 hm2 hv2 rfl hn2 hd2) pa_nil hs2) hs) (by decide) (by decide) hs hpl).imp fun σ H Q ⟨F, ρ, O, ev, h⟩ => by
    refine te_step ev h fun y ρ1 F1 H1 O1 v h1 e1 s1 q1 v1 => ?_
    obtain ⟨z, hz, h2⟩ := post_ofO h1
    obtain ⟨b, hb, rfl⟩ := Option.map_eq_some_iff.mp hz
    exact ⟨v, .ty t.nm, _, _, b, rfl, .ty _, ty_of e1.sub v1.up0 hb, kit_nm hb, h2 F1 H1 O1 _ e1 s1 q1 (.bl b)⟩
end
/-! ### a, b = (x, y) -/
def sPar (i j : Nat) (m : M (List D)) : M Fl := fun ρ => (m ρ).bind fun xs ρ1 => match xs with
  | [x, y] => .ok .nx ((ρ1.set i (some (.d x))).set j (some (.d y)))
  | _ => .bad
section
variable {X : Cx} {c : Ct} {e a b : Expr} {pos : Pos} {pu : Bool} {me : M D} {ms : M (List D)} {x y : Str}
theorem ta_stepS {K : Frag} {α : Type} {F H : Hp} {σ : Sl} {ρ : Env} {O : List Addr} {m : M (List D)} {k : List D → Env → Res α} {P : α → Env → Prop} {Q : List V → Hp → Prop} (e : EnvR K c F H σ ρ O) (h : ((m ρ).bind k).post P (PXs K c))
    (q : ∀ x ρ1 F1 H1 O1 v, (k x ρ1).post P (PXs K c) → EnvR K c F1 H1 σ ρ1 O1 → Same F F1 → (pu = true → Same H H1) → RpAll K F1 v x → Q v H1) : ta K c pu m σ H Q :=
  ⟨F, ρ, O, e, Res.post_imp (Res.post_bind h) (fun x ρ1 h1 F1 H1 O1 v e1 s1 p1 r1 => q x ρ1 F1 H1 O1 v h1 e1 s1 p1 r1) fun _ _ h F' H' O' cls d => h σ F' H' O' cls d⟩
theorem sv_par {i j : Nat} {px py pt pt2 : Pos} {kt k2 : Nat} (hc : X.calm = true) (hN : X.N.Nodup) (ha : SA X c [a, b] pu ms) (hi : X.N[i]? = some x := by rfl) (hj : X.N[j]? = some y := by rfl) (hij : i ≠ j := by decide) (hx : X.env.scope.names.lookup x = some .local := by rfl) (hy : X.env.scope.names.lookup y = some .local := by rfl)
    (hfi : (c.fx.all fun k => k != i) = true := by rfl) (hfj : (c.fx.all fun k => k != j) = true := by rfl)
    (hs : swapsWithSole [.Tuple [.Name x px, .Name y py] kt pt] (.Tuple [a, b] k2 pt2) pos.line X.env = pure false := by rfl)
    (hw : swappedStores [.Tuple [.Name x px, .Name y py] kt pt] (.Tuple [a, b] k2 pt2) X.env = pure (some [x, y]) := by rfl) :
    PS X (.Assign [.Tuple [.Name x px, .Name y py] kt pt] (.Tuple [a, b] k2 pt2) pos) (ts X.K c (sPar i j ms)) := ⟨fun pins s σ H Dn I ⟨F, ρ, O, ev, h⟩ => by
  refine (ps_par hc hN hi hj hij hx hy ha.pa hw hs).run pins s σ H Dn I ?_
  refine ta_stepS ev h fun xs ρ1 F1 H1 O1 vs h1 e1 s1 q1 r1 => ?_
  split at h1
  · cases r1 with
    | cons ra r1 =>
      cases r1 with
      | cons rb r1 =>
        cases r1
        obtain ⟨O2, e2⟩ := e1.putD ra (slen hi I) hfi
        obtain ⟨O3, e3⟩ := e2.putD rb (by rw [List.length_set]; exact slen hj I) hfj
        exact ⟨_, _, rfl, h1 _ F1 H1 O3 e3⟩
  · exact h1.elim⟩
/-- target = e, any target -/
def sTgt (t : D → Env → Option Env) (m : M D) : M Fl := fun ρ => (m ρ).bind fun x ρ1 => match t x ρ1 with
  | some ρ2 => .ok .nx ρ2
  | none => .bad
theorem sv_tgt {tg : Expr} {t : D → Env → Option Env} (he : PE X e (te X.K c false pu me)) (hg : PG X tg (tgD X.K c t)) (hs : swapsWithSole [tg] e pos.line X.env = pure false := by rfl) (hw : swappedStores [tg] e X.env = pure none := by rfl)
    (h1 : (assignEach [tg] X.env).map (·.2) = [assign tg X.env] := by rfl) : PS X (.Assign [tg] e pos) (ts X.K c (sTgt t me)) := (ps_asg he hg hs hw h1).imp fun Dn σ H ⟨F, ρ, O, ev, h⟩ => by
  refine te_stepS ev h fun x ρ1 F1 H1 O1 v h1 e1 s1 q1 v1 => ?_
  cases ht : t x ρ1 with
  | none => rw [ht] at h1; exact h1.elim
  | some ρ2 =>
    rw [ht] at h1
    exact ⟨F1, ρ1, O1, x, ρ2, e1, v1, ht, fun σ' F' H' O' _ e' _ => h1 σ' F' H' O' e'⟩
end
/-! ### x += e, ints -/
def sAug (g : D → D → Option D) (i : Nat) (m : M D) : M Fl := fun ρ => match ρ[i]? with
  | some (some (.d x)) => (m ρ).bind fun y ρ1 => match g x y with
    | some z => .ok .nx (ρ1.set i (some (.d z)))
    | none => .bad
  | _ => .bad
section
variable {X : Cx} {c : Ct} {e : Expr} {pos npos : Pos} {pu : Bool} {me : M D} {x : Str}
theorem sv_aug {op : Operator} {g : D → D → Option D} {tip : TIp} (hop : PIp X op tip) (hg : ∀ {F : Hp} {v w : V} {x y z : D} {H : Hp} {Q : VK}, Rp X.K F v x → Rp X.K F w y → g x y = some z → (∀ u, Rp X.K F u z → Q u H) → tip v w H Q)
    (i : Nat) (hN : X.N.Nodup) (he : PE X e (te X.K c false pu me)) (hi : X.N[i]? = some x := by rfl) (hx : Loc X.env.scope x := by first | exact Or.inl rfl | exact Or.inr rfl) (hc : (c.fx.all fun j => j != i) = true := by rfl) (hf : X.fn x = true ∨ X.env.scope.names.lookup x = some .local := by first | exact .inl rfl | exact .inr rfl) :
    PS X (.AugAssign (.Name x npos) op e pos) (ts X.K c (sAug g i me)) := ⟨fun pins s σ H Dn I ⟨F, ρ, O, ev, h⟩ => by
  refine (ps_aug hN hi hx he hop hf).run pins s σ H Dn I ?_
  unfold sAug at h
  cases k : ρ[i]? with
  | none => rw [k] at h; exact h.elim
  | some w =>
    rw [k] at h
    cases w with
    | none => exact h.elim
    | some o =>
      cases o with
      | lst _ => exact h.elim
      | dct _ => exact h.elim
      | dctT _ => exact h.elim
      | obj _ _ => exact h.elim
      | d a =>
        obtain ⟨v, A, h1, h2⟩ := ev.var k
        cases h2 with
        | d r =>
          refine ⟨v, h1, te_stepS ev h fun y ρ1 F1 H1 O1 w h3 e1 s1 q1 v1 => ?_⟩
          cases hz : g a y with
          | none => simp only [hz] at h3; exact h3.elim
          | some z =>
            simp only [hz] at h3
            refine hg (r.mono s1) v1 hz fun u ru => ?_
            obtain ⟨O', e'⟩ := e1.putD ru (slen hi I) hc
            exact h3 _ F1 H1 O' e'⟩
def iAddD : D → D → Option D
  | .int i, .int j => some (.int (i + j))
  | _, _ => none
def iSubD : D → D → Option D
  | .int i, .int j => some (.int (i - j))
  | _, _ => none
theorem ag_add {F : Hp} {v w : V} {x y z : D} {H : Hp} {Q : VK} (r : Rp X.K F v x) (q : Rp X.K F w y) (h : iAddD x y = some z) (k : ∀ u, Rp X.K F u z → Q u H) : ipI (fun i j => i + j) v w H Q := by
  unfold iAddD at h
  split at h
  · cases h
    cases r
    cases q
    exact ⟨_, _, rfl, rfl, k _ (.int _)⟩
  · cases h
theorem ag_sub {F : Hp} {v w : V} {x y z : D} {H : Hp} {Q : VK} (r : Rp X.K F v x) (q : Rp X.K F w y) (h : iSubD x y = some z) (k : ∀ u, Rp X.K F u z → Q u H) : ipI (fun i j => i - j) v w H Q := by
  unfold iSubD at h
  split at h
  · cases h
    cases r
    cases q
    exact ⟨_, _, rfl, rfl, k _ (.int _)⟩
  · cases h
end
end DL
end
section
set_option maxRecDepth 100000
set_option maxHeartbeats 4000000
/-! The functional layer: sets whose members are compared by value (texts, ..): made of a list, sorted, counted. -/
namespace DL
open PySem PySem.Spec PyProof.Rows L2 PySem.W
section
variable {κ : Type} [DecidableEq κ] {P : Program} {w : World} {knd : KeyKind P w κ}
theorem each_perm {α β : Type} {R : α → β → Prop} {l l' : List α} (p : l'.Perm l) : ∀ {m : List β}, EachIs R l m → ∃ m', EachIs R l' m' ∧ m'.Perm m := by
  induction p with
  | nil => intro m h; exact ⟨m, h, .refl _⟩
  | cons x _ ih =>
    intro m h
    cases h with
    | cons h1 h2 =>
      obtain ⟨m', k1, k2⟩ := ih h2
      exact ⟨_, .cons h1 k1, k2.cons _⟩
  | swap x y l =>
    intro m h
    cases h with
    | cons h1 h2 =>
      cases h2 with
      | cons h3 h4 => exact ⟨_, .cons h3 (.cons h1 h4), .swap ..⟩
  | trans _ _ ih1 ih2 =>
    intro m h
    obtain ⟨m1, k1, k2⟩ := ih2 h
    obtain ⟨m2, k3, k4⟩ := ih1 k1
    exact ⟨m2, k3, k4.trans k2⟩
theorem each_len {α β : Type} {R : α → β → Prop} : ∀ {l : List α} {m : List β}, EachIs R l m → l.length = m.length
  | _, _, .nil => rfl
  | _, _, .cons _ t => by rw [List.length_cons, List.length_cons, each_len t]
theorem each_at {α β : Type} {R : α → β → Prop} : ∀ {l : List α} {m : List β} {x : α}, EachIs R l m → x ∈ l → ∃ y ∈ m, R x y
  | _, _, x, .nil, h => by simp at h
  | _, _, x, .cons h1 t, h => by
    rcases List.mem_cons.mp h with h | h
    · subst h; exact ⟨_, List.mem_cons_self, h1⟩
    · obtain ⟨y, hy, r⟩ := each_at t h
      exact ⟨y, List.mem_cons_of_mem _ hy, r⟩
theorem each_back {α β : Type} {R : α → β → Prop} : ∀ {l : List α} {m : List β} {y : β}, EachIs R l m → y ∈ m → ∃ x ∈ l, R x y
  | _, _, x, .nil, h => by simp at h
  | _, _, x, .cons h1 t, h => by
    rcases List.mem_cons.mp h with h | h
    · subst h; exact ⟨_, List.mem_cons_self, h1⟩
    · obtain ⟨y, hy, r⟩ := each_back t h
      exact ⟨y, List.mem_cons_of_mem _ hy, r⟩
/-- a set's row that stands for the key -/
def Ent (knd : KeyKind P w κ) (e : Int × Value) (k : κ) : Prop := knd.is k e.2 = true ∧ e.1 = knd.hash k ∧ e.2.scannable = true
theorem ents_elems {l : List (Int × Value)} {ks : List κ} (h : EachIs (Ent knd) l ks) : ElemsOf knd l := fun e he => by
  obtain ⟨k, _, h1, h2, h3⟩ := each_at h he
  exact ⟨⟨k, h1, h2⟩, h3⟩
/-- the rows, the table and the keys of a set -/
structure Rows (knd : KeyKind P w κ) (es : Array (Int × Value)) (t : SetTable) (ks : List κ) : Prop where
  ent : EachIs (Ent knd) es.toList ks
  nd : ks.Nodup
  low : es.size < scanBound
  fit : t.fits es.size = true
  ris : Ris t.place.toList
  led : w.params.followText "set-order" = true ∨ t.led = true
/-- at a stands a set of the keys ks -/
def SK (knd : KeyKind P w κ) (h : Heap) (a : Addr) (ks : List κ) : Prop := ∃ o es ep t, h.get? a = some o ∧ o.ExactSet ∧ o.data = .set es ep t ∧ Rows knd es t ks
theorem SK.keep {h h' : Heap} {a : Addr} {ks : List κ} (R : SK knd h a ks) (k : ∀ o, h.get? a = some o → h'.get? a = some o) : SK knd h' a ks := by
  obtain ⟨o, es, ep, t, ho, r⟩ := R
  exact ⟨o, es, ep, t, k o ho, r⟩
theorem SK.lt {h : Heap} {a : Addr} {ks : List κ} (R : SK knd h a ks) : a < h.objs.size := by
  obtain ⟨o, _, _, _, ho, _⟩ := R
  exact Heap.lt_size ho
theorem SK.setOf {h : Heap} {a : Addr} {ks : List κ} (R : SK knd h a ks) : h.SetOf knd a (fun k => decide (k ∈ ks)) ks.length := by
  obtain ⟨o, es, ep, t, ho, hx, hd, r⟩ := R
  refine ⟨o, es, ep, t, ho, hx, hd, ents_elems r.ent, fun k => ?_, r.low, r.fit, by rw [← Array.length_toList, each_len r.ent]⟩
  rw [decide_eq_true_eq]
  constructor
  · intro hk
    obtain ⟨e, he, q⟩ := each_back r.ent hk
    exact ⟨e, he, q.1⟩
  · rintro ⟨e, he, q⟩
    obtain ⟨k', hk', q'⟩ := each_at r.ent he
    rw [knd.inj _ _ _ q q'.1]
    exact hk'
/-- one store leaves a set of these keys -/
theorem sk_store {h : Heap} {a : Addr} {o : Obj} {es0 es : Array (Int × Value)} {ep : Nat} {t0 t : SetTable} {ks : List κ} (ho : h.get? a = some o) (hx : o.ExactSet) (hd : o.data = .set es0 ep t0) (r : Rows knd es t ks) :
    (∃ o', (h.update a (Obj.putSet es t)).get? a = some o' ∧ o'.ExactSet ∧ o'.data = .set es (ep + 1) t) ∧ SK knd (h.update a (Obj.putSet es t)) a ks := by
  have e := Heap.get?_update_self (Obj.putSet es t) ho (by rw [putSet_of es t hd]; rfl)
  rw [putSet_of es t hd] at e
  exact ⟨⟨_, e, hx, rfl⟩, ⟨_, es, ep + 1, t, e, hx, rfl, r⟩⟩
section
variable {A : Around} {E : Value → Shared → Prop} {s : Shared} {a : Addr} {ks : List κ}
/-- the rows relaid: the same keys in another order -/
theorem rows_relaid {es : Array (Int × Value)} {t : SetTable} (r : Rows knd es t ks) (n : Nat) : ∃ ks', ks'.Perm ks ∧ Rows knd (relayAll t es n).1 (relayAll t es n).2.1 ks' := by
  have p := relayAll_perm t es n
  obtain ⟨ks', h1, h2⟩ := each_perm p r.ent
  have hz : (relayAll t es n).1.size = es.size := by rw [← Array.length_toList, p.length_eq, Array.length_toList]
  exact ⟨ks', h2, h1, h2.nodup_iff.mpr r.nd, by rw [hz]; exact r.low, relayAll_fits t es n, relayAll_ris t es n, r.led.imp id fun z => by rw [relayAll_led]; exact z⟩
/-- a new row -/
theorem rows_new {es : Array (Int × Value)} {t : SetTable} (r : Rows knd es t ks) {k : κ} {x : Value} (hk : knd.is k x = true) (hs : x.scannable = true) (hn : k ∉ ks) (room : ks.length + 1 < scanBound) :
    ∃ ks', ks'.Perm (k :: ks) ∧ Rows knd (layNew t es (knd.hash k) x).1 (layNew t es (knd.hash k) x).2.1 ks' := by
  have p := layNew_perm t es (knd.hash k) x
  rw [Array.toList_push] at p
  have p2 := p.trans (List.perm_append_singleton (knd.hash k, x) es.toList)
  obtain ⟨ks', h1, h2⟩ := each_perm p2 (.cons (R := Ent knd) ⟨hk, rfl, hs⟩ r.ent)
  have hz : (layNew t es (knd.hash k) x).1.size = ks.length + 1 := by rw [← Array.length_toList, each_len h1, h2.length_eq, List.length_cons]
  exact ⟨ks', h2, h1, h2.nodup_iff.mpr (List.nodup_cons.mpr ⟨hn, r.nd⟩), by rw [hz]; exact room, layNew_fits t es (knd.hash k) x, layNew_ris t es (knd.hash k) x r.ris, r.led.imp id fun z => by rw [layNew_led]; exact z⟩
theorem rows_off {es : Array (Int × Value)} {t : SetTable} (r : Rows knd es t ks) : Rows knd es { t with plain := false } ks := ⟨r.ent, r.nd, r.low, SetTable.fits_plain_off r.fit, r.ris, r.led⟩
/-- the stores behind a new row -/
theorem sk_tail {g : Bool → Sem Unit} (hg : ∀ (b : Bool) (s₁ : Shared) (Q' : Unit → Shared → Prop), Q' () s₁ → wpAny (model P w) A (g b) Q' E s₁) {o : Obj} {es0 es : Array (Int × Value)} {ep : Nat} {t0 t : SetTable} (c : Bool)
    (ho : s.heap.get? a = some o) (hx : o.ExactSet) (hd : o.data = .set es0 ep t0) (r : Rows knd es t ks) {R : Option Bool → Shared → Prop}
    (hR : ∀ h' ks', ks'.Perm ks → Heap.SameBut a s.heap h' → SK knd h' a ks' → R (some true) { s with heap := h' }) :
    wpAny (model P w) A (do
      storeSet a es t
      if c = true then
        g (relayAll t es (SetTable.grown es.size)).2.2
        storeSet a (relayAll t es (SetTable.grown es.size)).1 (relayAll t es (SetTable.grown es.size)).2.1
        pure (some true)
      else pure (some true)) R E s := by
  obtain ⟨⟨o1, e1, x1, d1⟩, k1⟩ := sk_store ho hx hd r
  refine wpAny_bind (wpAny_storeSet_of ho hd ?_ (fits_of_scanBound r.low))
  cases c with
  | false => exact wpAny_pure (hR _ ks (.refl _) (Heap.SameBut.update ..) k1)
  | true =>
    rw [if_pos rfl]
    obtain ⟨ks', p, r'⟩ := rows_relaid r (SetTable.grown es.size)
    obtain ⟨_, k2⟩ := sk_store e1 x1 d1 r'
    exact wpAny_bind (hg _ _ _ (wpAny_bind (wpAny_storeSet_of e1 d1 (wpAny_pure (hR _ ks' p ((Heap.SameBut.update ..).trans (Heap.SameBut.update ..)) k2)) (fits_of_scanBound r'.low))))
/-- one member put in -/
theorem sk_add {k : κ} {x : Value} {Q : Bool → Shared → Prop} (R : SK knd s.heap a ks) (hk : knd.is k x = true) (hs : x.scannable = true) (room : ks.length + 1 < scanBound)
    (hQ : ∀ h' ks' b, ks'.Perm (if k ∈ ks then ks else k :: ks) → Heap.SameBut a s.heap h' → SK knd h' a ks' → Q b { s with heap := h' }) : wpAny (model P w) A (setAddHashed a x (knd.hash k)) Q E s := by
  have R0 := R
  obtain ⟨o, es, ep, t, ho, hx, hd, r⟩ := R
  have el := ents_elems r.ent
  unfold setAddHashed setAddHashedIn
  refine wpAny_holding (wpAny_bind (wpAny_setState_of ho hd r.fit ?_))
  simp only [byScan_of hs r.low el, if_true]
  unfold setAddByScan
  refine wpAny_bind (wpAny_bind (wpAny_rule (wpAny_bind (wpAny_setScan_of hk ho hd r.fit el ?_))))
  cases hf : List.findIdx? (fun e => knd.is k e.2) es.toList with
  | some j =>
    obtain ⟨hj, pj, _⟩ := List.findIdx?_eq_some_iff_getElem.mp hf
    obtain ⟨k', hk', q⟩ := each_at r.ent (List.getElem_mem hj)
    have ek : k = k' := knd.inj _ _ _ pj q.1
    refine wpAny_pure (wpAny_pure (hQ s.heap ks false ?_ (Heap.SameBut.refl a s.heap) R0))
    rw [if_pos (by rw [ek]; exact hk')]
  | none =>
    have hn : k ∉ ks := fun z => by
      obtain ⟨e, he, q⟩ := each_back r.ent z
      have c := List.findIdx?_eq_none_iff.mp hf e he
      rw [q.1] at c
      cases c
    obtain ⟨ks1, p1, r1⟩ := rows_new r hk hs hn room
    dsimp only
    generalize layNew t es (knd.hash k) x = Z at r1 ⊢
    obtain ⟨es1, t1, wd, gv⟩ := Z
    dsimp only at r1 ⊢
    have fin : ∀ h' ks', ks'.Perm ks1 → Heap.SameBut a s.heap h' → SK knd h' a ks' → Q true { s with heap := h' } := fun h' ks' p sb k' => hQ h' ks' true (by rw [if_neg hn]; exact p.trans p1) sb k'
    have gw : ∀ (b : Bool) {s₁ : Shared} {Q' : Unit → Shared → Prop}, Q' () s₁ → wpAny (model P w) A (match b with | true => rule "set.scan.the-table-gave-way" | false => pure ()) Q' E s₁ :=
      fun b s₁ Q' q => by cases b with
        | false => exact wpAny_pure q
        | true => exact wpAny_rule q
    refine wpAny_bind (gw gv ?_)
    have last : ∀ (t2 : SetTable), Rows knd es1 t2 ks1 → wpAny (model P w) A (do
        storeSet a es1 t2
        if (!wd && t2.tooFull) = true then
          (match (relayAll t2 es1 (SetTable.grown es1.size)).2.2 with | true => rule "set.scan.the-table-gave-way" | false => pure ())
          storeSet a (relayAll t2 es1 (SetTable.grown es1.size)).1 (relayAll t2 es1 (SetTable.grown es1.size)).2.1
          pure (some true)
        else pure (some true)) (fun r s' => wpAny (model P w) A (match r with | some added => pure added | none => setAddHashedIn a x (knd.hash k) 99999) Q E s') E s := fun t2 r2 =>
      sk_tail (fun b _ _ q => gw b q) _ ho hx hd r2 fun h' ks' p sb k' => wpAny_pure (fin h' ks' p sb k')
    split
    · refine wpAny_bind ?_
      rw [hashByValue_scannable 8 hs]
      refine wpAny_pure ?_
      cases plainKind x with
      | true => exact last _ r1
      | false => exact last _ (rows_off r1)
    · exact wpAny_bind (wpAny_pure (last _ r1))
end
/-! ### set(xs), xs a list -/
section
variable {A : Around} {R : Result → Shared → Prop} {I S : Addr} {fp wr : List Addr} {G : Array GenState → Array GenState → Prop} {n : Nat} {Pv : Nat → Value → Prop} {St : Nat → Shared → Prop}
/-- the loop that fills a set; ks: what it holds -/
theorem sk_loop (W : WalksS P w A.in1 I fp wr G n Pv St) (hSf : S ∉ fp) (val : Nat → κ) (hval : ∀ i v, Pv i v → knd.is (val i) v = true ∧ v.scannable = true) (low : n + 1 < scanBound) :
    ∀ (m i : Nat) (s : Shared) (ks : List κ), m + i = n → St i s → SK knd s.heap S ks → (∀ x, x ∈ ks ↔ ∃ j, j < i ∧ val j = x) → ks.length ≤ i →
      (∀ s' ks', Moved (S :: wr) G s s' → SK knd s'.heap S ks' → (∀ x, x ∈ ks' ↔ ∃ j, j < n ∧ val j = x) → ks'.length ≤ n → R (.ok (.ret .none)) s') →
      codeAny (model P w) A (.builtin "set.update.loop" ⟨[.ref S, .ref I], []⟩) R s := by
  have out : S ∉ wr := fun z => hSf (W.sub _ z)
  have inc : ∀ b ∈ wr, b ∈ S :: wr := fun b hb => List.mem_cons_of_mem _ hb
  intro m
  induction m with
  | zero =>
    intro i s ks hm st hS hks hlen fin
    rw [Nat.zero_add] at hm
    subst hm
    refine codeAny_builtin F.entry_set_update_loop ?_
    rw [Around.under_plainId F.plain_set_update_loop _]
    show wpAny _ A.in1 (pyNext (.ref I) >>= _) _ _ s
    refine wpAny_bind (W.done s _ _ st fun s' mv => ?_)
    exact wpAny_pure (fin s' ks (mv.mono inc) (hS.keep fun o q => mv.heap S o out q) hks hlen)
  | succ m ih =>
    intro i s ks hm st hS hks hlen fin
    have hi : i < n := by omega
    refine codeAny_builtin F.entry_set_update_loop ?_
    rw [Around.under_plainId F.plain_set_update_loop _]
    show wpAny _ A.in1 (pyNext (.ref I) >>= _) _ _ s
    refine wpAny_bind (W.item i s _ _ hi st fun v s1 hv st1 mv => ?_)
    obtain ⟨hk, hs⟩ := hval i v hv
    have hS1 : SK knd s1.heap S ks := hS.keep fun o q => mv.heap S o out q
    show wpAny _ A.in1 (holding [v] (setAdd S v) >>= _) _ _ s1
    unfold setAdd
    refine wpAny_bind (wpAny_holding (wpAny_holding (wpAny_bind (knd.pyHash hk ?_))))
    refine sk_add (s := { s1 with toks := s1.toks + 1 }) hS1 hk hs (by omega) fun h' ks' b p sb hS2 => ?_
    have mem' : ∀ x, x ∈ ks' ↔ ∃ j, j < i + 1 ∧ val j = x := fun x => by
      rw [p.mem_iff]
      have base : (x ∈ (if val i ∈ ks then ks else val i :: ks)) ↔ (x ∈ ks ∨ val i = x) := by
        split
        · rename_i hin
          exact ⟨.inl, fun z => z.elim id fun z => z ▸ hin⟩
        · rw [List.mem_cons]
          exact ⟨fun z => z.elim (fun z => .inr z.symm) .inl, fun z => z.elim .inr fun z => .inl z.symm⟩
      rw [base, hks x]
      constructor
      · rintro (⟨j, hj, e⟩ | e)
        · exact ⟨j, by omega, e⟩
        · exact ⟨i, by omega, e⟩
      · rintro ⟨j, hj, e⟩
        by_cases z : j = i
        · exact .inr (by rw [← z]; exact e)
        · exact .inl ⟨j, by omega, e⟩
    have len' : ks'.length ≤ i + 1 := by
      rw [p.length_eq]
      split
      · omega
      · rw [List.length_cons]; omega
    refine wpAny_pure ⟨plainId_quiet F.plain_set_update_loop _, ih (i + 1) _ ks' (by omega) (W.frame _ s1 _ _ st1 (Nat.le_succ _) fun b hb o q => ?_) hS2 mem' len' fun s3 ks3 mv3 hS3 hm3 hl3 => ?_⟩
    · rw [sb.2 b (fun z => hSf (by rw [← z]; exact hb))]; exact q
    · refine fin s3 ks3 (Moved.trans W.gtrans ((mv.mono inc).then_heap (Nat.le_succ _) fun b o hb q => ?_) mv3) hS3 hm3 hl3
      rw [sb.2 b (fun z => hb (by rw [z]; exact List.mem_cons_self))]; exact q
end
end
/-- a new set's object -/
def fSet (w : World) : Obj := { cls := .type "set", dict := none, data := .set #[] 0 (.fresh 0 0 (!w.params.followText "set-order")) }
section
variable {κ : Type} [DecidableEq κ] {P : Program} {w : World} {knd : KeyKind P w κ} {A : Around} {E : Value → Shared → Prop} {s : Shared}
theorem sk_fresh {h : Heap} {a : Addr} (e : h.get? a = some (fSet w)) : SK knd h a [] := by
  refine ⟨fSet w, #[], 0, _, e, ⟨rfl, rfl, rfl⟩, rfl, .nil, .nil, by decide, rfl, List.Pairwise.nil, ?_⟩
  show _ ∨ (!w.params.followText "set-order") = true
  cases w.params.followText "set-order" with
  | false => exact .inr rfl
  | true => exact .inl rfl
/-- set.__new__(set, x) -/
theorem set_new1 (x : Value) {Q : Value → Shared → Prop} (h : Q (.ref s.heap.objs.size) { s with heap := s.heap.push (fSet w) }) : codeAny (model P w) A (.call (.builtin "set.__new__") ⟨[.type "set", x], []⟩) (wants Q E) s := by
  refine codeAny_of_tree ?_
  show wpAny _ A.in1 (checkBuiltinCall "set.__new__" ⟨[.type "set", x], []⟩ >>= fun _ => again (.builtin "set.__new__" ⟨[.type "set", x], []⟩)) _ _ s
  refine wpAny_bind (wpAny_of_eq (F.newCall_set_1 x) (wpAny_pure ⟨plainId_quiet F.plain_set_new _, codeAny_builtin F.entry_set_new ?_⟩))
  rw [Around.under_plainId F.plain_set_new _]
  unfold Builtin.«set.__new__» Builtin.Frozenset.newClass
  have k := sub_set_self
  obtain ⟨h0, g0, d0, t0, o0⟩ := s
  dsimp only
  wp_walk
  refine wpAny_askSetting (wpAny_pure ?_)
  simp only [newObj]
  exact wpAny_bind (wpAny_alloc (wpAny_pure (wpAny_pure h)))
/-- what is walked: a list, a tuple -/
structure Seq1 (T : String) : Prop where
  s1 : isSubtype (.type T) (.type "set") = pure false
  s2 : isSubtype (.type T) (.type "frozenset") = pure false
  ne : (Value.type T == Value.type "dict") = false
theorem seq_l : Seq1 "list" := ⟨F.sub_list_set, F.sub_list_frozenset, by decide⟩
theorem seq_t : Seq1 "tuple" := ⟨by rw [isSubtype_type]; kernel_rfl, by rw [isSubtype_type]; kernel_rfl, by decide⟩
/-- set(x), x of the class T, walked by St, the values keys -/
theorem call_set1 {T : String} (C : Seq1 T) {l : Addr} {ol : Obj} {n : Nat} {Pv : Nat → Value → Prop} (val : Nat → κ) {Q : Value → Shared → Prop} (hl : s.heap.get? l = some ol) (hc : ol.cls = .type T) (low : n + 1 < scanBound) (hval : ∀ i v, Pv i v → knd.is (val i) v = true ∧ v.scannable = true)
    (hit : ∀ (A' : Around) (s1 : Shared) (E' : Value → Shared → Prop) (Q' : Value → Shared → Prop), s1.heap.get? l = some ol → (∀ (I : Addr) (h' : Heap), I = s1.heap.objs.size → (∀ b o, s1.heap.get? b = some o → h'.get? b = some o) →
        (∀ A2 : Around, A2.handled = A.handled → ∃ St : Nat → Shared → Prop, WalksS P w A2 I [I, l] [I] (fun g g' => g' = g) n Pv St ∧ St 0 { s1 with heap := h' }) → Q' (.ref I) { s1 with heap := h' }) → wpAny (model P w) A' (pyIter (.ref l)) Q' E' s1)
    (h : ∀ (s' : Shared) (ks : List κ), SK knd s'.heap s.heap.objs.size ks → (∀ x, x ∈ ks ↔ ∃ j, j < n ∧ val j = x) → ks.length ≤ n → (∀ b o, s.heap.get? b = some o → s'.heap.get? b = some o) → s'.gens = s.gens → s'.drawn = s.drawn → s'.os = s.os → Q (.ref s.heap.objs.size) s') :
    wpAny (model P w) A (call (.type "set") [.ref l]) Q E s := by
  obtain ⟨c0, tl, hmro⟩ := F.called_set.mro
  have m1 := F.called_set.made
  have m2 := F.called_set.sub
  refine wpAny_call (codeAny_of_tree ?_)
  show wpAny _ _ (callAny (.type "set") _) _ _ _
  refine wpAny_pure ⟨Code.quiet_builtin _ (by decide +kernel), codeAny_builtin F.entry_type_call ?_⟩
  rw [Around.under_plain (weight_type_call_type "set" [.ref l] []) rfl]
  have m3 := F.called_set.notType
  have m4 := F.called_set.canCreate
  have m5 := F.typeCall_set_1 (.ref l)
  repeat (any_goals (first | assumption | wp_step))
  refine codeAny_mono (set_new1 (.ref l) (E := E) (Q := fun obj s1 => obj = .ref s.heap.objs.size ∧ s1 = { s with heap := s.heap.push (fSet w) }) ⟨rfl, rfl⟩) fun r s1 hr => ?_
  cases r with
  | error e => exact hr
  | ok fl =>
    cases fl with
    | ret obj =>
      obtain ⟨rfl, rfl⟩ := hr
      have e0 : (s.heap.push (fSet w)).get? s.heap.objs.size = some (fSet w) := Heap.get?_push_size _ rfl
      have hT : Shared.TypeIs { s with heap := s.heap.push (fSet w) } (.ref s.heap.objs.size) "set" := ⟨_, e0, rfl⟩
      have m6 := F.called_set.init.lookup
      have m7 := F.called_set.init.bind (.ref s.heap.objs.size)
      repeat (any_goals (first | assumption | wp_step))
      refine codeAny_mono (codeAny_call_builtin (R := wants (fun r s2 => r = .none ∧ ∃ ks, SK knd s2.heap s.heap.objs.size ks ∧ (∀ x, x ∈ ks ↔ ∃ j, j < n ∧ val j = x) ∧ ks.length ≤ n ∧ (∀ b o, s.heap.get? b = some o → s2.heap.get? b = some o) ∧ s2.gens = s.gens ∧ s2.drawn = s.drawn ∧ s2.os = s.os) E)
        F.called_set.init.plain F.entry_set_init (check_set_init_1 hT ?_)) fun r2 s2 hr2 => ?_
      · obtain ⟨oc, od, dt, sl⟩ := ol
        simp only at hc
        subst hc
        have e1 : (s.heap.push (fSet w)).get? l = some { cls := .type T, dict := od, data := dt, slots := sl } := Heap.get?_push_of_some _ hl
        have k1 := C.s1
        have k2 := C.s2
        have k3 := C.ne
        have hls : l < s.heap.objs.size := Heap.lt_size hl
        unfold Builtin.«set.__init__» noKeywords Builtin.Frozenset.updateFrom
        generalize hPI : pyIter = PI
        wp_walk
        subst hPI
        refine hit _ _ _ _ e1 fun I h' hI kp W => ?_
        refine wpAny_bind (wpAny_runValue ?_)
        obtain ⟨St, W1, st⟩ := W A.in1.in1.in1 rfl
        have eI : I = s.heap.objs.size + 1 := by rw [hI]; exact Heap.size_push ..
        refine sk_loop W1 (fun z => ?_) val hval low n 0 _ [] (by omega) st (sk_fresh (kp _ _ e0)) (fun x => by simp) (Nat.zero_le _) fun s' ks mv hS hm hlen => ?_
        · rcases List.mem_cons.mp z with z | z
          · exact absurd (z.trans eI) (Nat.ne_of_lt (Nat.lt_succ_self _))
          · exact absurd (List.mem_singleton.mp z) (Nat.ne_of_gt hls)
        · show wpAny _ _ _ _ _ _
          refine wpAny_pure ?_
          show wpAny _ _ (ret Value.none) _ _ _
          refine wpAny_pure ⟨rfl, ks, hS, hm, hlen, fun b o q => ?_, mv.gens, mv.drawn, mv.os⟩
          have hb := Heap.lt_size q
          refine mv.heap b o (fun z => ?_) (kp b o (Heap.get?_push_of_some _ q))
          rcases List.mem_cons.mp z with z | z
          · exact absurd z (Nat.ne_of_lt hb)
          · exact absurd ((List.mem_singleton.mp z).trans eI) (Nat.ne_of_lt (Nat.lt_succ_of_lt hb))
      · cases r2 with
        | error e => exact hr2
        | ok f2 =>
          cases f2 with
          | ret r =>
            obtain ⟨rfl, ks, q1, q2, q3, q4, q5, q6, q7⟩ := hr2
            repeat (any_goals (first | assumption | wp_step))
            exact h _ ks q1 q2 q3 q4 q5 q6 q7
          | _ => exact hr2.elim
    | _ => exact hr.elim
end
end DL
end
section
set_option maxRecDepth 100000
set_option maxHeartbeats 4000000
/-! The functional layer: sorted(..) of lists and of sets, len(set(..)). -/
namespace DL
open PySem PySem.Spec PyProof.Rows L2 PySem.W
theorem line_units {n : Nat} {A : Around} (h : A.units + 66 < cLine) (hn : n ≤ 64) : A.units + 2 + n < cLine := by omega
/-! ### sorted(xs) -/
/-- what sorted can order -/
def sortOk (xs : List D) : Bool := (xs.all fun x => xs.all fun y => alike x y) && ((xs.all fun x => match x with
  | .tuple (_ :: _) => true
  | _ => false) || (xs.all fun x => match x with
  | .tuple _ => false
  | .none => false
  | _ => true)) && SeqAt.shaped (.list xs)
def sortL (xs : List D) : List D := xs.mergeSort (dataLe false id)
def sortO : D → Option (List D)
  | .list xs => if sortOk xs = true then some (sortL xs) else none
  | _ => none
theorem depth_le {x : D} : ∀ {xs : List D}, x ∈ xs → x.depth ≤ PyData.depthAll xs
  | y :: ys, h => by
    rw [PyData.depthAll]
    rcases List.mem_cons.mp h with h | h
    · subst h; exact Nat.le_max_left _ _
    · exact Nat.le_trans (depth_le h) (Nat.le_max_right _ _)
theorem rows_each {X : Cx} {pins : List (Addr × Obj)} {σ : Sl} {H F : Hp} {s : Shared} (I : L2.Inv X pins σ H s) (sm : Same F H) : ∀ {vs : List V} {xs : List D} {us : List Value}, RpAll X.K F vs xs → Vals vs us → PyData.canLayAll0 xs = true →
    EachIs (fun v b => ∃ u, RelV u v ∧ Rp X.K F u b) us xs ∧ EachIs (fun v b => ∃ as, Reads s.heap v b as) us xs
  | _, _, _, .nil, .nil, _ => ⟨.nil, .nil⟩
  | _, _, _, .cons h r, .cons q t, hc => by
    obtain ⟨c1, c2⟩ : _ ∧ _ := by simpa [PyData.canLayAll0] using hc
    obtain ⟨k1, k2⟩ := rows_each I sm r t c2
    exact ⟨.cons ⟨_, q, h⟩ k1, .cons (Dp.reads I _ _ _ ((h.mono sm).dp c1) q) k2⟩
theorem each_rows {K : Frag} {F : Hp} : ∀ {us : List Value} {xs : List D}, EachIs (fun v b => ∃ u, RelV u v ∧ Rp K F u b) us xs → ∃ ws, Vals ws us ∧ RpAll K F ws xs
  | _, _, .nil => ⟨[], .nil, .nil⟩
  | _, _, .cons ⟨u, h1, h2⟩ t => by
    obtain ⟨ws, k1, k2⟩ := each_rows t
    exact ⟨u :: ws, .cons h1 k1, .cons h2 k2⟩
theorem map_id' (xs : List D) : xs.map (id : D → D) = xs := List.map_id xs
theorem cd_sorted {X : Cx} (hu : X.A.units + 66 < cLine) : CallR X (.builtin "sorted") (rN1 X.K sortO) := by
  intro pins s σ H vs us Q I rv ⟨F, v, x, z, hv, sm, rx, hz, q⟩
  subst hv
  unfold sortO at hz
  split at hz
  · split at hz
    · rename_i xs hk
      cases hz
      obtain ⟨p, ws, rfl, h1, r1⟩ := inv_list sm rx
      rw [Vals.ref1 rv]
      obtain ⟨its, ri, hl, hz⟩ := I.list (.of h1)
      unfold sortOk at hk
      simp only [Bool.and_eq_true] at hk
      obtain ⟨⟨k1, k2⟩, k3⟩ := hk
      have cl : PyData.canLayAll0 xs = true := by simpa [PyData.canLay0] using SeqAt.canLay_of_shaped k3
      have dp := SeqAt.depth_of_shaped k3
      obtain ⟨e1, e2⟩ := rows_each I sm r1 ri cl
      have hlen : its.length = xs.length := each_len e1
      have hL : xs.length ≤ sizeLine := by rw [← r1.length]; exact hz
      refine sorted_data (enc := id) (R := fun v b => ∃ u, RelV u v ∧ Rp X.K F u b) hl.isList e1 e2 ?_ ?_ hL ?_ fun out ho eo => ?_
      · rw [map_id']
        intro d hd d' hd'
        exact List.all_eq_true.mp (List.all_eq_true.mp k1 d hd) d' hd'
      · rw [map_id']
        rcases Bool.or_eq_true_iff.mp k2 with k | k
        · refine .inl fun d hd => ?_
          have c := List.all_eq_true.mp k d hd
          split at c
          · exact ⟨_, _, rfl⟩
          · cases c
        · refine .inr fun d hd => ?_
          have c := List.all_eq_true.mp k d hd
          split at c
          · cases c
          · cases c
          · rename_i n1 n2
            exact ⟨n2, fun ys => n1 ys⟩
      · intro b hb
        have : b.depth ≤ 64 := Nat.le_trans (depth_le hb) (by rw [PyData.depth] at dp; omega)
        exact line_units hu this
      · obtain ⟨ws', v1, v2⟩ := each_rows eo
        obtain ⟨ep, he⟩ := PyProof.Rows.sortedAll_at s.heap its out.toArray
        have hl' : ws'.length ≤ sizeLine := by rw [v1.length, ho]; exact hL
        have fr := I.hok.fresh (a := s.heap.objs.size + 1) (Nat.le_succ _)
        refine ⟨.ref _, upd H (s.heap.objs.size + 1) (.lst ws'), I.laid (t' := s.toks) (fun _ _ => PyProof.Rows.sortedAll_old) (Nat.le_succ _) ⟨hl', out, ep, v1, he⟩, rfl, ?_⟩
        exact q _ _ ws' fr (New.own sm fr _) upd_same v2
    · cases hz
  · cases hz
/-! ### sets of texts -/
def leS (a b : Str) : Bool := decide (a.cps.toList ≤ b.cps.toList)
def sortS (l : List Str) : List Str := l.mergeSort leS
/-- each once -/
def onceS : List Str → List Str
  | [] => []
  | x :: r => if x ∈ r then onceS r else x :: onceS r
theorem once_mem {x : Str} : ∀ {l : List Str}, x ∈ onceS l ↔ x ∈ l
  | [] => Iff.rfl
  | y :: r => by
    unfold onceS
    split
    · rename_i h
      rw [once_mem (l := r), List.mem_cons]
      exact ⟨.inr, fun z => z.elim (fun z => z ▸ h) id⟩
    · rw [List.mem_cons, List.mem_cons, once_mem (l := r)]
theorem once_nd : ∀ l : List Str, (onceS l).Nodup
  | [] => .nil
  | y :: r => by
    unfold onceS
    split
    · exact once_nd r
    · rename_i h
      exact List.nodup_cons.mpr ⟨fun z => h (once_mem.mp z), once_nd r⟩
theorem once_len : ∀ l : List Str, (onceS l).length ≤ l.length
  | [] => Nat.le_refl _
  | y :: r => by
    unfold onceS
    split
    · exact Nat.le_succ_of_le (once_len r)
    · exact Nat.succ_le_succ (once_len r)
theorem cps_inj {a b : Str} (h : a.cps.toList = b.cps.toList) : a = b := by
  cases a; cases b
  have : (⟨_⟩ : Str).cps = _ := Array.toList_inj.mp h
  simp_all
theorem leS_trans (a b c : Str) (h1 : leS a b = true) (h2 : leS b c = true) : leS a c = true := by
  unfold leS at *
  rw [decide_eq_true_eq] at *
  exact List.le_trans h1 h2
theorem leS_total (a b : Str) : (leS a b || leS b a) = true := by
  unfold leS
  rw [Bool.or_eq_true, decide_eq_true_eq, decide_eq_true_eq]
  exact List.le_total _ _
theorem leS_anti {a b : Str} (h1 : leS a b = true) (h2 : leS b a = true) : a = b := by
  unfold leS at *
  rw [decide_eq_true_eq] at *
  exact cps_inj (List.le_antisymm h1 h2)
/-- the members in order, from whatever order -/
theorem sort_same {k l : List Str} (h : k.Nodup) (e : ∀ x, x ∈ k ↔ x ∈ l) : sortS k = sortS (onceS l) := by
  have p : k.Perm (onceS l) := (List.perm_ext_iff_of_nodup h (once_nd l)).mpr fun x => (e x).trans once_mem.symm
  have p2 : (sortS k).Perm (sortS (onceS l)) := (List.mergeSort_perm k leS).trans (p.trans (List.mergeSort_perm _ leS).symm)
  exact p2.eq_of_pairwise (le := fun a b => leS a b = true) (fun a b _ _ => leS_anti) (List.pairwise_mergeSort leS_trans leS_total k) (List.pairwise_mergeSort leS_trans leS_total _)
section
variable {P : Program} {w : World} {A : Around} {E : Value → Shared → Prop} {s : Shared} {a : Addr} {ks : List Str}
theorem sk_vals {vs : List Value} {ks' : List Str} (h : EachIs (fun v k => (strKind P w).is k v = true) vs ks') : EachIs (fun v k => ∃ t, v = Value.str k t) vs ks' := by
  induction h with
  | nil => exact .nil
  | cons h _ ih => exact .cons (Value.isStrOf_shape h) ih
/-- sorted(s) of a set of texts -/
theorem sorted_sk {Q : Value → Shared → Prop} (R : SK (strKind P w) s.heap a ks) (hh : A.handled = none) (hu : A.units + 66 < cLine)
    (h : ∀ (s' : Shared) (p : Addr) (out : List Value) (c : Nat), (∀ b o, s.heap.get? b = some o → s'.heap.get? b = some o) → s'.gens = s.gens → s'.os = s.os → s.heap.objs.size ≤ p → s'.heap.get? p = some (seqObj "list" out.toArray c) → EachIs (fun v k => ∃ t, v = Value.str k t) out (sortS ks) → Q (.ref p) s') :
    wpAny (model P w) A (call (.builtin "sorted") [.ref a]) Q E s := by
  obtain ⟨o, es, ep, t, ho, hx, hd, r⟩ := R
  refine Calls.call_function_entry kind_sorted plain_sorted entry_sorted (args_sorted1 _) ?_
  unfold Builtin.«sorted»
  refine wpAny_bind (m := checkCount "sorted" 1 1 _) (wpAny_pure (wpAny_bind ?_))
  refine collect_set (A := A.in1) hh ⟨o, ho, hx.1, hd⟩ r.fit r.low r.ris r.led fun s1 vs k1 z1 g1 o1 pm => ?_
  have ent : EachIs (fun v k => (strKind P w).is k v = true) (es.toList.map (·.2)) ks := by
    have gen : ∀ {l : List (Int × Value)} {m : List Str}, EachIs (Ent (strKind P w)) l m → EachIs (fun v k => (strKind P w).is k v = true) (l.map (·.2)) m := fun {l m} q => by
      induction q with
      | nil => exact .nil
      | cons q _ ih => exact .cons q.1 ih
    exact gen r.ent
  obtain ⟨k', e1, p1⟩ := each_perm pm ent
  have e2 := sk_vals e1
  have hl1 : vs.length = ks.length := (each_len e1).trans p1.length_eq
  have hl2 : ks.length ≤ sizeLine := by
    have := fits_of_scanBound r.low
    rw [← each_len r.ent, Array.length_toList]; exact this
  refine wpAny_bind (wpAny_newList ?_ (by rw [hl1]; exact hl2))
  have oL : (s1.heap.push (seqObj "list" vs.toArray 0)).get? s1.heap.objs.size = some (seqObj "list" vs.toArray 0) := Heap.get?_push_size _ rfl
  have hnd : k'.Nodup := p1.nodup_iff.mpr r.nd
  refine wpAny_bind (wpAny_holding (list_sort_data (s := { s1 with heap := s1.heap.push (seqObj "list" vs.toArray 0) }) (enc := fun b : Str => PyData.str b) (R := fun v k => ∃ t, v = Value.str k t) oL e2 (e2.mono fun v k ⟨t, q⟩ => ⟨[], by subst q; exact .str _ _, by simp⟩) (AllAlike.of fun _ _ => rfl) (Sortable.others fun b => ⟨(by intro z; cases z), fun xs z => by cases z⟩) (by rw [p1.length_eq]; exact hl2) (fun b _ => ?_) fun out ho eo => ?_))
  · show A.in1.units + 1 + PyData.depth (.str b) < cLine
    have : A.in1.units ≤ A.units + 1 := by first | exact Nat.le_refl _ | simp [Around.in1]
    rw [PyData.depth]
    omega
  · rw [dataLe_str] at eo
    obtain ⟨c, hc⟩ := PyProof.Rows.sortedHeap_at (vs := vs) (out := out.toArray) oL
    refine wpAny_pure ⟨_, rfl, h _ s1.heap.objs.size out c (fun b u q => ?_) g1 o1 z1 hc ?_⟩
    · have q1 := k1 b u q
      have hlt := Heap.lt_size q1
      show (PyProof.Rows.sortedHeap (s1.heap.push (seqObj "list" vs.toArray 0)) s1.heap.objs.size vs out.toArray).get? b = some u
      rw [PyProof.Rows.sortedHeap_old (Nat.ne_of_lt hlt) (Nat.lt_of_lt_of_eq (Nat.lt_succ_of_lt hlt) (Heap.size_push ..).symm)]
      exact Heap.get?_push_of_some _ q1
    · have es : k'.mergeSort (fun a b => decide (a.cps.toList ≤ b.cps.toList)) = sortS ks := by
        show sortS k' = sortS ks
        rw [sort_same hnd (l := ks) fun x => p1.mem_iff, sort_same r.nd (l := ks) fun x => Iff.rfl]
      rw [← es]
      exact eo
end
end DL
end
section
set_option maxRecDepth 100000
set_option maxHeartbeats 4000000
/-! The functional layer: expressions that make sets of texts. -/
namespace DL
open PySem PySem.Spec PyProof.Rows L2 PySem.W
abbrev TK := Sl → Hp → (List Str → Hp → Prop) → Prop
/-- an expression that makes a set of texts -/
structure PSt (X : Cx) (e : Expr) (t : TK) : Prop where
  run : ∀ (pins : List (Addr × Obj)) (s : Shared) (σ : Sl) (H : Hp) (Q : List Str → Hp → Prop), L2.Inv X pins σ H s → t σ H Q →
    wpAny (model X.prog X.w) X.A (eval e X.env) (fun v s' => ∃ a ks H', v = Value.ref a ∧ SK (strKind X.prog X.w) s'.heap a ks ∧ L2.Inv X pins σ H' s' ∧ Q ks H') X.xe s
def PKx (K : Frag) (c : Ct) (pu : Bool) (F H : Hp) (σ : Sl) (Q : List Str → Hp → Prop) (l : List Str) (ρ' : Env) : Prop :=
  ∀ F' H' O' ks, EnvR K c F' H' σ ρ' O' → Same F F' → (pu = true → Same H H') → ks.Nodup → (∀ x, x ∈ ks ↔ x ∈ l) → Q ks H'
def tk (K : Frag) (c : Ct) (pu : Bool) (m : M (List Str)) : TK := fun σ H Q => ∃ F ρ O, EnvR K c F H σ ρ O ∧ (m ρ).post (PKx K c pu F H σ Q) (PX K c σ)
/-- the texts that set(..) takes -/
def textsD (x : D) : Option (List Str) := match x with
  | .list xs => (allStr xs).bind fun l => if l.length + 1 < scanBound then some l else none
  | .tuple xs => (allStr xs).bind fun l => if l.length + 1 < scanBound then some l else none
  | _ => none
def mSetOf (m : M D) : M (List Str) := fun ρ => (m ρ).bind fun x ρ1 => ofO (textsD x) ρ1
def mSortK (m : M (List Str)) : M (List D) := fun ρ => (m ρ).bind fun l ρ1 => .ok ((sortS (onceS l)).map .str) ρ1
def mLenK (m : M (List Str)) : M D := fun ρ => (m ρ).bind fun l ρ1 => .ok (.int ((onceS l).length : Nat)) ρ1
theorem vals_str : ∀ {l : List Str} {us : List Value}, Vals (l.map V.str) us → ∀ i (v : Value), us[i]? = some v → ∃ t, v = .str (l.getD i Str.empty) t
  | [], _, .nil, i, v, h => by simp at h
  | x :: l, _, .cons r t, 0, v, h => by
    obtain ⟨k, rfl⟩ := r
    simp at h
    exact ⟨k, h.symm⟩
  | x :: l, _, .cons r t, i + 1, v, h => by
    obtain ⟨k, e⟩ := vals_str t i v (by simpa using h)
    exact ⟨k, by rw [e]; rfl⟩
theorem mem_idx {l : List Str} {x : Str} : (∃ j, j < l.length ∧ l.getD j Str.empty = x) ↔ x ∈ l := by
  constructor
  · rintro ⟨j, hj, rfl⟩
    rw [List.getD_eq_getElem?_getD, List.getElem?_eq_getElem hj]
    exact List.getElem_mem hj
  · intro h
    obtain ⟨j, hj, e⟩ := List.getElem_of_mem h
    exact ⟨j, hj, by rw [List.getD_eq_getElem?_getD, List.getElem?_eq_getElem hj, e]; rfl⟩
theorem SK.nd {κ : Type} [DecidableEq κ] {P : Program} {w : World} {knd : KeyKind P w κ} {h : Heap} {a : Addr} {ks : List κ} (R : SK knd h a ks) : ks.Nodup := by
  obtain ⟨_, _, _, _, _, _, _, r⟩ := R
  exact r.nd
/-- set(x) of a list or a tuple of texts -/
theorem set_texts {X : Cx} {pins : List (Addr × Obj)} {σ : Sl} {H : Hp} {s : Shared} {p : Addr} {l : List Str} {Q : Value → Shared → Prop} {E : Value → Shared → Prop} (hc : X.calm = true) (I : L2.Inv X pins σ H s) (hp : SqL X.K H p (l.map V.str) ∨ SqT X.K H p (l.map V.str)) (low : l.length + 1 < scanBound)
    (h : ∀ a ks s', SK (strKind X.prog X.w) s'.heap a ks → (∀ x, x ∈ ks ↔ x ∈ l) → L2.Inv X pins σ H s' → Q (.ref a) s') : wpAny (model X.prog X.w) X.A (call (.type "set") [.ref p]) Q E s := by
  have hh := I.ok.hd hc
  have done : ∀ {us : List Value}, Vals (l.map V.str) us → us.toArray.size = l.length → ∀ (s' : Shared) (ks : List Str), SK (strKind X.prog X.w) s'.heap s.heap.objs.size ks → (∀ x, x ∈ ks ↔ ∃ j, j < l.length ∧ l.getD j Str.empty = x) → (∀ b o, s.heap.get? b = some o → s'.heap.get? b = some o) → s'.gens = s.gens → s'.drawn = s.drawn → s'.os = s.os → Q (.ref s.heap.objs.size) s' := fun r e s' ks q1 q2 q3 q4 q5 q6 => by
    have es : s' = { s with heap := s'.heap, toks := s'.toks } := by
      cases s'
      cases s
      cases q4; cases q5; cases q6
      rfl
    refine h _ ks s' q1 (fun x => (q2 x).trans mem_idx) ?_
    rw [es]
    exact I.kept q3
  rcases hp with hp | hp
  · obtain ⟨us, r, pl, _⟩ := I.list hp
    obtain ⟨o, n, e, oc, od, dt⟩ := pl
    have hl : us.toArray.size = l.length := by rw [List.size_toArray, ← r.length, List.length_map]
    refine call_set1 (knd := strKind X.prog X.w) seq_l (n := l.length) (Pv := fun i v => us.toArray[i]? = some v) (fun i => l.getD i Str.empty) e oc low (fun i v hv => ?_) (fun A' s1 E' Q' e1 k => ?_) fun s' ks q1 q2 _ q3 q4 q5 q6 => done r hl s' ks q1 q2 q3 q4 q5 q6
    · obtain ⟨t, rfl⟩ := vals_str r i v (by simpa using hv)
      exact ⟨strKind_is _ _ _ _, rfl⟩
    · have il : s1.heap.IsList p us.toArray := ⟨o, e1, oc, n, dt⟩
      have ne : p ≠ s1.heap.objs.size := Nat.ne_of_lt (Heap.lt_size e1)
      refine wpAny_pyIter_list il (k _ _ rfl (fun b u q => Heap.get?_push_of_some _ q) fun A2 h2 => ?_)
      have W := (Walks.list (prog := X.prog) (w := X.w) (A := A2) (h2.trans hh) s1.heap.objs.size p ne us.toArray).toS
      rw [hl] at W
      exact ⟨_, W, ⟨⟨_, Heap.get?_push_size _ rfl, rfl, rfl⟩, il.push _⟩⟩
  · obtain ⟨us, r, pl, _⟩ := I.tuple hp
    obtain ⟨o, e, oc, n, dt⟩ := pl
    have hl : us.toArray.size = l.length := by rw [List.size_toArray, ← r.length, List.length_map]
    refine call_set1 (knd := strKind X.prog X.w) seq_t (n := l.length) (Pv := fun i v => us.toArray[i]? = some v) (fun i => l.getD i Str.empty) e oc low (fun i v hv => ?_) (fun A' s1 E' Q' e1 k => ?_) fun s' ks q1 q2 _ q3 q4 q5 q6 => done r hl s' ks q1 q2 q3 q4 q5 q6
    · obtain ⟨t, rfl⟩ := vals_str r i v (by simpa using hv)
      exact ⟨strKind_is _ _ _ _, rfl⟩
    · have il : s1.heap.IsTuple p us.toArray := ⟨o, e1, oc, n, dt⟩
      have ne : p ≠ s1.heap.objs.size := Nat.ne_of_lt (Heap.lt_size e1)
      refine wpAny_pyIter_tuple il (k _ _ rfl (fun b u q => Heap.get?_push_of_some _ q) fun A2 h2 => ?_)
      have W := (Walks.tuple (prog := X.prog) (w := X.w) (A := A2) (h2.trans hh) s1.heap.objs.size p ne us.toArray).toS
      rw [hl] at W
      exact ⟨_, W, ⟨⟨_, Heap.get?_push_size _ rfl, rfl, rfl⟩, il.push _⟩⟩
section
variable {X : Cx} {c : Ct} {e : Expr} {pos p : Pos} {ka pu : Bool} {me : M D} {mk : M (List Str)}
theorem sk_set (hc : X.calm = true) (hm : X.mg "set" = none) (ha : PE X e (te X.K c ka pu me)) (hg : Gl X "set" := by rfl) (na : starEach [e] X.env = (false, eval e X.env) :: starEach [] X.env := by rfl) : PSt X (.Call (.Name "set" p) [e] [] pos) (tk X.K c pu (mSetOf me)) := ⟨fun pins s σ H Q I ⟨F, ρ, O, ev, h⟩ => by
  refine Call_ (ld_blt I hg hm boot_set ?_)
  refine PyProof.Rows.callWith_type1 (PyProof.Rows.args_cons (thn (ha.run pins s σ H (fun v H1 => ∃ F1 ρ1 O1 l p, EnvR X.K c F1 H1 σ ρ1 O1 ∧ Same F F1 ∧ (pu = true → Same H H1) ∧ v = .ref p ∧ (SqL X.K H1 p (l.map V.str) ∨ SqT X.K H1 p (l.map V.str)) ∧ l.length + 1 < scanBound ∧ PKx X.K c pu F H σ Q l ρ1) I ?_) fun v s1 ⟨x, H1, I1, r1, q1⟩ => PyProof.Rows.args_nil ?_) na) na rfl
  · refine te_step ev h fun y ρ1 F1 H1 O1 v h1 e1 s1 p1 v1 => ?_
    obtain ⟨l, hl, h2⟩ := post_ofO h1
    unfold textsD at hl
    split at hl
    · obtain ⟨l', hs, hl⟩ := Option.bind_eq_some_iff.mp hl
      split at hl
      · rename_i low
        cases hl
        obtain ⟨p, vs, rfl, k1, k2⟩ := inv_list e1.sub v1.up0
        have ev2 := allStr_ok hs k2
        subst ev2
        exact ⟨F1, ρ1, O1, l, p, e1, s1, p1, rfl, .inl (.of k1), low, h2⟩
      · cases hl
    · obtain ⟨l', hs, hl⟩ := Option.bind_eq_some_iff.mp hl
      split at hl
      · rename_i low
        cases hl
        obtain ⟨p, vs, rfl, k1, k2⟩ := inv_tup v1.up0
        have ev2 := allStr_ok hs k2
        subst ev2
        exact ⟨F1, ρ1, O1, l, p, e1, s1, p1, rfl, .inr (sq_t e1.sub k1), low, h2⟩
      · cases hl
    · cases hl
  · obtain ⟨F1, ρ1, O1, l, p, e1, s1', p1, rfl, k1, low, h2⟩ := q1
    cases r1
    exact set_texts hc I1 k1 low fun a ks s' hS hks I' => ⟨a, ks, H1, rfl, hS, I', h2 F1 H1 O1 ks e1 s1' p1 hS.nd hks⟩⟩
theorem n_sortK (hc : X.calm = true) (hu : X.A.units + 66 < cLine) (hm : X.mg "sorted" = none) (ha : PSt X e (tk X.K c pu mk)) (hg : Gl X "sorted" := by rfl) (na : starEach [e] X.env = (false, eval e X.env) :: starEach [] X.env := by rfl) : PE X (.Call (.Name "sorted" p) [e] [] pos) (tn X.K c pu (mSortK mk)) := ⟨fun pins s σ H Q I ⟨F, ρ, O, ev, h⟩ => by
  refine Call_ (ld_blt I hg hm boot_sorted ?_)
  refine PyProof.Rows.callWith_builtin1 (PyProof.Rows.args_cons (thn (ha.run pins s σ H (fun ks H1 => ∃ F1 ρ1 O1 l, EnvR X.K c F1 H1 σ ρ1 O1 ∧ Same F F1 ∧ (pu = true → Same H H1) ∧ ks.Nodup ∧ (∀ x, x ∈ ks ↔ x ∈ l) ∧ PN X.K c pu F H σ Q ((sortS (onceS l)).map .str) ρ1) I ?_) fun v s1 ⟨a, ks, H1, hv, hS, I1, q1⟩ => PyProof.Rows.args_nil ?_) na) na rfl
  · exact ⟨F, ρ, O, ev, Res.post_imp (Res.post_bind h) (fun l ρ1 h1 F1 H1 O1 ks e1 s1 p1 nd hk => ⟨F1, ρ1, O1, l, e1, s1, p1, nd, hk, h1⟩) fun _ _ h => h⟩
  · obtain ⟨F1, ρ1, O1, l, e1, s1', p1, nd, hk, h2⟩ := q1
    subst hv
    refine sorted_sk hS (I1.ok.hd hc) hu fun s' q out cc keep hg' ho' hq hget eo => ?_
    have hn : H1 q = none := I1.hok.fresh hq
    have vl : ∀ {us : List Value} {zs : List Str}, EachIs (fun v k => ∃ t, v = Value.str k t) us zs → Vals (zs.map V.str) us := fun {us zs} q => by
      induction q with
      | nil => exact .nil
      | cons q _ ih => exact .cons q ih
    have vs := vl eo
    have hz : ((sortS ks).map V.str).length ≤ sizeLine := by
      have hp := (List.mergeSort_perm ks leS).length_eq
      have : ks.length ≤ sizeLine := by
        obtain ⟨_, es, _, _, _, _, _, r⟩ := hS
        rw [← each_len r.ent, Array.length_toList]
        exact fits_of_scanBound r.low
      rw [List.length_map]
      show (ks.mergeSort leS).length ≤ _
      rw [hp]
      exact this
    have J : L2.Inv X pins σ (upd H1 q (.lst ((sortS ks).map V.str))) { s1 with heap := s'.heap, gens := s'.gens, drawn := s'.drawn, toks := s'.toks } :=
      I1.call (ch := []) (Un.laid keep hq hn) (I1.hok.laid keep hq ⟨hz, out, cc, vs, hget⟩) (by rw [hg']; exact I1.bare) (fun _ z => nomatch z)
    have es : s' = { s1 with heap := s'.heap, gens := s'.gens, drawn := s'.drawn, toks := s'.toks } := by
      cases s'
      cases s1
      cases ho'
      rfl
    rw [es]
    have n1 := New.own e1.sub hn (.lst ((sortS ks).map V.str))
    refine ⟨.ref q, _, J, rfl, h2 F1 _ O1 q _ (e1.new n1) s1' (fun z => (p1 z).trans n1.hH) upd_same ?_ (e1.apart hn)⟩
    rw [sort_same nd hk]
    generalize sortS (onceS l) = zs
    induction zs with
    | nil => exact .nil
    | cons z zs ih => exact .cons (.str z) ih⟩
theorem se_lenK (hm : X.mg "len" = none) (ha : PSt X e (tk X.K c pu mk)) (hg : Gl X "len" := by rfl) (na : starEach [e] X.env = (false, eval e X.env) :: starEach [] X.env := by rfl) : PE X (.Call (.Name "len" p) [e] [] pos) (te X.K c false pu (mLenK mk)) := ⟨fun pins s σ H Q I ⟨F, ρ, O, ev, h⟩ => by
  refine Call_ (ld_blt I hg hm boot_len ?_)
  refine PyProof.Rows.callWith_builtin1 (PyProof.Rows.args_cons (thn (ha.run pins s σ H (fun ks H1 => ∃ F1 ρ1 O1 l, EnvR X.K c F1 H1 σ ρ1 O1 ∧ Same F F1 ∧ (pu = true → Same H H1) ∧ ks.Nodup ∧ (∀ x, x ∈ ks ↔ x ∈ l) ∧ PV X.K c false pu F H σ Q (.int ((onceS l).length : Nat)) ρ1) I ?_) fun v s1 ⟨a, ks, H1, hv, hS, I1, q1⟩ => PyProof.Rows.args_nil ?_) na) na rfl
  · exact ⟨F, ρ, O, ev, Res.post_imp (Res.post_bind h) (fun l ρ1 h1 F1 H1 O1 ks e1 s1 p1 nd hk => ⟨F1, ρ1, O1, l, e1, s1, p1, nd, hk, h1⟩) fun _ _ h => h⟩
  · obtain ⟨F1, ρ1, O1, l, e1, s1', p1, nd, hk, h2⟩ := q1
    subst hv
    obtain ⟨o, es, ep, t, ho, hx, hd, r⟩ := hS
    have hn : es.size = ks.length := by rw [← Array.length_toList, each_len r.ent]
    have hl : ks.length = (onceS l).length := ((List.perm_ext_iff_of_nodup nd (once_nd l)).mpr fun x => (hk x).trans once_mem.symm).length_eq
    have hlow := r.low
    have hsb : scanBound = 4096 := rfl
    refine call_len_set ho hx hd r.fit (by omega) ⟨.int ((onceS l).length : Nat), H1, I1.tok _, ⟨_, by rw [hn, hl]⟩, h2 F1 H1 O1 _ e1 s1' p1 (.int _)⟩⟩
end
end DL
end
section
set_option maxRecDepth 100000
set_option maxHeartbeats 4000000
/-! The functional layer: calls with keywords, raise, try. -/
namespace DL
open PySem PySem.Spec PyProof.Rows L2
/-! ### f(k = v, ..) -/
theorem kb_of {K : Frag} {x qual : Str} {params : Arguments} {body : List Stmt} {scope : Scope} {kws : List (Str × V)} {f : Addr} {fd : FuncData} {ps ks : List Str} {n : Nat} {g : {α : Type} → List α → List α → List α} (F : FunD K x qual params body scope [] kws f fd)
    (hrel : ∀ {vs zs : List V} {us ws : List Value}, Vals vs us → Vals zs ws → Vals (g vs zs) (g us ws))
    (h : ∀ (kV doc pm : Value) (an : Option Addr) (cdv ct : Value) (us ws : List Value), us.length = n → ws.length = ks.length → bindArgs (PySem.W.fnOf x qual params body scope .none kV doc pm an cdv ct) ⟨us, ks.zip ws⟩ = pure (ps.zip (g us ws))) : KBn K fd ps n ks (fun us ws => g us ws) (fun vs zs => g vs zs) := by
  obtain ⟨oc, od, dV, kV, doc, pm, an, cdv, ct, osl, rfl, lk, hcd, hD, hK⟩ := F.ex
  rcases hD with ⟨_, rfl⟩ | ⟨e, _⟩
  · exact ⟨fun s us ws _ l1 l2 => .of_eq (h kV doc pm an cdv ct us ws l1 l2), fun r1 r2 => hrel r1 r2⟩
  · exact absurd rfl e
def gSnd {α : Type} (_ ws : List α) : List α := ws
theorem lone {us : List Value} (h : us.length = 1) : ∃ u, us = [u] := by
  match us, h with
  | [u], _ => exact ⟨u, rfl⟩
section
variable {X : Cx} {c : Ct} {k : Nat} {f : Addr} {fd : FuncData} {ps ks : List Str} {fn : Fn} {x : Str} {p pos kpos : Pos} {e : Expr} {es : List Expr} {kws : List Keyword} {ms : M (List AV)} {me : M D} {p1 : Bool} {nm : Option Str} {g : List Value → List Value → List Value}
theorem pk_imp {t t' : TA} (h : L2.PK X kws t) (q : ∀ σ H Q, t' σ H Q → t σ H Q) : L2.PK X kws t' := ⟨fun pos pins s σ H Q I z => h.run pos pins s σ H Q I (q σ H Q z)⟩
theorem sk_nil : L2.PK X [] (tg X.K c gNil) := pk_imp pk_nil fun σ H Q ⟨F, ρ, O, e, h⟩ => h F H O [] e (Same.refl _) .nil
theorem sk_d (ha : PE X e (te X.K c false p1 me)) (hr : L2.PK X kws (tg X.K c ms)) : L2.PK X (⟨nm, e, kpos⟩ :: kws) (tg X.K c (gD me ms)) :=
  pk_imp (pk_cons ha hr) fun σ H Q ⟨F, ρ, O, e, h⟩ => te_step e h fun x ρ1 F1 H1 O1 v h1 e1 s1 q1 v1 => tg_step e1 h1 fun xs ρ2 F2 H2 O2 vs h2 e2 s2 v2 => h2 F2 H2 O2 _ e2 (s1.trans s2) (.d (Rp.mono s2 v1) v2)
/-- f(k = v, ..), no place taken -/
theorem so_callK0 (G : FnOk X.prog X.w X.K X.mg X.base (L2.CX X.prog X.w) k f fd ps (spF X.K c.ca fn)) (hr : Room k X.A) (hm : X.mg x = some (.ref f)) (hk : PySem.W.keepIn X.K (.ref f) = true) (hb : KBn X.K fd ps 0 ks (fun us ws => gSnd us ws) (fun vs zs => gSnd vs zs)) (tk : Takes X c.W) (hl : ∀ ρ as ρ', ms ρ = .ok as ρ' → as.length = ks.length)
    (hkw : L2.PK X kws (tg X.K c ms)) (hg : Gl X x := by rfl) (hdb : (x == ("__debug__" : Str)) = false := by decide) (hall : (backToKw pos (keywordEach kws X.env)).all (·.1.isSome) = true := by rfl) (hks : (backToKw pos (keywordEach kws X.env)).filterMap (·.1) = ks := by rfl)
    (hpl : ((backTo pos (starEach [] X.env)).any (·.1) || (backToKw pos (keywordEach kws X.env)).any (·.1.isNone)) = false := by rfl) : PE X (.Call (.Name x p) [] kws pos) (to X.K c (mCall fn ms)) := ⟨fun pins s σ H Q I ⟨F, ρ, O, ev, h⟩ => by
  refine wpAny_Call_Name_kw (ld_glob I hg hm ?_ hdb)
  refine PySem.W.callWith_KW0 (h₀ := X.base) I.ok.mod.kin hk hall ?_ hpl
  refine thn (hkw.run pos pins s σ H (fun vs H1 => ∃ as ρ1 F1 O1, as.length = ks.length ∧ EnvR X.K c F1 H1 σ ρ1 O1 ∧ Same F F1 ∧ AvAll X.K F1 σ vs as ∧ (callEnd fn as (gather ρ1 as)).post (PO X.K c F H σ Q) (PX X.K c σ)) I ?_) fun ws s2 ⟨zs, H2, I2, rz, as, ρ1, F1, O1, la, e1, s1, av, h1⟩ => ⟨I2.kIn, ?_⟩
  · refine ⟨F, ρ, O, ev, ?_⟩
    have z := Res.post_bind h
    cases r : ms ρ with
    | ok as ρ1 => rw [r] at z; exact fun F1 H1 O1 vs e1 s1 av => ⟨as, ρ1, F1, O1, hl _ _ _ r, e1, s1, av, z⟩
    | ex ξ ρ1 => rw [r] at z; exact z
    | bad => rw [r] at z; exact z
  · rw [hks]
    have lz : zs.length = ks.length := by
      have gen : ∀ {vs : List V} {as : List AV}, AvAll X.K F1 σ vs as → vs.length = as.length := fun {vs as} q => by
        induction q with
        | nil => rfl
        | d _ _ ih => rw [List.length_cons, List.length_cons, ih]
        | o _ _ ih => rw [List.length_cons, List.length_cons, ih]
      exact (gen av).trans la
    have sp := call_in (Q := Q) e1 av h1 fun o ρ' F' H' O' A v hp e' s' ow ap => hp F' H' O' A v e' (s1.trans s') ow ap
    refine wpAny_call (codeAny_mono (G.run X.A X.stack s2 H2 ⟨[] ++ [], ks.zip ws⟩ (gSnd [] ws) zs Q (WE c.W σ) hr I2.env0 (hb.to s2 [] ws I2.kIn rfl (rz.length.symm.trans lz)) rz sp) fun r s' hq => ?_)
    cases r with
    | error e => exact passAt tk σ pins H2 s2 e s' I2 hq
    | ok fl =>
      cases fl with
      | ret u => exact I2.after hq
      | next => exact False.elim hq
      | brk => exact False.elim hq
      | cont => exact False.elim hq⟩
end
theorem gD_len {m : M D} {ms : M (List AV)} {n : Nat} (h : ∀ ρ as ρ', ms ρ = .ok as ρ' → as.length = n) : ∀ ρ as ρ', gD m ms ρ = .ok as ρ' → as.length = n + 1 := fun ρ as ρ' e => by
  unfold gD at e
  cases h1 : m ρ with
  | ok x ρ1 =>
    rw [h1] at e
    have e : ((ms ρ1).bind fun xs ρ2 => .ok (.d x :: xs) ρ2) = .ok as ρ' := e
    cases h2 : ms ρ1 with
    | ok ys ρ2 =>
      rw [h2] at e
      have e : Res.ok (.d x :: ys) ρ2 = .ok as ρ' := e
      cases e
      rw [List.length_cons, h _ _ _ h2]
    | ex _ _ => rw [h2] at e; cases e
    | bad => rw [h2] at e; cases e
  | ex _ _ => rw [h1] at e; cases e
  | bad => rw [h1] at e; cases e
theorem gNil_len : ∀ ρ as ρ', gNil ρ = .ok as ρ' → as.length = 0 := fun ρ as ρ' e => by cases e; rfl
/-! ### raise C('m') -/
def sRaise (x : Str) : M Fl := fun ρ => .ex ⟨.own x, []⟩ ρ
section
variable {X : Cx} {c : Ct} {C : Addr} {bmB : List Value} {B newId initId : String} {x y m : Str} {j : Nat} {p p2 pos pos' : Pos}
theorem sv_raise (hc : X.calm = true) (tk : Takes X c.W) (F : ExcBaseFacts B newId initId bmB) (q : PySem.W.excIn X.K C bmB newId = true) (gC : X.mg x = some (.ref C)) (kC : PySem.W.keepIn X.K (.ref C) = true) (r : Raises X (.ref C)) (hca : c.ca y = C) (hg : Gl X x := by rfl) (hdb : (x == ("__debug__" : Str)) = false := by decide) :
    PS X (.Raise (some (.Call (.Name x p) [.Constant (.str m) j p2] [] pos)) none pos') (ts X.K c (sRaise y)) := (ps_raise hc tk (pmk_own F q gC kC r hg hdb)).imp fun Dn σ H ⟨F, ρ, O, ev, h⟩ => by
  exact h σ F H O (.ref C) none ev ⟨by show _ = Value.ref (c.ca y); rw [hca], fun z => absurd rfl z⟩
end
/-! ### try: .. except A: .. except B: .. -/
def noEx {α : Type} : Res α → Res α
  | .ex _ _ => .bad
  | r => r
theorem post_noEx {α : Type} {r : Res α} {P : α → Env → Prop} {E E' : Exc → Env → Prop} (h : (noEx r).post P E) : r.post P E' := by
  cases r with
  | ok a ρ => exact h
  | ex ξ ρ => exact h.elim
  | bad => exact h.elim
/-- an except clause: the class named, who is one, the suite -/
structure Hd where
  cv : Value
  isa : ECls → Option Bool
  m : M Fl
def tryH : List ((ECls → Option Bool) × M Fl) → Exc → M Fl
  | [], ξ => fun ρ => .ex ξ ρ
  | h :: r, ξ => fun ρ => match h.1 ξ.c with
    | some true => noEx (h.2 ρ)
    | some false => tryH r ξ ρ
    | none => .bad
def Hd.p (h : Hd) : (ECls → Option Bool) × M Fl := (h.isa, h.m)
def sTry (b : M Fl) (hs : List ((ECls → Option Bool) × M Fl)) : M Fl := fun ρ => match b ρ with
  | .ok f ρ1 => .ok f ρ1
  | .ex ξ ρ1 => tryH hs ξ ρ1
  | .bad => .bad
inductive HsOk (X : Cx) (c : Ct) : List ExceptHandler → List Hd → Prop
  | nil : HsOk X c [] []
  | cons {x : Str} {h : Hd} {b₀ : Stmt} {suite : List Stmt} {np pos' : Pos} {hds : List ExceptHandler} {l : List Hd} (hc : Names X x h.cv) (hi : ∀ e b, h.isa e = some b → PySem.W.exmOne X.K (ecV c.ca e) h.cv = some b)
      (hsu : ∀ (a : Addr) (pn : List (Addr × Obj)), PSs (X.suite a pn) (b₀ :: suite) (ts X.K c.nox h.m)) (r : HsOk X c hds l) : HsOk X c (.ExceptHandler (some (.Name x np)) none (b₀ :: suite) pos' :: hds) (h :: l)
def hdTS (K : Frag) (c : Ct) (l : List Hd) : List (Value × (Addr → Value → Option Addr → TS)) := l.map fun h => (h.cv, fun _ _ _ => ts K c.nox h.m)
section
variable {X : Cx} {c : Ct} {body : List Stmt} {hds : List ExceptHandler} {h₀ : ExceptHandler} {l : List Hd} {b : M Fl} {pos : Pos}
theorem hs_ok : ∀ {hds : List ExceptHandler} {l : List Hd}, HsOk X c hds l → HdsOk X hds (hdTS X.K c l)
  | _, _, .nil => .nil
  | _, _, .cons hc hi hsu r => .cons hc (fun a oe cls d pn _ _ => hsu a _) (hs_ok r)
theorem hs_many : ∀ {hds : List ExceptHandler} {l : List Hd}, HsOk X c hds l → ∀ {Dn : Ends} {ξ : Exc} {ρ : Env} {σ : Sl} {F H : Hp} {O : List Addr} {cls : Value} {d : Option Addr}, EnvR X.K c F H σ ρ O → XR X.K c.ca F H cls d ξ → (tryH (l.map Hd.p) ξ ρ).post (PS' X.K c Dn) (PXs X.K c) →
    wMany X.K c.W Dn (hdTS X.K c l) cls d σ H
  | _, _, .nil, Dn, ξ, ρ, σ, F, H, O, cls, d, e, x, h => h σ F H O cls d e x
  | _, _, .cons (h := hd) hc hi hsu r, Dn, ξ, ρ, σ, F, H, O, cls, d, e, x, h => by
    have h : (match hd.isa ξ.c with
      | some true => noEx (hd.m ρ)
      | some false => tryH (List.map Hd.p _) ξ ρ
      | none => .bad).post (PS' X.K c Dn) (PXs X.K c) := h
    cases q : hd.isa ξ.c with
    | none => rw [q] at h; exact h.elim
    | some b =>
      rw [q] at h
      refine ⟨b, by rw [x.1]; exact hi _ _ q, fun hb a ha => ?_, fun hb => ?_⟩
      · subst hb
        exact ⟨F, ρ, O, e.nox, Res.post_imp (post_noEx (E' := fun _ _ => False) h) (fun f ρ1 h1 => by
          cases f with
          | nx => exact fun σ' F' H' O' e' => h1 σ' F' H' O' e'.unnox
          | bk => exact fun σ' F' H' O' e' => h1 σ' F' H' O' e'.unnox
          | ct => exact fun σ' F' H' O' e' => h1 σ' F' H' O' e'.unnox
          | rt o => exact fun σ' F' H' O' A v e' r' a' => h1 σ' F' H' O' A v e'.unnox r' ⟨a'.nd, a'.ow⟩) fun _ _ z => z.elim⟩
      · subst hb
        exact hs_many r e x h
theorem sv_try (hs : X.stack = X.env :: X.outer) (hf : X.env.frame = some X.env.locals) (tk : Takes X c.W)
    (hb : ∀ (W : WX) (pn : List (Addr × Obj)) (xe : Value → Shared → Prop), Takes (X.tr pn xe) W → PassesOwn (model X.prog X.w) X.A X.env xe → PSs (X.tr pn xe) body (ts X.K (c.wish W) b))
    (hh : HsOk X c (h₀ :: hds) l) {l2 : List ((ECls → Option Bool) × M Fl)} (hl : l.map Hd.p = l2 := by rfl) : PS X (.Try body (h₀ :: hds) [] [] pos) (ts X.K c (sTry b l2)) := (ps_try_many hs hf tk (tb := fun W => ts X.K (c.wish W) b) hb (hs_ok hh)).imp fun Dn σ H ⟨F, ρ, O, ev, h⟩ => by
  refine ⟨F, ρ, O, ev.wish, ?_⟩
  unfold sTry at h
  cases r : b ρ with
  | bad => rw [r] at h; exact h.elim
  | ok f ρ1 =>
    rw [r] at h
    cases f with
    | nx => exact fun σ' F' H' O' e' => h σ' F' H' O' e'.unwish
    | bk => exact fun σ' F' H' O' e' => h σ' F' H' O' e'.unwish
    | ct => exact fun σ' F' H' O' e' => h σ' F' H' O' e'.unwish
    | rt o => exact fun σ' F' H' O' A v e' r' a' => h σ' F' H' O' A v e'.unwish r' ⟨a'.nd, a'.ow⟩
  | ex ξ ρ1 =>
    rw [r] at h
    exact fun σ' F' H' O' cls d e' x => hs_many hh e'.unwish x (by rw [hl]; exact h)
end
end DL
end
section
set_option maxRecDepth 100000
set_option maxHeartbeats 4000000
/-! The functional layer: targets with a star at their end, dicts shown. -/
namespace DL
open PySem PySem.Spec PyProof.Rows L2
/-! ### a walk from its k-th item on -/
theorem walks_from {prog : Program} {w : World} {A : Around} {I : Addr} {fp wr : List Addr} {G : Array GenState → Array GenState → Prop} {n k : Nat} {Pv : Nat → Value → Prop} {St : Nat → Shared → Prop} (W : WalksS prog w A I fp wr G (k + n) Pv St) :
    WalksS prog w A I fp wr G n (fun i => Pv (k + i)) (fun i => St (k + i)) where
  sub := W.sub
  grefl := W.grefl
  gtrans := W.gtrans
  frame := fun i => W.frame (k + i)
  item := fun i s Q E hi => W.item (k + i) s Q E (by omega)
  done := W.done
  self := fun i => W.self (k + i)
theorem draw_walk {P : Program} {w : World} {A : Around} {I : Addr} {fp wr : List Addr} {G : Array GenState → Array GenState → Prop} {n : Nat} {Pv : Nat → Value → Prop} {St : Nat → Shared → Prop} (W : WalksS P w A I fp wr G n Pv St) {E : Value → Shared → Prop} :
    ∀ (m j : Nat) (s : Shared) (Q : List Value → Shared → Prop), j + m ≤ n → St j s → (∀ vs s', vs.length = m → (∀ t v, vs[t]? = some v → Pv (j + t) v) → St (j + m) s' → Moved wr G s s' → Q vs s') → wpAny (model P w) A (draw (.ref I) m) Q E s
  | 0, j, s, Q, _, st, h => wpAny_pure (h [] s rfl (fun t v z => by simp at z) st (Moved.refl W.grefl))
  | m + 1, j, s, Q, hj, st, h => by
    show wpAny _ _ (pyNext (.ref I) >>= _) Q E s
    refine wpAny_bind (W.item j s _ _ (by omega) st fun v s1 hv st1 mv => ?_)
    refine wpAny_bind (wpAny_holding (draw_walk W m (j + 1) s1 _ (by omega) st1 fun vs s2 hl hp st2 mv2 => wpAny_pure ?_))
    have e : j + 1 + m = j + (m + 1) := by omega
    rw [e] at st2
    refine h (v :: vs) s2 (by rw [List.length_cons, hl]) (fun t u z => ?_) st2 (Moved.trans W.gtrans mv mv2)
    cases t with
    | zero => simp at z; subst z; exact hv
    | succ t =>
      have := hp t u (by simpa using z)
      rw [show j + (t + 1) = j + 1 + t by omega]
      exact this
theorem items_drop {items : List Value} {acc : Array Value} {k n : Nat} (hn : k + n = items.length) (h : ItemsOf (fun i v => items[k + i]? = some v) acc n) : acc.toList = items.drop k := by
  refine List.ext_getElem? fun i => ?_
  rw [List.getElem?_drop]
  by_cases hi : i < n
  · have hs : i < acc.size := by rw [h.1]; exact hi
    have q := h.2 i acc[i] (Array.getElem?_eq_getElem hs)
    rw [q, Array.getElem?_toList, Array.getElem?_eq_getElem hs]
  · rw [List.getElem?_eq_none (by rw [Array.length_toList, h.1]; omega), List.getElem?_eq_none (by omega)]
theorem take_of {items vs : List Value} {k : Nat} (hl : vs.length = k) (hk : k ≤ items.length) (h : ∀ t v, vs[t]? = some v → items[0 + t]? = some v) : vs = items.take k := by
  refine List.ext_getElem? fun i => ?_
  by_cases hi : i < k
  · have q := h i _ (List.getElem?_eq_getElem (by omega))
    rw [Nat.zero_add] at q
    rw [List.getElem?_take_of_lt hi, q, List.getElem?_eq_getElem]
  · rw [List.getElem?_eq_none (by omega), List.getElem?_eq_none (by rw [List.length_take]; omega)]
/-- (a, .., *b) = a tuple of k things at least -/
def gStar (K : Frag) (k : Nat) (t : TGs) : TG := fun v σ H Q => ∃ a xs, v = .ref a ∧ (SqT K H a xs ∨ SqL K H a xs) ∧ k ≤ xs.length ∧ ∀ p, H p = none → t (xs.take k ++ [.ref p]) σ (upd H p (.lst (xs.drop k))) Q
theorem unpack_star {P : Program} {w : World} {A : Around} {E : Value → Shared → Prop} {s : Shared} {t : Addr} {T : String} {its : List Value} {k : Nat} {Q : List Value → Shared → Prop} {St : Nat → Shared → Prop} (hk : k ≤ its.length) (hz : its.length ≤ sizeLine)
    (hT : T = "list_iterator" ∨ T = "tuple_iterator") (no : ∀ {Q' : Bool → Shared → Prop}, Q' false s → wpAny (model P w) A (notIterableAtAll (.ref t)) Q' E s)
    (it : ∀ {Q' : Value → Shared → Prop}, (∀ h', (∀ b o, s.heap.get? b = some o → h'.get? b = some o) → St 0 { s with heap := h' } → s.heap.objs.size < h'.objs.size → Q' (.ref s.heap.objs.size) { s with heap := h' }) → wpAny (model P w) A (pyIter (.ref t)) Q' E s)
    (W : ∀ A' : Around, A'.handled = A.handled → WalksS P w A' s.heap.objs.size [s.heap.objs.size, t] [s.heap.objs.size] (fun g g' => g' = g) its.length (fun i v => its[i]? = some v) St) (ht : t < s.heap.objs.size) (hty : ∀ i s', St i s' → s'.TypeIs (.ref s.heap.objs.size) T)
    (h : ∀ (s' : Shared), (∀ b o, s.heap.get? b = some o → s'.heap.get? b = some o) → s'.gens = s.gens → s'.drawn = s.drawn → s'.os = s.os → Q (its.take k ++ [.ref s'.heap.objs.size]) { s' with heap := s'.heap.push (seqObj "list" (its.drop k).toArray 0) }) :
    wpAny (model P w) A (unpackItems (.ref t) (k + 1) (some k)) Q E s := by
  unfold unpackItems
  refine wpAny_bind (no ?_)
  simp only [Bool.false_eq_true, if_false]
  refine wpAny_bind (wpAny_holding (it fun h' kp st hs => ?_))
  have W0 := W A rfl
  refine wpAny_bind (wpAny_holding (draw_walk W0 k 0 _ _ (by omega) st fun vs s1 hl hv st1 m1 => ?_))
  rw [if_neg (by omega)]
  have eN : its.length = k + (its.length - k) := by omega
  have W1 : WalksS P w A.in1 s.heap.objs.size [s.heap.objs.size, t] [s.heap.objs.size] (fun g g' => g' = g) (k + (its.length - k)) (fun i v => its[i]? = some v) St := by
    rw [← eN]; exact W A.in1 rfl
  have W2 := walks_from W1
  have st2 : St (k + 0) s1 := by
    have e : 0 + k = k + 0 := by omega
    rw [← e]; exact st1
  have sz : s.heap.objs.size < s1.heap.objs.size := by
    obtain ⟨o, ho, _⟩ := hty _ _ st1
    exact Heap.lt_size ho
  refine wpAny_bind (wpAny_holding (wpAny_collect_iter (T := T) (by rcases hT with e | e; exact .inr (.inr (.inl e)); exact .inr (.inr (.inr e))) W2 (fun i s' q => hty _ s' q) st2 (fun b hb => ?_) (by simp) (fun s2 acc m2 hacc => ?_) (by omega)))
  · rcases List.mem_cons.mp hb with e | hb
    · rw [e]; exact sz
    · rw [List.mem_singleton] at hb
      rw [hb]; exact Nat.lt_trans ht sz
  · have er := items_drop (by omega) hacc
    have ev := take_of hl hk hv
    have a0 : k + 1 - 1 - k = 0 := by omega
    simp only [a0]
    rw [if_neg (Nat.not_lt_zero _)]
    simp only [Nat.sub_zero, List.take_length, List.drop_length, List.append_nil]
    refine wpAny_bind (wpAny_newList ?_ (by rw [er, List.length_drop]; omega))
    refine wpAny_pure ?_
    rw [ev, er]
    have k2 : ∀ b o, s.heap.get? b = some o → s2.heap.get? b = some o := fun b o q => by
      have hb : b ∉ [s.heap.objs.size] := fun z => by
        rw [List.mem_singleton] at z
        exact absurd z (Nat.ne_of_lt (Heap.lt_size q))
      exact m2.heap b o hb (m1.heap b o hb (kp b o q))
    exact h s2 k2 ((m2.gens).trans (m1.gens)) (m2.drawn.trans m1.drawn) (m2.os.trans m1.os)
section
variable {X : Cx} {c : Ct} {es es' : List Expr} {pos : Pos} {t : TGs}
theorem pg_star {k kk : Nat} (hc : X.calm = true) (h : PGs X es' t) (hn : (assignEach es X.env).length = k + 1 := by rfl) (hst : (assignEach es X.env).findIdx? (·.1) = some k := by rfl) (he : (assignEach es X.env).map (·.2) = (assignEach es' X.env).map (·.2) := by rfl) : PG X (.Tuple es kk pos) (gStar X.K k t) := ⟨fun pins s σ H v u Q I r ⟨a, xs, e1, hq, hk, hw⟩ => by
  subst e1
  cases r
  have hh := I.ok.hd hc
  show wpAny _ _ (do standAt pos; unpack (.ref a) (assignEach es X.env)) _ _ _
  refine wpAny_bind (wpAny_standAt ?_)
  unfold unpack
  rw [hn, hst]
  refine wpAny_bind (wpAny_holding ?_)
  have fin : ∀ {its : List Value}, Vals xs its → xs.length ≤ sizeLine → ∀ s2 : Shared, (∀ b o, s.heap.get? b = some o → s2.heap.get? b = some o) → s2.gens = s.gens → s2.drawn = s.drawn → s2.os = s.os →
      wpAny (model X.prog X.w) X.A (assignInOrder ((assignEach es X.env).map (·.2)) (its.take k ++ [.ref s2.heap.objs.size])) (fun _ s' => ∃ σ' H', L2.Inv X pins σ' H' s' ∧ Q σ' H') X.xe { s2 with heap := s2.heap.push (seqObj "list" (its.drop k).toArray 0) } := fun {its} rv hz s2 k2 g2 d2 o2 => by
    have es2 : s2 = { s with heap := s2.heap, toks := s2.toks } := by
      cases s2
      cases s
      cases g2; cases d2; cases o2
      rfl
    have I2 : L2.Inv X pins σ H s2 := by rw [es2]; exact I.kept k2
    have hn2 := I2.hok.fresh (a := s2.heap.objs.size) (Nat.le_refl _)
    have I3 : L2.Inv X pins σ (upd H s2.heap.objs.size (.lst (xs.drop k))) { s2 with heap := s2.heap.push (seqObj "list" (its.drop k).toArray 0) } :=
      I2.laid (t' := s2.toks) (fun b o q => Heap.get?_push_of_some _ q) (Nat.le_refl _) ⟨by rw [List.length_drop]; omega, its.drop k, 0, rv.drop k, Heap.get?_push_size _ rfl⟩
    rw [he]
    exact h.run pins _ σ _ _ _ Q I3 ((rv.take k).append (.cons (show RelV (V.ref s2.heap.objs.size) (Value.ref s2.heap.objs.size) from rfl) .nil)) (hw _ hn2)
  rcases hq with hq | hq
  · obtain ⟨its, rv, pl, hz⟩ := I.tuple hq
    have il : s.heap.IsTuple a its.toArray := pl
    obtain ⟨o, ho, _⟩ := id pl
    have lt := Heap.lt_size ho
    have il2 := rv.length
    refine unpack_star (T := "tuple_iterator") (its := its) (St := fun i s' => s'.heap.IsTupleIter s.heap.objs.size a i ∧ s'.heap.IsTuple a its.toArray) (by omega) (by omega) (.inr rfl) (fun q => ?_) (fun q => ?_) (fun A' hA => ?_) lt (fun i s' q => ?_) (fun s2 k2 g2 d2 o2 => fin rv hz s2 k2 g2 d2 o2)
    · unfold notIterableAtAll
      exact wpAny_bind (wpAny_specialOf il.typeIs F.slot_tuple_iter.lookup (wpAny_pure q))
    · exact wpAny_pyIter_tuple il (q _ (fun b u z => Heap.get?_push_of_some _ z) ⟨⟨_, Heap.get?_push_size _ rfl, rfl, rfl⟩, il.push _⟩ (by rw [Heap.size_push]; exact Nat.lt_succ_self _))
    · have W := (Walks.tuple (prog := X.prog) (w := X.w) (A := A') (hA.trans hh) s.heap.objs.size a (Nat.ne_of_lt lt) its.toArray).toS
      simpa using W
    · obtain ⟨⟨o, e, q, _⟩, _⟩ := q
      exact ⟨o, e, q⟩
  · obtain ⟨its, rv, pl, hz⟩ := I.list hq
    have il : s.heap.IsList a its.toArray := pl.isList
    have lt := pl.lt
    have il2 := rv.length
    refine unpack_star (T := "list_iterator") (its := its) (St := fun i s' => s'.heap.IsListIter s.heap.objs.size a i ∧ s'.heap.IsList a its.toArray) (by omega) (by omega) (.inl rfl) (fun q => ?_) (fun q => ?_) (fun A' hA => ?_) lt (fun i s' q => ?_) (fun s2 k2 g2 d2 o2 => fin rv hz s2 k2 g2 d2 o2)
    · unfold notIterableAtAll
      exact wpAny_bind (wpAny_specialOf il.typeIs slot_list_iter.lookup (wpAny_pure q))
    · exact wpAny_pyIter_list il (q _ (fun b u z => Heap.get?_push_of_some _ z) ⟨⟨_, Heap.get?_push_size _ rfl, rfl, rfl⟩, il.push _⟩ (by rw [Heap.size_push]; exact Nat.lt_succ_self _))
    · have W := (Walks.list (prog := X.prog) (w := X.w) (A := A') (hA.trans hh) s.heap.objs.size a (Nat.ne_of_lt lt) its.toArray).toS
      simpa using W
    · obtain ⟨⟨o, e, q, _⟩, _⟩ := q
      exact ⟨o, e, q⟩⟩
/-- by data: the rest is a frozen list -/
def tStar (k : Nat) (u : List D → Env → Option Env) : D → Env → Option Env := fun x ρ => match x with
  | .tuple xs => if k ≤ xs.length then u (xs.take k ++ [.list (xs.drop k)]) ρ else none
  | .list xs => if k ≤ xs.length then u (xs.take k ++ [.list (xs.drop k)]) ρ else none
  | _ => none
theorem tg_star {u : List D → Env → Option Env} {k kk : Nat} (hc : X.calm = true) (h : PGs X es' (tgsD X.K c u)) (hn : (assignEach es X.env).length = k + 1 := by rfl) (hst : (assignEach es X.env).findIdx? (·.1) = some k := by rfl) (he : (assignEach es X.env).map (·.2) = (assignEach es' X.env).map (·.2) := by rfl) :
    PG X (.Tuple es kk pos) (tgD X.K c (tStar k u)) := ⟨fun pins s σ H v w Q I r ⟨F, ρ, O, d, ρ', ev, rv, ht, q⟩ => by
  refine (pg_star (pos := pos) (kk := kk) hc h hn hst he).run pins s σ H v w Q I r ?_
  have go : ∀ {a : Addr} {vs : List V} {xs : List D}, RpAll X.K F vs xs → u (xs.take k ++ [.list (xs.drop k)]) ρ = some ρ' → ∀ p, H p = none → tgsD X.K c u (vs.take k ++ [.ref p]) σ (upd H p (.lst (vs.drop k))) Q := fun {a vs xs} rr hu p hp => by
    have n := New.one ev.sub hp (.lst (vs.drop k))
    exact ⟨_, ρ, O, _, ρ', ev.new n, ((rr.mono n.fF).take k).append (.one (.lst upd_same ((rr.mono n.fF).drop k))), hu, fun σ2 F2 H2 O2 n2 e2 l2 => q σ2 F2 H2 O2 (n.trans n2) e2 l2⟩
  unfold tStar at ht
  split at ht
  · split at ht
    · rename_i hl
      cases rv with
      | tup ha rr => exact ⟨_, _, rfl, .inl (sq_t ev.sub ha), by rw [rr.length]; exact hl, go (a := 0) rr ht⟩
    · cases ht
  · split at ht
    · rename_i hl
      cases rv with
      | lst ha rr => exact ⟨_, _, rfl, .inr (sq_l ev.sub (.of ha)), by rw [rr.length]; exact hl, go (a := 0) rr ht⟩
    · cases ht
  · cases ht⟩
end
end DL
end
section
set_option maxRecDepth 100000
set_option maxHeartbeats 4000000
/-! The functional layer: dicts. -/
namespace DL
open PySem PySem.Spec PyProof.Rows L2
/-- a dict's pairs by data -/
abbrev KD := List (Key × D)
def dK (kds : KD) : D := .dict (kds.map fun p => (kD p.1, p.2))
def keyOf : D → Option Key
  | .int i => some (.inl i)
  | .str x => some (.inr x)
  | _ => none
/-- kvs stands for kds -/
inductive RpK (K : Frag) (F : Hp) : List (Key × V) → KD → Prop
  | nil : RpK K F [] []
  | cons {k : Key} {v : V} {x : D} {r : List (Key × V)} {s : KD} : Rp K F v x → RpK K F r s → RpK K F ((k, v) :: r) ((k, x) :: s)
section
variable {K : Frag} {F F' H H' : Hp}
theorem RpK.mono (e : Same F F') : ∀ {kvs : List (Key × V)} {kds : KD}, RpK K F kvs kds → RpK K F' kvs kds
  | _, _, .nil => .nil
  | _, _, .cons h r => .cons (h.mono e) (r.mono e)
theorem RpK.all : ∀ {kvs : List (Key × V)} {kds : KD}, RpK K F kvs kds → RpAll K F (kvs.map (·.2)) (kds.map (·.2))
  | _, _, .nil => .nil
  | _, _, .cons h r => .cons h r.all
theorem RpK.keys : ∀ {kvs : List (Key × V)} {kds : KD}, RpK K F kvs kds → kvs.map (·.1) = kds.map (·.1)
  | _, _, .nil => rfl
  | _, _, .cons h r => by rw [List.map_cons, List.map_cons, r.keys]
theorem RpK.of : ∀ {kvs : List (Key × V)} {ds : List D}, RpAll K F (kvs.map (·.2)) ds → RpK K F kvs ((kvs.map (·.1)).zip ds)
  | [], [], .nil => .nil
  | (k, v) :: r, d :: ds, .cons h q => .cons h (RpK.of q)
theorem RpK.len : ∀ {kvs : List (Key × V)} {kds : KD}, RpK K F kvs kds → kvs.length = kds.length
  | _, _, .nil => rfl
  | _, _, .cons h r => by rw [List.length_cons, List.length_cons, r.len]
theorem zip_kD : ∀ {ks : List Key} {ds : List D}, ((ks.map kD).zip ds) = (ks.zip ds).map fun p => (kD p.1, p.2)
  | [], _ => by simp
  | _ :: _, [] => by simp
  | k :: ks, d :: ds => by rw [List.map_cons, List.zip_cons_cons, List.zip_cons_cons, List.map_cons, zip_kD]
theorem kD_inj {a b : Key} (h : kD a = kD b) : a = b := by
  cases a <;> cases b <;> cases h <;> rfl
theorem map_kD_inj {a b : KD} (h : (a.map fun p => (kD p.1, p.2)) = b.map fun p => (kD p.1, p.2)) : a = b := by
  induction a generalizing b with
  | nil =>
    cases b with
    | nil => rfl
    | cons _ _ => simp at h
  | cons x a ih =>
    cases b with
    | nil => simp at h
    | cons y b =>
      simp at h
      obtain ⟨⟨h1, h2⟩, h3⟩ := h
      rw [ih (by simpa using h3)]
      cases x; cases y
      simp at h1 h2
      rw [kD_inj h1, h2]
/-- a dict datum by its pairs -/
theorem dict_rp {a : Addr} {ob : Obj} {kvs : List (Key × V)} {kds : KD} (h : F a = some (.frz ob (.dK kvs))) (r : RpK K F kvs kds) : Rp K F (.ref a) (dK kds) := by
  have z := Rp.dcK h r.all
  have e : ((kvs.map fun p => kD p.1).zip (kds.map (·.2))) = kds.map fun p => (kD p.1, p.2) := by
    have e1 : (kvs.map fun p => kD p.1) = (kds.map (·.1)).map kD := by rw [← r.keys, List.map_map]; rfl
    rw [e1, zip_kD]
    congr 1
    clear z r h e1
    induction kds with
    | nil => rfl
    | cons x l ih => rw [List.map_cons, List.map_cons, List.zip_cons_cons, ih]
  rw [e] at z
  exact z
theorem owR_dict {ca : Str → Addr} {a : Addr} {kvs : List (Key × V)} {kds : KD} (h : H a = some (.dK kvs)) (r : RpK K F kvs kds) : OwR K ca F H (.ref a) (.dct (kds.map fun p => (kD p.1, p.2))) [a] := by
  have z : OwR K ca F H (.ref a) _ [a] := .dcK h r.all
  have e : ((kvs.map fun p => kD p.1).zip (kds.map (·.2))) = kds.map fun p => (kD p.1, p.2) := by
    have e1 : (kvs.map fun p => kD p.1) = (kds.map (·.1)).map kD := by rw [← r.keys, List.map_map]; rfl
    rw [e1, zip_kD]
    congr 1
    clear z r h e1
    induction kds with
    | nil => rfl
    | cons x l ih => rw [List.map_cons, List.map_cons, List.zip_cons_cons, ih]
  rw [e] at z
  exact z
end
/-! ### put, merged -/
def putKD (kds : KD) (k : Key) (x : D) : KD := if (kds.any fun p => decide (p.1 = k)) = true then kds.map (fun p => if p.1 = k then (p.1, x) else p) else kds ++ [(k, x)]
def mergeKD (kds more : KD) : KD := more.foldl (fun acc p => putKD acc p.1 p.2) kds
section
variable {K : Frag} {F : Hp}
theorem RpK.any {k : Key} : ∀ {kvs : List (Key × V)} {kds : KD}, RpK K F kvs kds → (kvs.any fun p => decide (p.1 = k)) = kds.any fun p => decide (p.1 = k)
  | _, _, .nil => rfl
  | _, _, .cons h r => by rw [List.any_cons, List.any_cons, r.any]
theorem RpK.repl {k : Key} {v : V} {x : D} (h : Rp K F v x) : ∀ {kvs : List (Key × V)} {kds : KD}, RpK K F kvs kds → RpK K F (kvs.map fun p => if p.1 = k then (p.1, v) else p) (kds.map fun p => if p.1 = k then (p.1, x) else p)
  | _, _, .nil => .nil
  | _, _, .cons (k := j) q r => by
    rw [List.map_cons, List.map_cons]
    by_cases e : j = k
    · rw [if_pos e, if_pos e]; exact .cons h (RpK.repl h r)
    · rw [if_neg e, if_neg e]; exact .cons q (RpK.repl h r)
theorem RpK.append : ∀ {kvs l : List (Key × V)} {kds m : KD}, RpK K F kvs kds → RpK K F l m → RpK K F (kvs ++ l) (kds ++ m)
  | _, _, _, _, .nil, s => s
  | _, _, _, _, .cons h r, s => .cons h (r.append s)
theorem RpK.put {k : Key} {v : V} {x : D} {kvs : List (Key × V)} {kds : KD} (r : RpK K F kvs kds) (h : Rp K F v x) : RpK K F (putK kvs k v) (putKD kds k x) := by
  unfold putK putKD
  rw [r.any]
  split
  · exact r.repl h
  · exact r.append (.cons h .nil)
theorem RpK.merge {more : List (Key × V)} {mds : KD} (q : RpK K F more mds) : ∀ {kvs : List (Key × V)} {kds : KD}, RpK K F kvs kds → RpK K F (mergeK kvs more) (mergeKD kds mds) := by
  induction q with
  | nil => intro kvs kds r; exact r
  | cons h _ ih => intro kvs kds r; exact ih (r.put h)
end
/-! ### a dict shown, frozen or not -/
def mNilP : M KD := fun ρ => .ok [] ρ
def mConsP (k v : M D) (r : M KD) : M KD := fun ρ => (k ρ).bind fun x ρ1 => (v ρ1).bind fun y ρ2 => match keyOf x with
  | some j => (r ρ2).bind fun l ρ3 => .ok ((j, y) :: l) ρ3
  | none => .bad
theorem keyOf_ok {K : Frag} {F : Hp} {v : V} {x : D} {k : Key} (h : keyOf x = some k) (r : Rp K F v x) : v = kV k := by
  unfold keyOf at h
  split at h
  · cases h; cases r; rfl
  · cases h; cases r; rfl
  · cases h
def PPx (K : Frag) (c : Ct) (F H : Hp) (σ : Sl) (Q : List (V × V) → Hp → Prop) (kds : KD) (ρ' : Env) : Prop :=
  ∀ F' H' O' kvs, EnvR K c F' H' σ ρ' O' → Same F F' → RpK K F' kvs kds → Q (kvs.map fun p => (kV p.1, p.2)) H'
/-- the pairs of a display by data -/
structure SP (X : Cx) (c : Ct) (pos : Pos) (keys : List (Option Expr)) (values : List Expr) (m : M KD) : Prop where
  trs : ∃ trs, PPs X pos keys values trs ∧ ∀ F0 H0 O0 σ0 σ H Q, (∃ F ρ O, EnvR X.K (c.at F0 H0 O0 σ0) F H σ ρ O ∧ (m ρ).post (PPx X.K (c.at F0 H0 O0 σ0) F H σ Q) (PX X.K (c.at F0 H0 O0 σ0) σ)) → tPairs trs σ H Q
  len : ∀ ρ l ρ', m ρ = .ok l ρ' → l.length = keys.length
section
variable {X : Cx} {c : Ct} {pos : Pos} {keys : List (Option Expr)} {values : List Expr} {m : M KD} {k v : Expr} {p1 p2 : Bool} {mk mv : M D}
theorem sp_nil : SP X c pos [] [] mNilP := ⟨⟨[], pps_nil, fun _ _ _ _ σ H Q ⟨F, ρ, O, e, h⟩ => h F H O [] e (Same.refl _) .nil⟩, fun ρ l ρ' h => by cases h; rfl⟩
def teA (K : Frag) (c : Ct) (pu : Bool) (m : M D) : TE := fun σ H Q => ∃ F0 H0 O0 σ0, te K (c.at F0 H0 O0 σ0) false pu m σ H Q
theorem pe_at {e : Expr} {pu : Bool} {me : M D} (h : ∀ F H O σ, PE X e (te X.K (c.at F H O σ) false pu me)) : PE X e (teA X.K c pu me) := ⟨fun pins s σ H Q I ⟨F0, H0, O0, σ0, q⟩ => (h F0 H0 O0 σ0).run pins s σ H Q I q⟩
theorem sp_cons (hk : ∀ F H O σ, PE X k (te X.K (c.at F H O σ) false p1 mk)) (hv : ∀ F H O σ, PE X v (te X.K (c.at F H O σ) false p2 mv)) (hr : SP X c pos keys values m) : SP X c pos (some k :: keys) (v :: values) (mConsP mk mv m) := by
  obtain ⟨⟨trs, q1, q2⟩, hl⟩ := hr
  refine ⟨⟨_, pps_cons (pe_at hk) (pe_at hv) q1, fun F0 H0 O0 σ0 σ H Q ⟨F, ρ, O, e, h⟩ => ?_⟩, fun ρ l ρ' h => ?_⟩
  · refine ⟨F0, H0, O0, σ0, te_step e h fun x ρ1 F1 H1 O1 a h1 e1 s1 p1 r1 => ⟨F0, H0, O0, σ0, te_step e1 h1 fun y ρ2 F2 H2 O2 b h2 e2 s2 p2 r2 => ?_⟩⟩
    cases kx : keyOf x with
    | none => rw [kx] at h2; exact h2.elim
    | some j =>
      rw [kx] at h2
      refine q2 F0 H0 O0 σ0 _ _ _ ⟨F2, ρ2, O2, e2, Res.post_imp (Res.post_bind h2) (fun l ρ3 h3 F3 H3 O3 kvs e3 s3 r3 => ?_) fun _ _ h => h⟩
      have z := h3 F3 H3 O3 ((j, b) :: kvs) e3 ((s1.trans s2).trans s3) (.cons (Rp.mono s3 r2) r3)
      rw [keyOf_ok kx r1]
      exact z
  · unfold mConsP at h
    cases h1 : mk ρ with
    | ex _ _ => rw [h1] at h; cases h
    | bad => rw [h1] at h; cases h
    | ok x ρ1 =>
      rw [h1] at h
      have h : ((mv ρ1).bind fun y ρ2 => match keyOf x with
        | some j => (m ρ2).bind fun l ρ3 => .ok ((j, y) :: l) ρ3
        | none => .bad) = .ok l ρ' := h
      cases h2 : mv ρ1 with
      | ex _ _ => rw [h2] at h; cases h
      | bad => rw [h2] at h; cases h
      | ok y ρ2 =>
        rw [h2] at h
        have h : (match keyOf x with
        | some j => (m ρ2).bind fun l ρ3 => Res.ok ((j, y) :: l) ρ3
        | none => .bad) = .ok l ρ' := h
        cases kx : keyOf x with
        | none => rw [kx] at h; cases h
        | some j =>
          rw [kx] at h
          have h : ((m ρ2).bind fun l ρ3 => Res.ok ((j, y) :: l) ρ3) = .ok l ρ' := h
          cases h3 : m ρ2 with
          | ex _ _ => rw [h3] at h; cases h
          | bad => rw [h3] at h; cases h
          | ok l' ρ3 =>
            rw [h3] at h
            have h : Res.ok ((j, y) :: l') ρ3 = .ok l ρ' := h
            cases h
            rw [List.length_cons, List.length_cons, hl _ _ _ h3]
/-- a value that was just made, locked for good -/
theorem pe_freeze {e : Expr} {t : TE} (h : PE X e t) : PE X e (fun σ H Q => t σ H fun v H1 => ∃ d u, v = .ref d ∧ H1 d = some u ∧ Mut (some u) ∧ ∀ od, Q v (upd H1 d (.frz od u))) := ⟨fun pins s σ H Q I hw => by
  refine thn (h.run pins s σ H _ I hw) fun v s1 ⟨x, H1, I1, r, d, u, e, hd, mu, q⟩ => ?_
  obtain ⟨od, I2⟩ := I1.lock hd mu
  exact ⟨x, _, I2, r, q od⟩⟩
def mDict (m : M KD) : M D := fun ρ => (m ρ).bind fun l ρ1 => .ok (dK (mergeKD [] l)) ρ1
def mDictO (m : M KD) : M OV := fun ρ => (m ρ).bind fun l ρ1 => .ok (.dct ((mergeKD [] l).map fun p => (kD p.1, p.2))) ρ1
theorem disp_step {F H : Hp} {σ : Sl} {ρ : Env} {O : List Addr} (hlen : ∀ ρ l ρ', m ρ = .ok l ρ' → l.length = keys.length) (h15 : keys.length ≤ 15) {trs : List (TE × TE)} (ht : ∀ F0 H0 O0 σ0 σ H Q, (∃ F ρ O, EnvR X.K (c.at F0 H0 O0 σ0) F H σ ρ O ∧ (m ρ).post (PPx X.K (c.at F0 H0 O0 σ0) F H σ Q) (PX X.K (c.at F0 H0 O0 σ0) σ)) → tPairs trs σ H Q) (e : EnvR X.K c F H σ ρ O) {Q : VK}
    (hm : (m ρ).post (fun l ρ1 => ∀ F' H' O' p kvs, EnvR X.K c F' H' σ ρ1 O' → Same F F' → H' p = some (.dK (mergeK [] kvs)) → RpK X.K F' (mergeK [] kvs) (mergeKD [] l) → Apart c F' [p] O' → Q (.ref p) H') (PX X.K c σ)) : tDisp trs σ H Q := fun p hp => by
  have n := New.own e.sub hp (.dK ([] : List (Key × V)))
  have e0 := e.new n
  have ap := e.apart hp
  have pO : p ∉ O := (List.nodup_cons.mp ap.nd).1
  refine ht _ _ _ _ σ _ _ ⟨F, ρ, O, e0.self, ?_⟩
  cases r : m ρ with
  | bad => rw [r] at hm; exact hm
  | ex ξ ρ1 => rw [r] at hm; exact fun F' H' O' cls d e' x => hm F' H' O' cls d (e0.trans e') x
  | ok l ρ1 =>
    rw [r] at hm
    intro F' H' O' kvs e' s' rk
    have hp' : H' p = some (.dK []) := e'.h0 p _ upd_same pO
    have fp' : F' p = none := e'.n0 p (fun z => by have z : upd H p (.dK []) p = none := z; rw [upd_same] at z; cases z) pO ((e.sub).free hp)
    have pO' : p ∉ O' := fun z => by
      rcases (e'.ow p z).2 with z | z
      · exact pO z
      · have z : upd H p (.dK []) p = none := z
        rw [upd_same] at z; cases z
    have et := e0.trans e'
    have hl : l.length = keys.length := hlen _ _ _ r
    refine ⟨hp', kvs, rfl, by rw [rk.len, hl]; exact h15, ?_⟩
    have e2 : EnvR X.K c F' (upd H' p (.dK (mergeK [] kvs))) σ ρ1 O' := by
      refine ⟨fun b u q => ?_, et.f0, fun b o q hb => ?_, et.n0, et.sl.mono (Same.refl _) fun b hb => upd_ne fun z => pO' (by rw [← z]; exact hb), et.nd, et.ow, et.fx⟩
      · rw [upd_ne fun z => by rw [z, fp'] at q; cases q]
        exact et.sub b u q
      · have z := e.h0 b o q hb
        rw [upd_ne fun k => by rw [k, hp] at z; cases z]
        exact et.h0 b o q hb
    refine hm F' _ O' p kvs e2 (fun b u q => s' b u q) upd_same (rk.merge .nil) ⟨List.nodup_cons.mpr ⟨pO', et.nd⟩, fun q hq => ?_⟩
    rw [List.mem_singleton] at hq
    subst hq
    exact ⟨fp', (ap.ow q (List.mem_singleton_self _)).2⟩
theorem so_dict (h : SP X c pos keys values m) (hall : keys.all (·.isSome) = true := by rfl) (hl : keys.length = values.length := by rfl) (h0 : keys ≠ [] := by exact fun z => nomatch z) (h15 : keys.length ≤ 15 := by exact Nat.le_of_ble_eq_true rfl) : PE X (.Dict keys values pos) (to X.K c (mDictO m)) := by
  obtain ⟨⟨trs, q1, q2⟩, hlen⟩ := h
  refine (pe_disp q1 hall hl h0 h15).imp fun σ H Q ⟨F, ρ, O, e, h⟩ => disp_step hlen h15 q2 e ?_
  exact Res.post_imp (Res.post_bind h) (fun l ρ1 h1 F' H' O' p kvs e' s' hp r a => h1 F' H' O' [p] _ e' s' (owR_dict hp r) a) fun _ _ h => h
theorem se_dict (h : SP X c pos keys values m) (hall : keys.all (·.isSome) = true := by rfl) (hl : keys.length = values.length := by rfl) (h0 : keys ≠ [] := by exact fun z => nomatch z) (h15 : keys.length ≤ 15 := by exact Nat.le_of_ble_eq_true rfl) : PE X (.Dict keys values pos) (te X.K c false false (mDict m)) := by
  obtain ⟨⟨trs, q1, q2⟩, hlen⟩ := h
  refine (pe_freeze (pe_disp q1 hall hl h0 h15)).imp fun σ H Q ⟨F, ρ, O, e, h⟩ => disp_step hlen h15 q2 e ?_
  refine Res.post_imp (Res.post_bind h) (fun l ρ1 h1 F' H' O' p kvs e' s' hp r a => ⟨p, _, rfl, hp, trivial, fun od => ?_⟩) fun _ _ h => h
  have fp := (a.ow p (List.mem_singleton_self _)).1
  have pO : p ∉ O' := (List.nodup_cons.mp a.nd).1
  have s2 : Same F' (upd F' p (.frz od (.dK (mergeK [] kvs)))) := same_upd fp _
  refine h1 (upd F' p (.frz od (.dK (mergeK [] kvs)))) _ O' (.ref p) ?_ (s'.trans s2) (fun z => nomatch z) (dict_rp upd_same (r.mono s2))
  refine ⟨fun b u q => ?_, e'.f0.trans s2, fun b o q hb => ?_, fun b g1 g2 g3 => ?_, e'.sl.mono s2 fun b hb => upd_ne fun z => pO (by rw [← z]; exact hb), e'.nd, fun q hq => ⟨?_, (e'.ow q hq).2⟩, e'.fx⟩
  · by_cases z : b = p
    · subst z; rw [upd_same] at q ⊢; exact q
    · rw [upd_ne z] at q ⊢; exact e'.sub b u q
  · rcases (a.ow p (List.mem_singleton_self _)).2 with z | z
    · rw [upd_ne fun k => hb (by rw [k]; exact z)]
      exact e'.h0 b o q hb
    · rw [upd_ne fun k => by rw [k, z] at q; cases q]
      exact e'.h0 b o q hb
  · rw [upd_ne fun k => by
      subst k
      rcases (a.ow b (List.mem_singleton_self _)).2 with z | z
      · exact g2 z
      · exact g1 z]
    exact e'.n0 b g1 g2 g3
  · rw [upd_ne fun k => pO (by rw [← k]; exact hq)]
    exact (e'.ow q hq).1
end
end DL
end
section
set_option maxRecDepth 100000
set_option maxHeartbeats 4000000
/-! The functional layer: small rules for the printed derivations. -/
namespace DL
open PySem PySem.Spec PyProof.Rows L2
def negD : D → Option D
  | .int i => some (.int (-i))
  | _ => none
section
variable {X : Cx} {c : Ct} {e : Expr} {es : List Expr} {pos : Pos} {ka pu : Bool} {me : M D}
theorem se_neg (ha : PE X e (te X.K c ka pu me)) : PE X (.UnaryOp .USub e pos) (te X.K c false pu (mF1 negD me)) := (pe_un un_neg ha).imp fun σ H Q ⟨F, ρ, O, ev, h⟩ => by
  refine te_step ev h fun x ρ1 F1 H1 O1 v h1 e1 s1 p1 v1 => ?_
  obtain ⟨z, hz, h2⟩ := post_ofO h1
  unfold negD at hz
  split at hz
  · cases hz
    exact ⟨_, inv_int v1.up0, h2 F1 H1 O1 _ e1 s1 p1 (.int _)⟩
  · cases hz
end
/-- what a name's scope says, of all names -/
def visB (sc : Scope) (x : Str) : Bool := match sc.names.lookup x with
  | some .local => true
  | some .cell => true
  | some .free => true
  | _ => false
theorem vis_of {sc : Scope} {x : Str} (h : visB sc x = true) : Vis sc x := by
  unfold visB at h
  split at h
  · rename_i q; exact .inl q
  · rename_i q; exact .inr (.inl q)
  · rename_i q; exact .inr (.inr q)
  · cases h
def locB (sc : Scope) (x : Str) : Bool := match sc.names.lookup x with
  | some .local => true
  | some .cell => true
  | _ => false
theorem loc_of {sc : Scope} {x : Str} (h : locB sc x = true) : Loc sc x := by
  unfold locB at h
  split at h
  · rename_i q; exact .inl q
  · rename_i q; exact .inr q
  · cases h
def nmB (x : Str) : Bool := !(x == ("__debug__" : Str)) && !(x == ("__classdict__" : Str))
/-- facts of a scope's names, each place once -/
structure NmOk (N : List Str) (sc : Scope) (us : List Nat) : Prop where
  vis : (us.all fun i => match N[i]? with
    | some x => visB sc x && nmB x
    | none => false) = true
theorem NmOk.v {N : List Str} {sc : Scope} {us : List Nat} (h : NmOk N sc us) {i : Nat} {x : Str} (hi : us.contains i = true) (hN : N[i]? = some x) : Vis sc x ∧ (x == ("__debug__" : Str)) = false ∧ (x == ("__classdict__" : Str)) = false := by
  have z := List.all_eq_true.mp h.vis i (by simpa using hi)
  rw [hN] at z
  simp only [nmB, Bool.and_eq_true, Bool.not_eq_true'] at z
  exact ⟨vis_of z.1, z.2.1, z.2.2⟩
/-! ### who is of which class -/
def tabIsa : List (Str × Bool) → ECls → Option Bool
  | [], _ => none
  | (x, b) :: r, .own y => if y = x then some b else tabIsa r (.own y)
  | _ :: _, .blt _ => none
theorem tab_nil {K : Frag} {ca : Str → Addr} {cv : Value} : ∀ e b, tabIsa [] e = some b → PySem.W.exmOne K (ecV ca e) cv = some b := fun e b h => by cases h
theorem tab_cons {K : Frag} {ca : Str → Addr} {cv : Value} {x : Str} {b0 : Bool} {r : List (Str × Bool)} (h0 : PySem.W.exmOne K (.ref (ca x)) cv = some b0) (hr : ∀ e b, tabIsa r e = some b → PySem.W.exmOne K (ecV ca e) cv = some b) : ∀ e b, tabIsa ((x, b0) :: r) e = some b → PySem.W.exmOne K (ecV ca e) cv = some b := fun e b h => by
  cases e with
  | own y =>
    unfold tabIsa at h
    split at h
    · rename_i e
      cases h
      subst e
      exact h0
    · exact hr _ _ h
  | blt n => cases h
theorem u64 {k : Nat} {A : Around} (h : Room k A) : A.units + 64 < cLine := by have := h.un; omega
theorem u65 {k : Nat} {A : Around} (h : Room k A) : A.units + 65 < cLine := by have := h.un; omega
theorem u66 {k : Nat} {A : Around} (h : Room k A) : A.units + 66 < cLine := by have := h.un; omega
theorem gl_of {X : Cx} {x : Str} (h : X.env.scope.names.lookup x = some .globalImplicit) : Gl X x := h
/-! ### a law's def, called by no one -/
/-- a def whose exceptions are all told, with none wished -/
theorem ground {P : Program} {w : World} {K : Frag} {mg : Str → Option Value} {base : Heap} {k : Nat} {f : Addr} {fd : FuncData} {ps : List Str} {sp sp' : Sp} (G : FnOk P w K mg base (L2.CX P w) k f fd ps sp) (h : ∀ vs H Q E, sp' vs H Q E → sp vs H Q fun _ _ _ => False) : FnOk P w K mg base (fun _ _ _ _ _ _ => False) k f fd ps sp' where
  len := fun vs H Q E q => G.len vs H Q _ (h vs H Q E q)
  run := fun A outer s H args us vs Q E hr he hb hv q => codeAny_mono (G.run A outer s H args us vs Q _ hr he hb hv (h vs H Q E q)) fun r s' z => by
    cases r with
    | ok fl => cases fl <;> exact z
    | error e =>
      obtain ⟨_, _, _, _, _, _, _, _, _, _, _, _, c⟩ := z
      exact c.elim
def scrD (ns : List Int) : D := .dict [(.none, .list (ns.map .int))]
theorem rpAll_ints {K : Frag} {F : Hp} : ∀ ns : List Int, RpAll K F (ns.map V.int) (ns.map PyData.int)
  | [] => .nil
  | n :: ns => .cons (.int n) (rpAll_ints ns)
/-- what a law asks of its def -/
def spLaw (K : Frag) : Sp := fun vs H Q _ => ∃ (a : Addr) (ns : List Int), vs = [.ref a] ∧ ns.length ≤ 63 ∧ SqL K H a (ns.map V.int) ∧ ∀ H', Q (.bl true) H'
theorem law_in {K : Frag} {ca : Str → Addr} {f : Fn} (hf : ∀ ns : List Int, ns.length ≤ 63 → ∃ outs, f [.d (scrD ns)] = .ok (.d (.bool true)) outs) (vs : List V) (H : Hp) (Q : VK) (E : XK) (h : spLaw K vs H Q E) : spF K ca f vs H Q fun _ _ _ => False := by
  obtain ⟨a, ns, rfl, hl, hS, q⟩ := h
  refine ⟨H, [.d (scrD ns)], [], Same.refl _, .so (A := []) (.d (.scr hS (rpAll_ints ns))) .nil, .nil, fun p hp => by simp at hp, ?_⟩
  obtain ⟨outs, e⟩ := hf ns hl
  rw [e]
  intro F' H' v A B _ _ r _ _
  cases r with
  | d r => cases r; exact q H'
end DL
end
section
set_option maxRecDepth 100000
set_option maxHeartbeats 4000000
set_option exponentiation.threshold 3000
/-! The functional layer: what the combinators are, for simp. -/
namespace DL
open PySem PySem.Spec PyProof.Rows L2
section
variable {α β : Type} {ρ : Env} {ξ : Exc}
@[simp] theorem bind_ok (a : α) (ρ : Env) (k : α → Env → Res β) : (Res.ok a ρ).bind k = k a ρ := rfl
@[simp] theorem bind_ex (ξ : Exc) (ρ : Env) (k : α → Env → Res β) : (Res.ex ξ ρ : Res α).bind k = .ex ξ ρ := rfl
@[simp] theorem bind_bad (k : α → Env → Res β) : (Res.bad : Res α).bind k = .bad := rfl
@[simp] theorem bindN_ok (a : α) (ρ : Env) (k : α → Env → Res β) : (Res.ok a ρ).bindN k = k a ρ := rfl
@[simp] theorem ofO_some (a : α) (ρ : Env) : ofO (some a) ρ = .ok a ρ := rfl
@[simp] theorem ofO_none (ρ : Env) : (ofO none ρ : Res α) = .bad := rfl
@[simp] theorem mVar_d (i : Nat) (ρ : Env) : mVar i ρ = match ρ[i]? with
  | some (some (.d x)) => .ok x ρ
  | _ => .bad := rfl
@[simp] theorem mC_d (x : D) (ρ : Env) : mC x ρ = .ok x ρ := rfl
@[simp] theorem mLook_d (i : Nat) (ρ : Env) : mLook i ρ = match ρ[i]? with
  | some (some o) => ofO o.look ρ
  | _ => .bad := rfl
@[simp] theorem look_d (x : D) : (OV.d x).look = some x := rfl
@[simp] theorem look_l (x : List D) : (OV.lst x).look = some (.list x) := rfl
@[simp] theorem frz_d (x : D) : (OV.d x).frz = some x := rfl
@[simp] theorem frz_l (x : List D) : (OV.lst x).frz = some (.list x) := rfl
@[simp] theorem mBin_d (g : D → D → Option D) (a b : M D) (ρ : Env) : mBin g a b ρ = (a ρ).bind fun x ρ1 => (b ρ1).bind fun y ρ2 => ofO (g x y) ρ2 := rfl
@[simp] theorem mB_d (m : M D) (ρ : Env) : mB m ρ = (m ρ).bind fun x ρ1 => match x with
  | .bool b => .ok b ρ1
  | _ => .bad := rfl
@[simp] theorem mChain_d (g g' : D → D → Option D) (a b d : M D) (ρ : Env) : mChain g g' a b d ρ = (a ρ).bind fun x ρ1 => (b ρ1).bind fun y ρ2 => match g x y with
  | some (.bool true) => (d ρ2).bind fun z ρ3 => ofO (g' y z) ρ3
  | some (.bool false) => .ok (.bool false) ρ2
  | _ => .bad := rfl
@[simp] theorem mAnd_d (a b : M Bool) (ρ : Env) : mAnd a b ρ = (a ρ).bind fun x ρ1 => if x = true then b ρ1 else .ok false ρ1 := rfl
@[simp] theorem mOr_d (a b : M Bool) (ρ : Env) : mOr a b ρ = (a ρ).bind fun x ρ1 => if x = true then .ok true ρ1 else b ρ1 := rfl
@[simp] theorem mNot_d (a : M Bool) (ρ : Env) : mNot a ρ = (a ρ).bind fun x ρ1 => .ok (!x) ρ1 := rfl
@[simp] theorem mAndV_d (a b : M D) (ρ : Env) : mAndV a b ρ = (a ρ).bind fun x ρ1 => match x with
  | .bool true => b ρ1
  | .bool false => .ok (.bool false) ρ1
  | _ => .bad := rfl
@[simp] theorem mOrV_d (a b : M D) (ρ : Env) : mOrV a b ρ = (a ρ).bind fun x ρ1 => match x with
  | .bool true => .ok (.bool true) ρ1
  | .bool false => b ρ1
  | _ => .bad := rfl
@[simp] theorem mNotV_d (a : M D) (ρ : Env) : mNotV a ρ = (a ρ).bind fun x ρ1 => match x with
  | .bool b => .ok (.bool (!b)) ρ1
  | _ => .bad := rfl
@[simp] theorem mIf_d (t : M Bool) (a b : M α) (ρ : Env) : mIf t a b ρ = (t ρ).bind fun x ρ1 => if x = true then a ρ1 else b ρ1 := rfl
@[simp] theorem mNil_d (ρ : Env) : mNil ρ = .ok [] ρ := rfl
@[simp] theorem mCons_d (a : M D) (r : M (List D)) (ρ : Env) : mCons a r ρ = (a ρ).bind fun x ρ1 => (r ρ1).bind fun xs ρ2 => .ok (x :: xs) ρ2 := rfl
@[simp] theorem mTup_d (m : M (List D)) (ρ : Env) : mTup m ρ = (m ρ).bind fun xs ρ1 => .ok (.tuple xs) ρ1 := rfl
@[simp] theorem mLst_d (m : M (List D)) (ρ : Env) : mLst m ρ = (m ρ).bind fun xs ρ1 => .ok (.lst xs) ρ1 := rfl
@[simp] theorem mLstF_d (m : M (List D)) (ρ : Env) : mLstF m ρ = (m ρ).bind fun xs ρ1 => .ok (.list xs) ρ1 := rfl
@[simp] theorem mFrz_d (m : M OV) (ρ : Env) : mFrz m ρ = (m ρ).bind fun o ρ1 => ofO o.frz ρ1 := rfl
@[simp] theorem mFrzV_d (i : Nat) (ρ : Env) : mFrzV i ρ = match ρ[i]? with
  | some (some o) => match o.frz with
    | some x => .ok x (ρ.set i (some (.d x)))
    | none => .bad
  | _ => .bad := rfl
@[simp] theorem mMove_d (i : Nat) (ρ : Env) : mMove i ρ = match ρ[i]? with
  | some (some o) => .ok o (ρ.set i none)
  | _ => .bad := rfl
@[simp] theorem mD_d (m : M D) (ρ : Env) : mD m ρ = (m ρ).bind fun x ρ1 => .ok (.d x) ρ1 := rfl
@[simp] theorem gNil_d (ρ : Env) : gNil ρ = .ok [] ρ := rfl
@[simp] theorem gD_d (a : M D) (r : M (List AV)) (ρ : Env) : gD a r ρ = (a ρ).bind fun x ρ1 => (r ρ1).bind fun xs ρ2 => .ok (.d x :: xs) ρ2 := rfl
@[simp] theorem gO_d (i : Nat) (r : M (List AV)) (ρ : Env) : gO i r ρ = match ρ[i]? with
  | some (some _) => (r ρ).bind fun xs ρ2 => .ok (.o i :: xs) ρ2
  | _ => .bad := rfl
@[simp] theorem mCall_d (f : Fn) (m : M (List AV)) (ρ : Env) : mCall f m ρ = (m ρ).bind fun avs ρ1 => callEnd f avs (gather ρ1 avs) := rfl
@[simp] theorem gather_nil (ρ : Env) : gather ρ [] = some ([], ρ) := rfl
@[simp] theorem gather_d (ρ : Env) (x : D) (r : List AV) : gather ρ (.d x :: r) = (gather ρ r).map fun z => (.d x :: z.1, z.2) := rfl
@[simp] theorem gather_o (ρ : Env) (i : Nat) (r : List AV) : gather ρ (.o i :: r) = match ρ[i]? with
  | some (some o) => (gather (ρ.set i none) r).map fun z => (o :: z.1, z.2)
  | _ => none := rfl
@[simp] theorem callEnd_some (f : Fn) (avs : List AV) (os : List OV) (ρ : Env) : callEnd f avs (some (os, ρ)) = callRf avs ρ (f os) := rfl
@[simp] theorem callRf_ok (avs : List AV) (ρ : Env) (r : OV) (outs : Env) : callRf avs ρ (.ok r outs) = .ok r (putBack ρ avs outs) := rfl
@[simp] theorem callRf_ex (avs : List AV) (ρ : Env) (ξ : Exc) : callRf avs ρ (.ex ξ) = .ex ξ ρ := rfl
@[simp] theorem putBack_nil (ρ outs : Env) : putBack ρ [] outs = ρ := by cases outs <;> rfl
@[simp] theorem putBack_d (ρ : Env) (x : D) (r : List AV) (o : Option OV) (s : Env) : putBack ρ (.d x :: r) (o :: s) = putBack ρ r s := rfl
@[simp] theorem putBack_o (ρ : Env) (i : Nat) (r : List AV) (o : Option OV) (s : Env) : putBack ρ (.o i :: r) (o :: s) = putBack (ρ.set i o) r s := rfl
@[simp] theorem sSeq_d (a b : M Fl) (ρ : Env) : sSeq a b ρ = (a ρ).bind fun f ρ1 => match f with
  | .nx => b ρ1
  | f => .ok f ρ1 := rfl
@[simp] theorem sNil_d (ρ : Env) : sNil ρ = .ok .nx ρ := rfl
@[simp] theorem sSet_d (i : Nat) (m : M D) (ρ : Env) : sSet i m ρ = (m ρ).bind fun x ρ1 => .ok .nx (ρ1.set i (some (.d x))) := rfl
@[simp] theorem sSetO_d (i : Nat) (m : M OV) (ρ : Env) : sSetO i m ρ = (m ρ).bind fun o ρ1 => .ok .nx (ρ1.set i (some o)) := rfl
@[simp] theorem sRet_d (m : M OV) (ρ : Env) : sRet m ρ = (m ρ).bind fun o ρ1 => .ok (.rt o) ρ1 := rfl
@[simp] theorem sDrop_d (m : M OV) (ρ : Env) : sDrop m ρ = (m ρ).bind fun _ ρ1 => .ok .nx ρ1 := rfl
@[simp] theorem mF1_d (g : D → Option D) (m : M D) (ρ : Env) : mF1 g m ρ = (m ρ).bind fun x ρ1 => ofO (g x) ρ1 := rfl
@[simp] theorem mFN_d (g : D → Option (List D)) (m : M D) (ρ : Env) : mFN g m ρ = (m ρ).bind fun x ρ1 => ofO (g x) ρ1 := rfl
@[simp] theorem bNo_d (ρ : Env) : bNo ρ = .ok none ρ := rfl
@[simp] theorem bTo_d (m : M D) (ρ : Env) : bTo m ρ = (m ρ).bind fun x ρ1 => match x with
  | .int i => .ok (some i) ρ1
  | _ => .bad := rfl
@[simp] theorem mSl_d (a : M D) (l u : M (Option Int)) (ρ : Env) : mSl a l u ρ = (a ρ).bind fun x ρ1 => (l ρ1).bind fun i ρ2 => (u ρ2).bind fun j ρ3 => ofO (slD x i j) ρ3 := rfl
@[simp] theorem mItems_d (m : M D) (ρ : Env) : mItems m ρ = (m ρ).bind fun x ρ1 => ofO (itemsD x) ρ1 := rfl
@[simp] theorem mRange1_d (a : M D) (ρ : Env) : mRange1 a ρ = (a ρ).bind fun x ρ1 => ofO (range1 x) ρ1 := rfl
@[simp] theorem mRange2_d (a b : M D) (ρ : Env) : mRange2 a b ρ = (a ρ).bind fun x ρ1 => (b ρ1).bind fun y ρ2 => ofO (range2 x y) ρ2 := rfl
@[simp] theorem mZip_d (a b : M D) (ρ : Env) : mZip a b ρ = (a ρ).bind fun x ρ1 => (b ρ1).bind fun y ρ2 => ofO (zipD x y) ρ2 := rfl
@[simp] theorem mEnum_d (a : M D) (ρ : Env) : mEnum a ρ = (a ρ).bind fun x ρ1 => ofO (enumO x) ρ1 := rfl
@[simp] theorem tName_d (i : Nat) (x : D) (ρ : Env) : tName i x ρ = some (ρ.set i (some (.d x))) := rfl
@[simp] theorem tsNil_d (ρ : Env) : tsNil [] ρ = some ρ := rfl
@[simp] theorem tsCons_d (t : D → Env → Option Env) (u : List D → Env → Option Env) (x : D) (r : List D) (ρ : Env) : tsCons t u (x :: r) ρ = (t x ρ).bind fun ρ1 => u r ρ1 := rfl
@[simp] theorem tTup_d (n : Nat) (u : List D → Env → Option Env) (xs : List D) (ρ : Env) : tTup n u (.tuple xs) ρ = if xs.length = n then u xs ρ else none := rfl
@[simp] theorem forGo_nil (tg : D → Env → Option Env) (b : M Fl) (ρ : Env) : forGo tg b [] ρ = .ok .nx ρ := rfl
theorem forGo_cons (tg : D → Env → Option Env) (b : M Fl) (x : D) (xs : List D) (ρ : Env) : forGo tg b (x :: xs) ρ = match tg x ρ with
    | none => .bad
    | some ρ1 => (b ρ1).bind fun f ρ2 => match f with
      | .nx => forGo tg b xs ρ2
      | .ct => forGo tg b xs ρ2
      | .bk => .ok .nx ρ2
      | .rt o => .ok (.rt o) ρ2 := rfl
@[simp] theorem sFor_d (it : M (List D)) (tg : D → Env → Option Env) (b : M Fl) (ρ : Env) : sFor it tg b ρ = (it ρ).bind fun xs ρ1 => forGo tg b xs ρ1 := rfl
@[simp] theorem mLc_d (vs : List Nat) (it : M (List D)) (t : D → Env → Option Env) (tst : M Bool) (e : M D) (ρ : Env) : mLc vs it t tst e ρ = (it ρ).bind fun xs ρ1 => if dataAt ρ1 vs = true then (lcGo vs t tst e xs (wipeE ρ1 vs)).bindN fun ys ρ2 => .ok ys (backE ρ1 vs ρ2) else .bad := rfl
@[simp] theorem mYes_d (ρ : Env) : mYes ρ = .ok true ρ := rfl
@[simp] theorem mLM_d (i : Nat) (g : List D → List D → Option (List D × D)) (ms : M (List D)) (ρ : Env) : mLM i g ms ρ = match ρ[i]? with
  | some (some (.lst _)) => (ms ρ).bind fun as ρ1 => match ρ1[i]? with
    | some (some (.lst xs)) => match g xs as with
      | some z => .ok z.2 (ρ1.set i (some (.lst z.1)))
      | none => .bad
    | _ => .bad
  | _ => .bad := rfl
@[simp] theorem mExtend_d (i : Nat) (m : M D) (ρ : Env) : mExtend i m ρ = match ρ[i]? with
  | some (some (.lst _)) => (m ρ).bind fun a ρ1 => match ρ1[i]? with
    | some (some (.lst xs)) => match extendD xs a with
      | some z => .ok .none (ρ1.set i (some (.lst z)))
      | none => .bad
    | _ => .bad
  | _ => .bad := rfl
@[simp] theorem sPut_d (i : Nat) (mi mv : M D) (ρ : Env) : sPut i mi mv ρ = (mv ρ).bind fun v ρ1 => match ρ1[i]? with
  | some (some (.lst _)) => (mi ρ1).bind fun k ρ2 => match ρ2[i]?, k with
    | some (some (.lst xs)), .int j => match ixN xs.length j with
      | some n => .ok .nx (ρ2.set i (some (.lst (xs.set n v))))
      | none => .bad
    | _, _ => .bad
  | _ => .bad := rfl
@[simp] theorem sPar_d (i j : Nat) (m : M (List D)) (ρ : Env) : sPar i j m ρ = (m ρ).bind fun xs ρ1 => match xs with
  | [x, y] => .ok .nx ((ρ1.set i (some (.d x))).set j (some (.d y)))
  | _ => .bad := rfl
@[simp] theorem sRaise_d (x : Str) (ρ : Env) : sRaise x ρ = .ex ⟨.own x, []⟩ ρ := rfl
@[simp] theorem mSetOf_d (m : M D) (ρ : Env) : mSetOf m ρ = (m ρ).bind fun x ρ1 => ofO (textsD x) ρ1 := rfl
@[simp] theorem mSortK_d (m : M (List Str)) (ρ : Env) : mSortK m ρ = (m ρ).bind fun l ρ1 => .ok ((sortS (onceS l)).map .str) ρ1 := rfl
@[simp] theorem mLenK_d (m : M (List Str)) (ρ : Env) : mLenK m ρ = (m ρ).bind fun l ρ1 => .ok (.int ((onceS l).length : Nat)) ρ1 := rfl
@[simp] theorem wipeE_nil (ρ : Env) : wipeE ρ [] = ρ := rfl
@[simp] theorem wipeE_cons (ρ : Env) (v : Nat) (vs : List Nat) : wipeE ρ (v :: vs) = (wipeE ρ vs).set v none := rfl
end
/-! ### the operators -/
@[simp] theorem add_i (i j : Int) : addD (.int i) (.int j) = some (.int (i + j)) := rfl
@[simp] theorem sub_i (i j : Int) : subD (.int i) (.int j) = some (.int (i - j)) := rfl
theorem mul_i {i j : Int} (h : CMulW i j) : mulD (.int i) (.int j) = some (.int (i * j)) := if_pos h
theorem div_i {i j : Int} (h : CDivW i j) : divD (.int i) (.int j) = some (.int (i / j)) := if_pos h
theorem mod_i {i j : Int} (h : 0 < j) : modD (.int i) (.int j) = some (.int (i % j)) := if_pos h
theorem CDivW.of {i j : Int} (h : 0 < j) (h2 : j < 2 ^ 900) : CDivW i j := ⟨h, by
  have : j.natAbs < 2 ^ 900 := by omega
  have h0 : j.natAbs ≠ 0 := by omega
  have := (Nat.log2_lt h0).mpr this
  omega⟩
theorem log_lt {n k : Nat} (h : n < 2 ^ k) (hk : 0 < k) : n.log2 < k := by
  by_cases h0 : n = 0
  · subst h0; simpa using hk
  · exact (Nat.log2_lt h0).mpr h
theorem CMulW.of {i j : Int} (h : i.natAbs < 2 ^ 400) (h2 : j.natAbs < 2 ^ 400) : CMulW i j := by
  have a := log_lt h (by decide)
  have b := log_lt h2 (by decide)
  show i.natAbs.log2 + j.natAbs.log2 < 1000000
  omega
theorem eq_i (i j : Int) : eqD (.int i) (.int j) = some (.bool (decide (i = j))) := by
  have h : eqD (.int i) (.int j) = if SeqAt.shaped (.int i) = true ∧ SeqAt.shaped (.int j) = true then some (.bool (PyData.eqv (.int i) (.int j))) else none := rfl
  rw [h, if_pos ⟨rfl, rfl⟩]
  have e : (i == j) = decide (i = j) := by by_cases z : i = j <;> simp [z]
  simp [PyData.eqv, e]
theorem ne_i (i j : Int) : neD (.int i) (.int j) = some (.bool (!decide (i = j))) := by
  have h : neD (.int i) (.int j) = if SeqAt.shaped (.int i) = true ∧ SeqAt.shaped (.int j) = true then some (.bool (!PyData.eqv (.int i) (.int j))) else none := rfl
  rw [h, if_pos ⟨rfl, rfl⟩]
  have e : (i == j) = decide (i = j) := by by_cases z : i = j <;> simp [z]
  simp [PyData.eqv, e]
theorem div_p {i j : Int} (h : 0 < j) (h2 : j < 2 ^ 64) : divD (.int i) (.int j) = some (.int (i / j)) := div_i (CDivW.of h (by
  have : (2 : Int) ^ 64 < 2 ^ 900 := by decide
  omega))
theorem mul_p {i j : Int} (h : -(2 ^ 64) < i ∧ i < 2 ^ 64) (h2 : -(2 ^ 64) < j ∧ j < 2 ^ 64) : mulD (.int i) (.int j) = some (.int (i * j)) := mul_i (CMulW.of (by
  have : (2 : Nat) ^ 64 < 2 ^ 400 := by decide
  omega) (by
  have : (2 : Nat) ^ 64 < 2 ^ 400 := by decide
  omega))
theorem mul_b {i j : Int} (h : i.natAbs < 2 ^ 900) (h2 : j.natAbs < 2 ^ 900) : mulD (.int i) (.int j) = some (.int (i * j)) := mul_i (by
  have a := log_lt h (by decide)
  have b := log_lt h2 (by decide)
  show i.natAbs.log2 + j.natAbs.log2 < 1000000
  omega)
/-! ### loops by a word -/
theorem forGo_inv {t : D → Env → Option Env} {b : M Fl} : ∀ {xs : List D} {ρ : Env} (Pv : Nat → Env → Prop), Pv 0 ρ → (∀ i x ρ, xs[i]? = some x → Pv i ρ → ∃ ρ1 ρ2, t x ρ = some ρ1 ∧ b ρ1 = .ok .nx ρ2 ∧ Pv (i + 1) ρ2) → ∃ ρ', forGo t b xs ρ = .ok .nx ρ' ∧ Pv xs.length ρ'
  | [], ρ, Pv, h0, _ => ⟨ρ, rfl, h0⟩
  | x :: xs, ρ, Pv, h0, hs => by
    obtain ⟨ρ1, ρ2, h1, h2, h3⟩ := hs 0 x ρ rfl h0
    obtain ⟨ρ', h4, h5⟩ := forGo_inv (xs := xs) (ρ := ρ2) (fun i => Pv (i + 1)) h3 fun i y ρ hy hp => hs (i + 1) y ρ (by simpa using hy) hp
    refine ⟨ρ', ?_, h5⟩
    rw [forGo_cons, h1]
    simp only [h2, bind_ok]
    exact h4
/-- a comprehension that changes nothing -/
theorem lcGo_pure {vs : List Nat} {t : D → Env → Option Env} {tst : M Bool} {e : M D} {p : D → Bool} {g : D → D} {ρ : Env} : ∀ {xs : List D}, (∀ x ∈ xs, ∃ ρ1 ρ2, t x ρ = some ρ1 ∧ tst ρ1 = .ok (p x) ρ2 ∧ (p x = false → wipeE ρ2 vs = ρ) ∧ (p x = true → ∃ ρ3, e ρ2 = .ok (g x) ρ3 ∧ wipeE ρ3 vs = ρ)) → lcGo vs t tst e xs ρ = .ok ((xs.filter p).map g) ρ
  | [], _ => rfl
  | x :: xs, h => by
    obtain ⟨ρ1, ρ2, h1, h2, h3, h4⟩ := h x List.mem_cons_self
    have ih := lcGo_pure (xs := xs) fun y hy => h y (List.mem_cons_of_mem _ hy)
    have hd : lcGo vs t tst e (x :: xs) ρ = match t x ρ with
      | none => .bad
      | some ρ1 => (tst ρ1).bindN fun b ρ2 => if b = true then (e ρ2).bindN fun y ρ3 => (lcGo vs t tst e xs (wipeE ρ3 vs)).bindN fun ys ρ4 => .ok (y :: ys) ρ4 else lcGo vs t tst e xs (wipeE ρ2 vs) := rfl
    rw [hd, h1]
    simp only [h2, bindN_ok]
    cases hp : p x with
    | false =>
      rw [if_neg Bool.false_ne_true, h3 hp, ih, List.filter_cons_of_neg (by simp [hp])]
    | true =>
      obtain ⟨ρ3, h5, h6⟩ := h4 hp
      rw [if_pos rfl, h5, List.filter_cons_of_pos hp]
      simp only [bindN_ok, h6, ih, List.map_cons]
/-! ### places -/
theorem atI_nat {α : Type} {xs : List α} {i : Int} (h0 : 0 ≤ i) (h1 : i < xs.length) : ∃ x, atI xs i = some x ∧ xs[i.toNat]? = some x := by
  have hl : i.toNat < xs.length := by omega
  refine ⟨xs[i.toNat], ?_, by simp [hl]⟩
  unfold atI ixN
  rw [if_pos h0, if_pos h1]
  simp [hl]
end DL
end
section
set_option maxRecDepth 100000
set_option maxHeartbeats 4000000
/-! The functional layer: comprehensions of any number of clauses, the machine's part. -/
namespace DL
open PySem PySem.Spec PyProof.Rows L2 PySem.W
/-- the tests of a clause, one behind the other -/
abbrev cTests (ifs : List Expr) (env : PySem.Env) : Sem Bool := forIn ifs true fun c r => if r = true then (isTrue c env (eval c env) >>= fun k => pure (ForInStep.yield k)) else pure (ForInStep.yield r)
/-- what a turn of the clause k does; body: what stands in its middle -/
def TurnIs (e : Expr) (k : Nat) (tg iter : Expr) (ifs : List Expr) (env : PySem.Env) (acc : Value) (body : Sem Unit) : Prop :=
  ∀ it, compTurn e k it acc env = (standAt iter.pos >>= fun _ => pyNext it >>= fun r => match r with
    | none => pure (.done .next)
    | some v => letOwnedTupleGo tg it v >>= fun _ => assign tg env v >>= fun _ => cTests ifs env >>= fun ok => if ok = true then (body >>= fun _ => again (.compLoop e k it acc env)) else again (.compLoop e k it acc env))
/-- no generator's own -/
structure PlainC (e : Expr) : Prop where
  d1 : ∀ (P : Program) (w : World) k it acc env, (model P w).den (.compLoop e k it acc env) = (compTurn e k it acc env).onRaise (fun x => noteFrame x env >>= fun _ => theTreesLotGoes x)
  d2 : ∀ (P : Program) (w : World) k it acc env, (model P w).den (.compStart e k it acc env) = (compStart e k it acc env).onRaise (fun x => noteFrame x env >>= fun _ => standAt theWindowsPlace)
  u1 : ∀ (A : Around) k it acc env, A.under (.compLoop e k it acc env) = A
  u2 : ∀ (A : Around) k it acc env, A.under (.compStart e k it acc env) = A
  q1 : ∀ k it acc env, (Code.compLoop e k it acc env).quiet = true
theorem plainC_set {elt : Expr} {gs : List Comprehension} {scope : Scope} {pos : Pos} : PlainC (.SetComp elt gs scope pos) := ⟨fun _ _ _ _ _ _ => rfl, fun _ _ _ _ _ _ => rfl, fun _ _ _ _ _ => rfl, fun _ _ _ _ _ => rfl, fun _ _ _ _ => rfl⟩
theorem plainC_list {elt : Expr} {gs : List Comprehension} {scope : Scope} {pos : Pos} : PlainC (.ListComp elt gs scope pos) := ⟨fun _ _ _ _ _ _ => rfl, fun _ _ _ _ _ _ => rfl, fun _ _ _ _ _ => rfl, fun _ _ _ _ _ => rfl, fun _ _ _ _ => rfl⟩
section
variable {prog : Program} {w : World} {A : Around} {R : Result → Shared → Prop} {s : Shared} {e tg iter : Expr} {k : Nat} {ifs : List Expr} {it acc : Value} {env : PySem.Env} {body : Sem Unit}
theorem loop_any (hp : PlainC e) (hT : TurnIs e k tg iter ifs env acc body) (I : Nat → Shared → Prop)
    (turn : ∀ n s, I n s → wpAny (model prog w) A (pyNext it) (fun r s1 => match r with
      | none => R (.ok .next) s1
      | some v => wpAny (model prog w) A (letOwnedTupleGo tg it v) (fun _ s2 => wpAny (model prog w) A (assign tg env v) (fun _ s3 =>
          wpAny (model prog w) A (cTests ifs env) (fun ok s4 =>
            if ok = true then wpAny (model prog w) A body (fun _ s5 => ∃ m, m < n ∧ I m s5) (notedBy (model prog w) A env fun x s' => R (.error x) s') s4
            else ∃ m, m < n ∧ I m s4) (notedBy (model prog w) A env fun x s' => R (.error x) s') s3) (notedBy (model prog w) A env fun x s' => R (.error x) s') s2) (notedBy (model prog w) A env fun x s' => R (.error x) s') s1) (notedBy (model prog w) A env fun x s' => R (.error x) s') s)
    (n : Nat) (h : I n s) : codeAny (model prog w) A (.compLoop e k it acc env) R s := by
  refine codeAny_loop (hp.q1 _ _ _ _) I (fun n s hI => ?_) n h
  rw [hp.u1, hp.d1]
  refine wpAny_noted ?_
  rw [hT it]
  refine wpAny_bind (wpAny_standAt (wpAny_bind (wpAny_mono (turn n s hI) (fun r s1 h1 => ?_) fun _ _ h' => h')))
  cases r with
  | none => exact wpAny_pure h1
  | some v =>
    refine wpAny_bind (wpAny_mono h1 (fun _ s2 h2 => ?_) fun _ _ h' => h')
    refine wpAny_bind (wpAny_mono h2 (fun _ s3 h3 => wpAny_bind (wpAny_mono h3 (fun ok s4 h4 => ?_) fun _ _ h' => h')) fun _ _ h' => h')
    cases ok with
    | false => exact wpAny_pure ⟨rfl, h4⟩
    | true =>
      rw [if_pos rfl] at h4 ⊢
      exact wpAny_bind (wpAny_mono h4 (fun _ s5 h5 => wpAny_pure ⟨rfl, h5⟩) fun _ _ h' => h')
theorem start_any {g : Comprehension} (hp : PlainC e) (hg : (clausesOf e)[k]? = some g) (ha : g.is_async = 0) (h0 : codeAny (model prog w) A (.compLoop e k it acc env) R s)
    (h : wpAny (model prog w) A (pyIter it) (fun it' s' => codeAny (model prog w) A (.compLoop e k it' acc env) R s') (notedBy (model prog w) A env fun x s' => R (.error x) s') s) :
    codeAny (model prog w) A (.compStart e k it acc env) R s := by
  refine codeAny_of_tree ?_
  rw [hp.u2, hp.d2]
  refine wpAny_notedAt ?_
  unfold compStart
  rw [hg]
  simp only [Option.elim, ha]
  show wpAny _ _ (ask >>= _) _ _ s
  refine wpAny_bind (wpAny_askSetting (wpAny_ite ?_))
  split
  · first
      | exact wpAny_bind (wpAny_pure (wpAny_pure (And.intro (hp.q1 _ _ _ _) h0)))
      | exact wpAny_pure (And.intro (hp.q1 _ _ _ _) h0)
  · first
      | exact wpAny_bind (wpAny_rule (wpAny_bind (wpAny_standAt (wpAny_bind (wpAny_mono h (fun it' s' h' => wpAny_pure (And.intro (hp.q1 _ _ _ _) h')) fun _ _ x => x)))))
      | (refine wpAny_bind (wpAny_rule ?_); show wpAny _ _ (standAt g.iter.pos >>= _) _ _ s; exact wpAny_bind (wpAny_standAt (wpAny_bind (wpAny_mono h (fun it' s' h' => wpAny_pure (And.intro (hp.q1 _ _ _ _) h')) fun _ _ x => x))))
end
/-! ### a clause's meaning -/
structure Cl where
  wi : TI
  g : TG
  tt : TT
  vs : List Nat
abbrev Below := Sl → Hp → (Hp → Prop) → Prop
def ClW (c : Cl) (below : Below) (σ : Sl) (J : It) (H1 : Hp) (Nx : Hp → Prop) : Prop :=
  ∃ W : Nat → Nat → Hp → Prop, (∃ m, W 0 m H1) ∧ ∀ i m H, W i m H → (J.stop i H ∧ Nx H) ∨ (J.go i H ∧ ∃ Nx' : Hp → Prop, (∀ H', Nx' H' → ∃ m', m' < m ∧ W (i + 1) m' H') ∧
    ∀ x H', J.yld i H x H' → c.g x (L2.wipe σ c.vs) H' fun σ2 H2 => L2.wipe σ2 c.vs = L2.wipe σ c.vs ∧ c.tt σ2 H2 fun b H3 => if b = true then below σ2 H3 Nx' else Nx' H3)
def ClIn (c : Cl) (below : Below) : Below := fun σ H Nx => c.wi σ H fun J H1 => ClW c below σ J H1 Nx
section
variable {X : Cx} {s0 : Shared} {H0 : Hp} {scope : Scope} {ce : PySem.Env} {ex : List Addr}
/-- the middle of a turn; vs: the slots that are forgotten behind it -/
def BodyOk (X : Cx) (vs : List Nat) (body : Sem Unit) (below : Below) : Prop :=
  ∀ pins s σ H Nx, L2.Inv X pins σ H s → below σ H Nx → wpAny (model X.prog X.w) X.A body (fun _ s' => ∃ H', L2.Inv X pins (L2.wipe σ vs) H' s' ∧ Nx H') (fun _ _ => False) s
theorem loop_ok {pins : List (Addr × Obj)} {s : Shared} {σ : Sl} {H : Hp} {e tg iter : Expr} {k : Nat} {ifs : List Expr} {acc : Value} {body : Sem Unit} {c : Cl} {below : Below} {vs' : List Nat} {it : Addr} {fp : List Addr} {tn : Nat → Heap → Prop} {J : It} {Nx : Hp → Prop}
    (hp : PlainC e) (hc : X.calm = true) (hT : TurnIs e k tg iter ifs ce acc body) (pg : PG (X.blk s0 H0 scope ce ex) tg c.g) (pt : PTs (X.blk s0 H0 scope ce ex) ifs c.tt) (pb : BodyOk (X.blk s0 H0 scope ce ex) vs' body below) (hv : ∀ i ∈ vs', i ∈ c.vs)
    (I : L2.Inv (X.blk s0 H0 scope ce ex) pins (L2.wipe σ c.vs) H s) (T : Turn X.prog X.w X.K tg J fp it tn) (st : tn 0 s.heap) (f : ∀ b ∈ fp, FpOk (X.blk s0 H0 scope ce ex) pins H b) (q : ClW c below σ J H Nx) :
    codeAny (model X.prog X.w) X.A (.compLoop e k (.ref it) acc ce) (fun r s' => match r with
      | .ok fl => fl = .next ∧ ∃ H', L2.Inv (X.blk s0 H0 scope ce ex) pins (L2.wipe σ c.vs) H' s' ∧ Nx H'
      | .error _ => False) s := by
  obtain ⟨W, ⟨m0, w0⟩, turn⟩ := q
  have stat : ∀ {H' : Hp}, (∀ b ∈ fp, H' b = none) → ∀ b ∈ fp, FpOk (X.blk s0 H0 scope ce ex) pins H' b := fun hn b hb => ⟨hn b hb, (f b hb).2⟩
  refine loop_any hp hT (fun n s' => ∃ j H', L2.Inv (X.blk s0 H0 scope ce ex) pins (L2.wipe σ c.vs) H' s' ∧ tn j s'.heap ∧ (∀ b ∈ fp, H' b = none) ∧ W j n H') ?_ m0 ⟨0, H, I, st, fun b hb => (f b hb).1, w0⟩
  rintro n s5 ⟨i, H5, I5, st5, n5, w5⟩
  rcases turn i n H5 w5 with ⟨stop, qq⟩ | ⟨go, Nx', hNx, step⟩
  · refine thnF (T.done (X.blk s0 H0 scope ce ex) rfl rfl rfl hc i _ s5 _ H5 (fun _ _ => False) I5 (stat n5) st5 stop) fun r s6 ⟨hr, I6⟩ => ?_
    subst hr
    exact ⟨rfl, H5, I6, qq⟩
  · refine thnF (T.item (X.blk s0 H0 scope ce ex) rfl rfl rfl hc i _ s5 _ H5 (fun _ _ => False) I5 (stat n5) st5 go) fun r s6 ⟨u, hr, h6⟩ => ?_
    subst hr
    refine thnF h6 fun _ s7 ⟨x, H7, I7, r7, y7, st7, n7⟩ => ?_
    have I7' := I7.pinned (stat n7) (T.obj _ _ st7)
    refine thnF (pg.run _ s7 _ H7 x u _ I7' r7 (step x H7 y7)) fun _ s8 ⟨σ8, H8, I8, hw8, q8⟩ => ?_
    refine thnF (pt.run _ s8 σ8 H8 _ I8 q8) fun b s9 ⟨H9, I9, q9⟩ => ?_
    have fin : ∀ {σ' : Sl} {s' : Shared} {H' : Hp}, L2.Inv (X.blk s0 H0 scope ce ex) (pins ++ pinsAt fp s7.heap) σ' H' s' → (L2.wipe σ c.vs).length = σ'.length → (∀ (j : Nat) v, (L2.wipe σ c.vs)[j]? = some (some v) → σ'[j]? = some (some v)) → Nx' H' →
        ∃ m, m < n ∧ ∃ i H', L2.Inv (X.blk s0 H0 scope ce ex) pins (L2.wipe σ c.vs) H' s' ∧ tn i s'.heap ∧ (∀ b ∈ fp, H' b = none) ∧ W i m H' := fun {σ' s' H'} I' hl hk nx => by
      obtain ⟨m', hm, w'⟩ := hNx H' nx
      have pin' : ∀ b ∈ fp, ∀ o, s7.heap.get? b = some o → s'.heap.get? b = some o ∧ H' b = none := fun b hb o z =>
        let y := I'.pin (b, o) (List.mem_append_right _ (List.mem_append_right _ (mem_pinsAt hb z)))
        ⟨y.1, y.2.1⟩
      refine ⟨m', hm, i + 1, H', I'.unpinned.weak hl hk, T.keep _ _ _ st7 fun b hb o z => (pin' b hb o z).1, fun b hb => ?_, w'⟩
      obtain ⟨o, z, _⟩ := T.obj _ _ st7 b hb
      exact (pin' b hb o z).2
    have hl8 : (L2.wipe σ c.vs).length = σ8.length := by rw [← hw8, wipe_length]
    have hk8 : ∀ (j : Nat) v, (L2.wipe σ c.vs)[j]? = some (some v) → σ8[j]? = some (some v) := fun j v z => by
      rw [← hw8] at z
      exact (wipe_some z).1
    have hk9 : ∀ (j : Nat) v, (L2.wipe σ c.vs)[j]? = some (some v) → (L2.wipe σ8 vs')[j]? = some (some v) := fun j v z => by
      rw [← hw8] at z
      obtain ⟨e1, e2⟩ := wipe_some z
      rw [wipe_out fun y => e2 (hv j y)]
      exact e1
    cases b with
    | false =>
      simp only [Bool.false_eq_true, if_false] at q9 ⊢
      exact fin I9 hl8 hk8 q9
    | true =>
      simp only [if_true] at q9 ⊢
      exact thnF (pb _ s9 σ8 H9 Nx' I9 q9) fun _ s10 ⟨H10, I10, nx⟩ => fin I10 (hl8.trans (wipe_length σ8 vs').symm) hk9 nx
/-- a further clause's loop as the middle of a turn -/
abbrev inBody (e : Expr) (k : Nat) (iter : Expr) (acc : Value) (env : PySem.Env) : Sem Unit :=
  eval iter env >>= fun x => standAt iter.pos >>= fun _ => foldedSetIterable iter env x >>= fun x => holding [x] (pyIter x) >>= fun i => runOwn (.compStart e k i acc env) env >>= fun _ => pure ()
theorem body_in {e tg iter : Expr} {k : Nat} {ifs : List Expr} {acc : Value} {body : Sem Unit} {c : Cl} {below : Below} {vs' : List Nat} {g : Comprehension}
    (hp : PlainC e) (hc : X.calm = true) (hg : (clausesOf e)[k]? = some g) (ha : g.is_async = 0) (hs : ∀ env x, foldedSetIterable iter env x = pure x) (hT : TurnIs e k tg iter ifs ce acc body) (pi : PI (X.blk s0 H0 scope ce ex) tg iter c.wi) (pg : PG (X.blk s0 H0 scope ce ex) tg c.g) (pt : PTs (X.blk s0 H0 scope ce ex) ifs c.tt) (pb : BodyOk (X.blk s0 H0 scope ce ex) vs' body below) (hv : ∀ i ∈ vs', i ∈ c.vs) :
    BodyOk (X.blk s0 H0 scope ce ex) c.vs (inBody e k iter acc ce) (ClIn c below) := by
  intro pins s σ H Nx I h
  refine wpAny_bind (thnF (pi.run pins s σ H _ I h) fun xv s1 h1 => ?_)
  refine wpAny_bind (wpAny_standAt (wpAny_bind (wpAny_of_eq (hs _ xv) (wpAny_bind (wpAny_holding (thnF h1 fun itv s2 h2 => ?_))))))
  obtain ⟨it, fp, tn, J, H2, e1, I2, T, st2, f2, q⟩ := h2
  subst e1
  refine wpAny_bind (wpAny_runOwn ?_)
  rw [Around.mark_none]
  have lp := loop_ok (σ := σ) hp hc hT pg pt pb hv (I2.weak (wipe_length _ _) (fun j v z => (wipe_some z).1)) T st2 f2 q
  refine codeAny_mono (start_any hp hg ha lp (T.self X.A 0 _ _ _ st2 lp)) fun r s' hr => ?_
  cases r with
  | ok fl =>
    obtain ⟨e2, H', I', nx⟩ := hr
    first
      | exact wpAny_pure ⟨H', I', nx⟩
      | exact wpAny_bind (wpAny_pure (wpAny_pure ⟨H', I', nx⟩))
  | error x => exact hr.elim
end
end DL
end
section
set_option maxRecDepth 100000
set_option maxHeartbeats 4000000
/-! The functional layer: sets of texts that are tracked; set comprehensions of any number of clauses. -/
namespace DL
open PySem PySem.Spec PyProof.Rows L2 PySem.W
def SKO (P : Program) (w : World) (a : Addr) (ks : List Str) : HO := .ext fun h => SK (strKind P w) h a ks
theorem sko_ok {P : Program} {w : World} {H : Hp} {h : Heap} {a : Addr} {ks : List Str} (R : SK (strKind P w) h a ks) : ObjOk P w H h a (SKO P w a ks) := by
  have ⟨o, _, _, _, ho, _⟩ := R
  exact ⟨R, ⟨o, ho⟩, fun h1 h2 p k => SK.keep p k⟩
section
variable {X : Cx} {pins : List (Addr × Obj)} {σ : Sl} {H : Hp} {s : Shared} {D : Addr} {ks : List Str} {Q E : Value → Shared → Prop}
theorem sko_get (I : L2.Inv X pins σ H s) (ha : H D = some (SKO X.prog X.w D ks)) : SK (strKind X.prog X.w) s.heap D ks := (I.hok D _ ha).1
theorem set_add1 {P : Program} {w : World} {A : Around} {z : Str} {t : Tok} (R : SK (strKind P w) s.heap D ks) (room : ks.length + 1 < scanBound)
    (hQ : ∀ h' t' ks', ks'.Perm (if z ∈ ks then ks else z :: ks) → Heap.SameBut D s.heap h' → SK (strKind P w) h' D ks' → Q .none { s with heap := h', toks := t' }) :
    wpAny (model P w) A (call (.builtin "set.add") [.ref D, .str z t]) Q E s := by
  refine wpAny_call_entry F.slot_set_add R.setOf.typeIs F.entry_set_add ?_ (F.args_set_add_2 _ _)
  unfold Builtin.«set.add» Builtin.Frozenset.oneOther Builtin.Frozenset.addrOf setAdd
  simp only [List.isEmpty_nil, bind_assoc]
  refine wpAny_bind (wpAny_pure (wpAny_bind (wpAny_pure ?_)))
  refine wpAny_bind (wpAny_holding (wpAny_bind ((strKind P w).pyHash (strKind_is _ _ _ _) ?_)))
  refine sk_add (s := { s with toks := s.toks + 1 }) R (strKind_is _ _ _ _) rfl room fun h' ks' b p sb r => ?_
  show wpAny _ _ (ret _) _ _ _
  exact wpAny_pure ⟨_, rfl, hQ h' (s.toks + 1) ks' p sb r⟩
theorem sko_add {z : Str} {v : Value} (I : L2.Inv X pins σ H s) (hD : H D = some (SKO X.prog X.w D ks)) (room : ks.length + 1 < scanBound) (r : RelV (.str z) v)
    (h : ∀ ks' s', ks'.Perm (if z ∈ ks then ks else z :: ks) → L2.Inv X pins σ (upd H D (SKO X.prog X.w D ks')) s' → Q .none s') : wpAny (model X.prog X.w) X.A (call (.builtin "set.add") [.ref D, v]) Q E s := by
  obtain ⟨t, rfl⟩ := r
  refine set_add1 (sko_get I hD) room fun h' t' ks' p sb new => ?_
  have there : ∃ u, h'.get? D = some u := by
    have ⟨o, _, _, _, ho, _⟩ := new
    exact ⟨o, ho⟩
  exact h ks' _ p (I.write (e := D) (t' := t') (by rw [hD]; trivial) (.inl rfl) (fun b u hb hu => (sb.2 b hb).trans hu) there (sko_ok new))
end
/-- an expression that makes a set of texts, tracked -/
structure PSk (X : Cx) (e : Expr) (t : Sl → Hp → (Addr → List Str → Hp → Prop) → Prop) : Prop where
  run : ∀ (pins : List (Addr × Obj)) (s : Shared) (σ : Sl) (H : Hp) (Q : Addr → List Str → Hp → Prop), L2.Inv X pins σ H s → t σ H Q →
    wpAny (model X.prog X.w) X.A (eval e X.env) (fun v s' => ∃ a ks H', v = Value.ref a ∧ H' a = some (SKO X.prog X.w a ks) ∧ L2.Inv X pins σ H' s' ∧ Q a ks H') X.xe s
abbrev setEnd (elt : Expr) (acc : Value) (env : PySem.Env) : Sem Unit := eval elt env >>= fun v => standAt elt.pos >>= fun _ => call (.builtin "set.add") [acc, v] >>= fun _ => pure ()
def setBelow (P : Program) (w : World) (D : Addr) (t : TE) : Below := fun σ H Nx => t σ H fun y H1 => ∃ z ks, y = .str z ∧ H1 D = some (SKO P w D ks) ∧ ks.length + 1 < scanBound ∧ ∀ ks', ks'.Perm (if z ∈ ks then ks else z :: ks) → Nx (upd H1 D (SKO P w D ks'))
section
variable {X : Cx} {s0 : Shared} {H0 : Hp} {scope : Scope} {ce : PySem.Env} {ex : List Addr} {elt : Expr} {D : Addr} {t : TE}
theorem body_set (pe : PE (X.blk s0 H0 scope ce ex) elt t) : BodyOk (X.blk s0 H0 scope ce ex) [] (setEnd elt (.ref D) ce) (setBelow X.prog X.w D t) := by
  intro pins s σ H Nx I h
  refine wpAny_bind (thnF (pe.run pins s σ H _ I h) fun v s1 ⟨y, H1, I1, r1, z, ks, ey, hD, room, nx⟩ => wpAny_bind (wpAny_standAt (wpAny_bind ?_)))
  subst ey
  exact sko_add (X := X.blk s0 H0 scope ce ex) I1 hD room r1 fun ks' s2 p I2 => wpAny_pure ⟨_, I2, nx ks' p⟩
end
section
variable {X : Cx} {elt tg iter : Expr} {ifs : List Expr} {rest : List Comprehension} {scope : Scope} {own : List (Str × Nat)} {pos : Pos} {wi : TI} {g : TG} {tt : TT} {vs' : List Nat}
/-- the meaning of a set comprehension -/
def tScG (P : Program) (w : World) (c : Cl) (below : Addr → Below) : Sl → Hp → (Addr → List Str → Hp → Prop) → Prop := fun σ H Q => c.wi σ H fun J H1 => ∀ D, H1 D = none → ClW c (below D) σ J (upd H1 D (SKO P w D [])) fun H' => ∃ ks, H' D = some (SKO P w D ks) ∧ Q D ks H'
theorem psk_sc {body : Addr → PySem.Env → Sem Unit} {below : Addr → Below} (hc : X.calm = true) (hN : X.N.Nodup) (hi : PI X tg iter wi) (ok : BlkOk X.N X.env.scope scope own)
    (hT : ∀ (D : Addr) (ce : PySem.Env), TurnIs (.SetComp elt (⟨tg, iter, ifs, 0⟩ :: rest) scope pos) 0 tg iter ifs ce (.ref D) (body D ce))
    (hg : ∀ (s : Shared) (Hb : Hp) (C : Addr) (cl : List (Str × Addr)) (fp : List Addr), PG (X.blk s Hb scope (compEnvC scope cl C X.env) fp) tg g)
    (ht : ∀ (s : Shared) (Hb : Hp) (C : Addr) (cl : List (Str × Addr)) (fp : List Addr), PTs (X.blk s Hb scope (compEnvC scope cl C X.env) fp) ifs tt)
    (hb : ∀ (D : Addr) (s : Shared) (Hb : Hp) (C : Addr) (cl : List (Str × Addr)) (fp : List Addr), BodyOk (X.blk s Hb scope (compEnvC scope cl C X.env) fp) vs' (body D (compEnvC scope cl C X.env)) (below D)) (hv : ∀ i ∈ vs', i ∈ own.map (·.2))
    (hs : ∀ x, foldedSetIterable iter X.env x = pure x) : PSk X (.SetComp elt (⟨tg, iter, ifs, 0⟩ :: rest) scope pos) (tScG X.prog X.w ⟨wi, g, tt, own.map (·.2)⟩ below) := ⟨fun pins s σ H Q I h => by
  have hfree : ∀ y ∈ scope.names, y.2 = .free → ∃ c, X.env.cells.lookup y.1 = some c := fun y hy z => (ok.free y hy z).elim (fun k => I.ok.has _ (.inl k)) fun k => I.ok.has _ (.inr k)
  show wpAny _ _ (comprehension (.SetComp elt (⟨tg, iter, ifs, 0⟩ :: rest) scope pos) scope X.env (firstIterPos (⟨tg, iter, ifs, 0⟩ :: rest) pos) (newSet (.type "set")) (firstAsync (⟨tg, iter, ifs, 0⟩ :: rest)) (firstIter (⟨tg, iter, ifs, 0⟩ :: rest) X.env)) _ _ s
  refine wpAny_comprehension_free (use := none) rfl hs (closure_ok hfree) ok.kind (fun y hy z => by rw [ok.uniq y hy, z]) (thn (hi.run pins s σ H _ I h) fun xv s1 hx => thn hx fun itv s2 h2 => ?_)
  obtain ⟨it, fp, tn, J, H2, e, I2, T, st2, f2, q⟩ := h2
  subst e
  refine PpSet.newSet_ok (newEnv_comp ?_)
  generalize hD : s2.heap.objs.size = D
  have hDn : H2 D = none := I2.hok.fresh (Nat.le_of_eq hD)
  have q := q D hDn
  generalize hs3 : ({ s2 with heap := s2.heap.push ({ cls := .type "set", dict := none, data := .set #[] 0 (.fresh 0 0 (!X.w.params.followText "set-order")) } : Obj) } : Shared) = s3
  have h3 : s3.heap = s2.heap.push (fSet X.w) := by rw [← hs3] <;> rfl
  have I3 : L2.Inv X pins σ (upd H2 D (SKO X.prog X.w D [])) s3 := by
    rw [← hs3]
    refine I2.laid (t' := s2.toks) (fun b o z => Heap.get?_push_of_some _ z) (Nat.le_of_eq hD) (sko_ok (sk_fresh ?_))
    rw [← hD]
    exact Heap.get?_push_size _ rfl
  have sz : ∀ b ∈ fp, b < s2.heap.objs.size := fun b hb => by
    obtain ⟨o, z, _⟩ := T.obj _ _ st2 b hb
    exact Heap.lt_size z
  generalize hH3 : upd H2 D (SKO X.prog X.w D []) = H3 at I3 q
  have f3 : ∀ b ∈ fp, FpOk X pins H3 b ∧ b < s3.heap.objs.size := fun b hb => by
    have hlt := sz b hb
    refine ⟨⟨?_, (f2 b hb).2⟩, by rw [h3, Heap.size_push]; exact Nat.lt_succ_of_lt hlt⟩
    rw [← hH3, upd_ne (by rw [← hD]; exact Nat.ne_of_lt hlt)]
    exact (f2 b hb).1
  have st3 : tn 0 s3.heap := T.keep _ _ _ st2 fun b _ o z => by rw [h3]; exact Heap.get?_push_of_some _ z
  have I4 := block_start I3 ok hN f3
  have pg := hg s3 H3 s3.heap.objs.size (cellsFrom (s3.heap.objs.size + 1) scope.names (cloFrom X.env.cells scope.names [])) fp
  have pt := ht s3 H3 s3.heap.objs.size (cellsFrom (s3.heap.objs.size + 1) scope.names (cloFrom X.env.cells scope.names [])) fp
  have pb := hb D s3 H3 s3.heap.objs.size (cellsFrom (s3.heap.objs.size + 1) scope.names (cloFrom X.env.cells scope.names [])) fp
  show codeAny _ _ (.compStart (.SetComp elt (⟨tg, iter, ifs, 0⟩ :: rest) scope pos) 0 (.ref it) (.ref D) (compEnvC scope (cellsFrom (s3.heap.objs.size + 1) scope.names (cloFrom X.env.cells scope.names [])) s3.heap.objs.size X.env)) (compPost (model X.prog X.w) X.A X.xe none _ (.ref D) s3.heap.objs.size) { s3 with heap := pushCells (s3.heap.push { cls := .type "dict", data := .dict #[] }) scope.names }
  generalize hce : compEnvC scope (cellsFrom (s3.heap.objs.size + 1) scope.names (cloFrom X.env.cells scope.names [])) s3.heap.objs.size X.env = ce at I4 pg pt pb ⊢
  have cL : ce.locals = s3.heap.objs.size := by subst hce; rfl
  generalize hs4 : ({ s3 with heap := pushCells (s3.heap.push { cls := .type "dict", data := .dict #[] }) scope.names } : Shared) = s4 at I4 ⊢
  have st4 : tn 0 s4.heap := T.keep _ _ _ st3 fun b _ o z => by rw [← hs4]; exact pushCells_keeps _ _ _ _ (Heap.get?_push_of_some _ z)
  have f4 : ∀ b ∈ fp, FpOk (X.blk s3 H3 scope ce fp) [] H3 b := fun b hb =>
    ⟨(f3 b hb).1.1, (I4.ok.exf b hb).1, I4.ok.exfs b hb, .inl hb, fun x c z => (I4.ok.exf b hb).2 x c z, fun p hp => absurd (show p ∈ ([] : List (Addr × Obj)) ++ [] from hp) (by simp)⟩
  have lp := loop_ok (σ := σ) (c := ⟨wi, g, tt, own.map (·.2)⟩) plainC_set hc (hT D ce) pg pt pb hv I4 T st4 f4 q
  have lp2 : codeAny (model X.prog X.w) X.A (.compLoop (.SetComp elt (⟨tg, iter, ifs, 0⟩ :: rest) scope pos) 0 (.ref it) (.ref D) ce) (compPost (model X.prog X.w) X.A X.xe none (fun v s' => ∃ a ks H', v = Value.ref a ∧ H' a = some (SKO X.prog X.w a ks) ∧ L2.Inv X pins σ H' s' ∧ Q a ks H') (.ref D) s3.heap.objs.size) s4 := by
    refine codeAny_mono lp fun r s6 hr => ?_
    cases r with
    | error x => exact hr.elim
    | ok fl =>
      obtain ⟨e2, H5, I6, ks, hk, qq⟩ := hr
      subst e2
      have I7 : L2.Inv X pins σ H5 s6 := I3.call' (ch := fp) I6.os I6.base I6.hok I6.bare fun b hb => ⟨(f3 b hb).1.2.2.2.1, (f3 b hb).1.2.1, (f3 b hb).1.2.2.2.2.1, (f3 b hb).1.2.2.2.2.2⟩
      have nC : H5 s3.heap.objs.size = none := by
        have z : H5 ce.locals = none := I6.free
        rw [cL] at z
        exact z
      obtain ⟨m, hn, _⟩ := I6.loc
      have hn : s6.heap.Ns ce.locals m := hn
      rw [cL] at hn
      obtain ⟨f0, f1, f2, f3, f4, f5⟩ := I3.fpOk (Nat.le_refl _) nC
      exact ⟨m, hn, fun h2 sb => ⟨D, ks, H5, rfl, hk, I7.turned (t' := s6.toks) (fun b o hb z => (sb.2 b hb).trans z) f0 f1 f3 f4 f5, qq⟩⟩
  exact start_any (g := ⟨tg, iter, ifs, 0⟩) plainC_set rfl rfl lp2 (T.self X.A 0 _ _ _ st4 lp2)⟩
end
end DL
end
section
set_option maxRecDepth 100000
set_option maxHeartbeats 4000000
/-! The functional layer: comprehensions of any number of clauses, by data. -/
namespace DL
open PySem PySem.Spec PyProof.Rows L2 PySem.W
/-- a clause: its slots, its target, its test -/
structure FC where
  vs : List Nat
  t : D → Env → Option Env
  tst : M Bool
def cLoop (c : FC) (b : M (List D)) : List D → M (List D)
  | [] => fun ρ => .ok [] ρ
  | x :: xs => fun ρ => match c.t x ρ with
    | none => .bad
    | some ρ1 => (c.tst ρ1).bindN fun k ρ2 => if k = true then (b ρ2).bindN fun ys ρ3 => (cLoop c b xs (wipeE ρ3 c.vs)).bindN fun zs ρ4 => .ok (ys ++ zs) ρ4 else cLoop c b xs (wipeE ρ2 c.vs)
def cIn (c : FC) (it : M (List D)) (b : M (List D)) : M (List D) := fun ρ => (it ρ).bindN fun xs ρ1 => cLoop c b xs (wipeE ρ1 c.vs)
def cEnd (e : M D) : M (List D) := fun ρ => (e ρ).bindN fun y ρ1 => .ok [y] ρ1
def mLcN (c : FC) (it : M (List D)) (b : M (List D)) : M (List D) := fun ρ => (it ρ).bind fun xs ρ1 => if dataAt ρ1 c.vs = true then (cLoop c b xs (wipeE ρ1 c.vs)).bindN fun ys ρ2 => .ok ys (backE ρ1 c.vs ρ2) else .bad
theorem bindN_inv {α β : Type} {r : Res α} {k : α → Env → Res β} {y : β} {ρ' : Env} (h : r.bindN k = .ok y ρ') : ∃ x ρ, r = .ok x ρ ∧ k x ρ = .ok y ρ' := by
  cases r with
  | ok x ρ => exact ⟨x, ρ, rfl, h⟩
  | ex _ _ => cases h
  | bad => cases h
theorem post_ok {α : Type} {r : Res α} {P : α → Env → Prop} (h : r.post P fun _ _ => False) : ∃ x ρ, r = .ok x ρ ∧ P x ρ := by
  cases r with
  | ok x ρ => exact ⟨x, ρ, rfl, h⟩
  | ex _ _ => exact h.elim
  | bad => exact h.elim
theorem cLoop_inv {c : FC} {b : M (List D)} {x : D} {xs ys : List D} {ρ ρ' : Env} (h : cLoop c b (x :: xs) ρ = .ok ys ρ') : ∃ ρ1 k ρ2, c.t x ρ = some ρ1 ∧ c.tst ρ1 = .ok k ρ2 ∧
    ((k = true ∧ ∃ us ρ3 zs, b ρ2 = .ok us ρ3 ∧ cLoop c b xs (wipeE ρ3 c.vs) = .ok zs ρ' ∧ ys = us ++ zs) ∨ (k = false ∧ cLoop c b xs (wipeE ρ2 c.vs) = .ok ys ρ')) := by
  have h : (match c.t x ρ with
    | none => Res.bad
    | some ρ1 => (c.tst ρ1).bindN fun k ρ2 => if k = true then (b ρ2).bindN fun us ρ3 => (cLoop c b xs (wipeE ρ3 c.vs)).bindN fun zs ρ4 => .ok (us ++ zs) ρ4 else cLoop c b xs (wipeE ρ2 c.vs)) = .ok ys ρ' := h
  cases e : c.t x ρ with
  | none => rw [e] at h; cases h
  | some ρ1 =>
    rw [e] at h
    obtain ⟨k, ρ2, e2, h2⟩ := bindN_inv h
    refine ⟨ρ1, k, ρ2, rfl, e2, ?_⟩
    cases k with
    | false => exact .inr ⟨rfl, h2⟩
    | true =>
      obtain ⟨us, ρ3, e3, h3⟩ := bindN_inv h2
      obtain ⟨zs, ρ4, e4, h4⟩ := bindN_inv h3
      cases h4
      exact .inl ⟨rfl, us, ρ3, zs, e3, e4, rfl⟩
/-! ### entries of blocks -/
section
variable {K : Frag} {c : Ct} {F H F' H' F0 H0 : Hp} {σ σ' σ0 : Sl} {ρ ρ' : Env} {O O' O0 : List Addr} {fb fb2 : List Nat} {D0 : Addr}
/-- entered anew, a thing D0 beside -/
theorem EnvR.reb (e : EnvR K (c.blk fb F0 H0 O0 σ0) F H σ ρ O) (fb2 : List Nat) : EnvR K (c.blk fb2 F H (D0 :: O) σ) F H σ ρ O :=
  ⟨e.sub, Same.refl _, fun b o q _ => q, fun b _ _ q => q, e.sl, e.nd, fun p hp => ⟨(e.ow p hp).1, .inl (List.mem_cons_of_mem _ hp)⟩, fun i _ => rfl⟩
theorem EnvR.outb (a : EnvR K (c.blk fb F0 H0 O0 σ0) F H σ ρ O) (hD : D0 ∈ O0) (b : EnvR K (c.blk fb2 F H (D0 :: O) σ) F' H' σ' ρ' O') (hf : ∀ i ∈ fb, i ∈ fb2) : EnvR K (c.blk fb F0 H0 O0 σ0) F' H' σ' ρ' O' where
  sub := b.sub
  f0 := a.f0.trans b.f0
  h0 := fun x o q h => b.h0 x o (a.h0 x o q h) fun z => by
    rcases List.mem_cons.mp z with z | z
    · exact h (by rw [z]; exact hD)
    · rcases (a.ow x z).2 with w | w
      · exact h w
      · rw [w] at q; cases q
  n0 := fun x h1 h2 h3 => by
    have h1 : H0 x ≠ none := h1
    cases q : H0 x with
    | none => exact absurd q h1
    | some o =>
      refine b.n0 x (fun z => ?_) (fun z => ?_) (a.n0 x h1 h2 h3)
      · have z : H x = none := z
        rw [a.h0 x o q h2] at z; cases z
      · rcases List.mem_cons.mp z with z | z
        · exact h2 (by rw [z]; exact hD)
        · rcases (a.ow x z).2 with w | w
          · exact h2 w
          · exact h1 w
  sl := b.sl
  nd := b.nd
  ow := fun p hp => ⟨(b.ow p hp).1, by
    have back : p ∈ O ∨ H p = none → p ∈ O0 ∨ H0 p = none := fun z => by
      rcases z with z | z
      · exact (a.ow p z).2
      · by_cases hc : p ∈ O0
        · exact .inl hc
        · refine .inr ?_
          cases q : H0 p with
          | none => rfl
          | some o => rw [a.h0 p o q hc] at z; cases z
    rcases (b.ow p hp).2 with z | z
    · rcases List.mem_cons.mp z with z | z
      · exact .inl (by rw [z]; exact hD)
      · exact back (.inl z)
    · exact back (.inr z)⟩
  fx := fun i hi => (b.fx i (hf i hi)).trans (a.fx i hi)
end
/-! ### what is gathered -/
/-- at D0 stands what has been gathered so far -/
structure Gath (Hd : Hp → HO → List D → Prop) (F H : Hp) (D0 : Addr) (O : List Addr) (acc : List D) : Prop where
  at_ : ∃ o, H D0 = some o ∧ Hd F o acc
  nf : F D0 = none
  no : D0 ∉ O
section
variable {K : Frag} {c : Ct} {Hd : Hp → HO → List D → Prop} {F H F' H' F0 H0 : Hp} {D0 : Addr} {O O' O0 : List Addr} {σ σ' : Sl} {ρ' : Env} {acc : List D} {fb : List Nat}
theorem Gath.step (hm : ∀ F F' o acc, Same F F' → Hd F o acc → Hd F' o acc) (g : Gath Hd F H D0 O acc) (e : EnvR K (c.blk fb F H O σ) F' H' σ' ρ' O') : Gath Hd F' H' D0 O' acc := by
  obtain ⟨o, h1, h2⟩ := g.at_
  refine ⟨⟨o, e.h0 _ _ h1 g.no, hm _ _ _ _ e.f0 h2⟩, e.n0 D0 (fun z => by have z : H D0 = none := z; rw [h1] at z; cases z) g.no g.nf, fun k => ?_⟩
  rcases (e.ow D0 k).2 with z | z
  · exact g.no z
  · have z : H D0 = none := z
    rw [h1] at z; cases z
theorem Gath.new (hm : ∀ F F' o acc, Same F F' → Hd F o acc → Hd F' o acc) (g : Gath Hd F H D0 O acc) (n : New F H F' H') : Gath Hd F' H' D0 O acc := by
  obtain ⟨o, h1, h2⟩ := g.at_
  exact ⟨⟨o, n.hH _ _ h1, hm _ _ _ _ n.fF h2⟩, n.nw D0 (fun z => by rw [h1] at z; cases z) g.nf, g.no⟩
end
def FBel (K : Frag) (c : Ct) (Hd : Hp → HO → List D → Prop) (cap : Nat) (pu : Bool) (Hs : Hp) (D0 : Addr) (n : Nat) (fb vsA : List Nat) (b : M (List D)) : Below := fun σ H Nx =>
  ∃ F0 H0 O0 σ0 F ρ O acc ys ρ', EnvR K (c.blk fb F0 H0 O0 σ0) F H σ ρ O ∧ D0 ∈ O0 ∧ Gath Hd F H D0 O acc ∧ (pu = true → Same Hs H) ∧ σ.length = n ∧ b ρ = .ok ys ρ' ∧ acc.length + ys.length ≤ cap ∧
    ∀ F' H' O', EnvR K (c.blk fb F0 H0 O0 σ0) F' H' (L2.wipe σ vsA) ρ' O' → Gath Hd F' H' D0 O' (acc ++ ys) → (pu = true → Same Hs H') → Nx H'
def tiE (K : Frag) (c : Ct) (fb : List Nat) (pu : Bool) (m : M (List D)) : TI := fun σ H R => ∃ F0 H0 O0 σ0, ti K (c.blk fb F0 H0 O0 σ0) pu m σ H R
section
variable {K : Frag} {c : Ct} {Hd : Hp → HO → List D → Prop} {cap : Nat} {pt pu : Bool} {Hs : Hp} {D0 : Addr} {n : Nat} {fb fb2 vs2 : List Nat} {b : M (List D)} {cl : FC}
/-- the loop of a clause -/
theorem loop_step (hm : ∀ F F' o acc, Same F F' → Hd F o acc → Hd F' o acc) (hvf : (cl.vs.all fun i => fb.all fun j => j != i) = true) (hall : ((List.range n).all fun i => cl.vs.contains i || fb.contains i) = true) (hf : ∀ i ∈ fb, i ∈ fb2) (hp : pu = true → pt = true)
    {F H F0 H0 : Hp} {O O0 : List Addr} {σ σ0 : Sl} {ρ ρ' : Env} {acc xs ys : List D} {J : It} {Nx : Hp → Prop} {wi : TI} (hn : σ.length = n) (e : EnvR K (c.blk fb F0 H0 O0 σ0) F H (L2.wipe σ cl.vs) ρ O) (hD : D0 ∈ O0) (g : Gath Hd F H D0 O acc) (pur : pu = true → Same Hs H) (it : ItD K F J xs)
    (hgo : cLoop cl b xs ρ = .ok ys ρ') (hcap : acc.length + ys.length ≤ cap) (fin : ∀ F' H' O', EnvR K (c.blk fb F0 H0 O0 σ0) F' H' (L2.wipe σ cl.vs) ρ' O' → Gath Hd F' H' D0 O' (acc ++ ys) → (pu = true → Same Hs H') → Nx H') :
    ClW ⟨wi, tgB K c fb cl.t, ttE K c fb pt cl.tst, cl.vs⟩ (FBel K c Hd cap pu Hs D0 n fb2 vs2 b) σ J H Nx := by
  refine ⟨fun i m H' => m = xs.length - i ∧ i ≤ xs.length ∧ ∃ F2 ρ2 O2 acc' zs, Same F F2 ∧ EnvR K (c.blk fb F0 H0 O0 σ0) F2 H' (L2.wipe σ cl.vs) ρ2 O2 ∧ Gath Hd F2 H' D0 O2 acc' ∧ (pu = true → Same Hs H') ∧ cLoop cl b (xs.drop i) ρ2 = .ok zs ρ' ∧ acc' ++ zs = acc ++ ys,
    ⟨xs.length, by simp, Nat.zero_le _, F, ρ, O, acc, ys, Same.refl _, e, g, pur, hgo, rfl⟩, ?_⟩
  rintro i m H2 ⟨rfl, hil, F2, ρ2, O2, acc', zs, s2, e2, g2, pur2, go2, eq2⟩
  have back : ∀ {F3 H3 : Hp} {σ3 : Sl} {ρ3 : Env} {O3 : List Addr}, EnvR K (c.blk fb F0 H0 O0 σ0) F3 H3 σ3 ρ3 O3 → σ3.length = n → L2.wipe σ3 cl.vs = L2.wipe σ cl.vs := fun {F3 H3 σ3 ρ3 O3} e3 l3 =>
    wipe_eq hn (by rw [l3, wipe_length, hn]) hall fun j hj => (e3.fx j hj).trans (e2.fx j hj).symm
  by_cases hlt : i < xs.length
  · rw [List.drop_eq_getElem_cons hlt] at go2
    obtain ⟨ρ3, k, ρ4, ht, htst, hk⟩ := cLoop_inv go2
    refine .inr ⟨it.go F2 H2 s2 e2.sub i hlt, fun H3 => ∃ F3 ρ3 O3 acc3 zs3, Same F F3 ∧ EnvR K (c.blk fb F0 H0 O0 σ0) F3 H3 (L2.wipe σ cl.vs) ρ3 O3 ∧ Gath Hd F3 H3 D0 O3 acc3 ∧ (pu = true → Same Hs H3) ∧ cLoop cl b (xs.drop (i + 1)) ρ3 = .ok zs3 ρ' ∧ acc3 ++ zs3 = acc ++ ys,
      fun H3 ⟨F3, ρ3, O3, acc3, zs3, q⟩ => ⟨xs.length - (i + 1), by omega, rfl, hlt, F3, ρ3, O3, acc3, zs3, q⟩, fun x H3 y => ?_⟩
    obtain ⟨F3, dx, n3, hd, r3⟩ := it.yl F2 H2 s2 e2.sub i x H3 hlt y
    rw [List.getElem?_eq_getElem hlt] at hd
    cases hd
    have e3 := e2.new n3
    have g3 := g2.new hm n3
    refine ⟨F3, H3, O2, L2.wipe σ cl.vs, F3, ρ2, O2, _, ρ3, e3.self, r3, ht, fun σ4 F4 H4 O4 n4 e4 l4 => ?_⟩
    have a4 := e3.trans e4
    have g4 := g3.step hm (c := c) (fb := fb) e4
    have hl4 : σ4.length = n := by rw [l4, wipe_length, hn]
    refine ⟨back a4 hl4, F4, H4, O4, σ4, F4, ρ3, O4, a4.self, ?_⟩
    rw [htst]
    intro F5 H5 O5 e5 s5 p5
    have a5 := a4.trans e5
    have g5 := g4.step hm (c := c) (fb := fb) e5
    have pur5 : pu = true → Same Hs H5 := fun q => (((pur2 q).trans n3.hH).trans n4.hH).trans (p5 (hp q))
    have s5' : Same F F5 := ((s2.trans n3.fF).trans n4.fF).trans s5
    rcases hk with ⟨rfl, us, ρ5, zs', hb, hgo', rfl⟩ | ⟨rfl, hgo'⟩
    · rw [if_pos rfl]
      have hcap' : acc'.length + us.length ≤ cap := by
        have := congrArg List.length eq2
        rw [List.length_append, List.length_append, List.length_append] at this
        omega
      refine ⟨F5, H5, D0 :: O5, σ4, F5, ρ4, O5, acc', us, ρ5, a5.reb fb2, List.mem_cons_self, g5, pur5, hl4, hb, hcap', fun F6 H6 O6 e6 g6 pur6 => ?_⟩
      have a6 := a5.outb hD e6 hf
      obtain ⟨R6, w6, hR6⟩ := a6.wipe (vs := cl.vs) hvf
      rw [back a6 (by rw [wipe_length, hl4])] at w6
      exact ⟨F6, _, R6, _, zs', s5'.trans e6.f0, w6, ⟨g6.at_, g6.nf, fun z => g6.no (hR6 _ z)⟩, pur6, hgo', by rw [← eq2, List.append_assoc]⟩
    · rw [if_neg Bool.false_ne_true]
      obtain ⟨R5, w5, hR5⟩ := a5.wipe (vs := cl.vs) hvf
      rw [back a5 hl4] at w5
      exact ⟨F5, _, R5, acc', zs, s5', w5, ⟨g5.at_, g5.nf, fun z => g5.no (hR5 _ z)⟩, pur5, hgo', eq2⟩
  · have ei : i = xs.length := by omega
    subst ei
    rw [List.drop_length] at go2
    cases go2
    rw [List.append_nil] at eq2
    rw [eq2] at g2
    exact .inl ⟨it.st F2 H2 s2 e2.sub _ (Nat.le_refl _), fin F2 H2 O2 e2 g2 pur2⟩
/-- a further clause -/
theorem in_step (hm : ∀ F F' o acc, Same F F' → Hd F o acc → Hd F' o acc) {fb1 : List Nat} {it : M (List D)} {pi : Bool} (hvf : (cl.vs.all fun i => fb1.all fun j => j != i) = true) (hall : ((List.range n).all fun i => cl.vs.contains i || fb1.contains i) = true) (hf0 : ∀ i ∈ fb, i ∈ fb1) (hf : ∀ i ∈ fb1, i ∈ fb2) (hp : pu = true → pt = true) (hpi : pu = true → pi = true)
    {σ : Sl} {H : Hp} {Nx : Hp → Prop} (h : FBel K c Hd cap pu Hs D0 n fb cl.vs (cIn cl it b) σ H Nx) :
    ClIn ⟨tiE K c fb pi it, tgB K c fb1 cl.t, ttE K c fb1 pt cl.tst, cl.vs⟩ (FBel K c Hd cap pu Hs D0 n fb2 vs2 b) σ H Nx := by
  obtain ⟨F0, H0, O0, σ0, F, ρ, O, acc, ys, ρ', e, hD, g, pur, hn, hb, hcap, fin⟩ := h
  obtain ⟨xs, ρ1, h1, h2⟩ := bindN_inv hb
  refine ⟨F, H, O, σ, F, ρ, O, e.self, ?_⟩
  rw [h1]
  intro F1 H1 O1 J e1 s1 p1 itd
  have a1 := e.trans e1
  have g1 := g.step hm (c := c) (fb := fb) e1
  have b1 := a1.reb (D0 := D0) fb1
  obtain ⟨R, w1, hR⟩ := b1.wipe (vs := cl.vs) hvf
  refine loop_step hm hvf hall hf hp hn w1 List.mem_cons_self ⟨g1.at_, g1.nf, fun z => g1.no (hR _ z)⟩ (fun q => (pur q).trans (p1 (hpi q))) itd h2 hcap fun F' H' O' e' g' pur' => fin F' H' O' (a1.outb hD e' hf0) g' pur'
end
end DL
end
section
set_option maxRecDepth 100000
set_option maxHeartbeats 4000000
/-! The functional layer: list and set comprehensions of any number of clauses, as expressions. -/
namespace DL
open PySem PySem.Spec PyProof.Rows L2 PySem.W
/-! ### lists, the machine's part -/
abbrev lstEnd (elt : Expr) (acc : Value) (env : PySem.Env) : Sem Unit := eval elt env >>= fun v => call (.builtin "list.append") [acc, v] >>= fun _ => pure ()
def lstBelow (D : Addr) (t : TE) : Below := fun σ H Nx => t σ H fun y H1 => ∃ acc, H1 D = some (.lst acc) ∧ acc.length < sizeLine ∧ Nx (upd H1 D (.lst (acc ++ [y])))
section
variable {X : Cx} {s0 : Shared} {H0 : Hp} {scope : Scope} {ce : PySem.Env} {ex : List Addr} {elt : Expr} {D : Addr} {t : TE}
theorem body_lst (pe : PE (X.blk s0 H0 scope ce ex) elt t) : BodyOk (X.blk s0 H0 scope ce ex) [] (lstEnd elt (.ref D) ce) (lstBelow D t) := by
  intro pins s σ H Nx I h
  refine wpAny_bind (thnF (pe.run pins s σ H _ I h) fun v s1 ⟨y, H1, I1, r1, acc, hD, room, nx⟩ => wpAny_bind ?_)
  exact app_ok (X := X.blk s0 H0 scope ce ex) I1 hD room r1 fun s2 I2 => wpAny_pure ⟨_, I2, nx⟩
end
section
variable {X : Cx} {elt tg iter : Expr} {ifs : List Expr} {rest : List Comprehension} {scope : Scope} {own : List (Str × Nat)} {pos : Pos} {wi : TI} {g : TG} {tt : TT} {vs' : List Nat}
def tLcG (c : Cl) (below : Addr → Below) : TE := fun σ H Q => c.wi σ H fun J H1 => ∀ D, H1 D = none → ClW c (below D) σ J (upd H1 D (.lst [])) fun H' => Q (.ref D) H'
theorem pe_lcG {body : Addr → PySem.Env → Sem Unit} {below : Addr → Below} (hc : X.calm = true) (hN : X.N.Nodup) (hi : PI X tg iter wi) (ok : BlkOk X.N X.env.scope scope own)
    (hT : ∀ (D : Addr) (ce : PySem.Env), TurnIs (.ListComp elt (⟨tg, iter, ifs, 0⟩ :: rest) scope pos) 0 tg iter ifs ce (.ref D) (body D ce))
    (hg : ∀ (s : Shared) (Hb : Hp) (C : Addr) (cl : List (Str × Addr)) (fp : List Addr), PG (X.blk s Hb scope (compEnvC scope cl C X.env) fp) tg g)
    (ht : ∀ (s : Shared) (Hb : Hp) (C : Addr) (cl : List (Str × Addr)) (fp : List Addr), PTs (X.blk s Hb scope (compEnvC scope cl C X.env) fp) ifs tt)
    (hb : ∀ (D : Addr) (s : Shared) (Hb : Hp) (C : Addr) (cl : List (Str × Addr)) (fp : List Addr), BodyOk (X.blk s Hb scope (compEnvC scope cl C X.env) fp) vs' (body D (compEnvC scope cl C X.env)) (below D)) (hv : ∀ i ∈ vs', i ∈ own.map (·.2))
    (hs : ∀ x, foldedSetIterable iter X.env x = pure x) : PE X (.ListComp elt (⟨tg, iter, ifs, 0⟩ :: rest) scope pos) (tLcG ⟨wi, g, tt, own.map (·.2)⟩ below) := ⟨fun pins s σ H Q I h => by
  have hfree : ∀ y ∈ scope.names, y.2 = .free → ∃ c, X.env.cells.lookup y.1 = some c := fun y hy z => (ok.free y hy z).elim (fun k => I.ok.has _ (.inl k)) fun k => I.ok.has _ (.inr k)
  show wpAny _ _ (comprehension (.ListComp elt (⟨tg, iter, ifs, 0⟩ :: rest) scope pos) scope X.env (firstIterPos (⟨tg, iter, ifs, 0⟩ :: rest) pos) (newList []) (firstAsync (⟨tg, iter, ifs, 0⟩ :: rest)) (firstIter (⟨tg, iter, ifs, 0⟩ :: rest) X.env)) _ _ s
  refine wpAny_comprehension_free (use := none) rfl hs (closure_ok hfree) ok.kind (fun y hy z => by rw [ok.uniq y hy, z]) (thn (hi.run pins s σ H _ I h) fun xv s1 hx => thn hx fun itv s2 h2 => ?_)
  obtain ⟨it, fp, tn, J, H2, e, I2, T, st2, f2, q⟩ := h2
  subst e
  refine wpAny_newObj_type (newEnv_comp ?_) (by show 0 ≤ sizeLine; decide)
  generalize hD : s2.heap.objs.size = D
  have hDn : H2 D = none := I2.hok.fresh (Nat.le_of_eq hD)
  have q := q D hDn
  generalize hs3 : ({ s2 with heap := s2.heap.push ({ cls := .type "list", data := .seq ([] : List Value).toArray } : Obj) } : Shared) = s3
  have h3 : s3.heap = s2.heap.push { cls := .type "list", data := .seq ([] : List Value).toArray } := by rw [← hs3] <;> rfl
  have I3 : L2.Inv X pins σ (upd H2 D (.lst [])) s3 := by
    rw [← hs3]
    refine I2.laid (t' := s2.toks) (fun b o z => Heap.get?_push_of_some _ z) (Nat.le_of_eq hD) ⟨Nat.zero_le _, [], 0, .nil, ?_⟩
    rw [← hD]
    exact Heap.get?_push_size _ rfl
  have sz : ∀ b ∈ fp, b < s2.heap.objs.size := fun b hb => by
    obtain ⟨o, z, _⟩ := T.obj _ _ st2 b hb
    exact Heap.lt_size z
  generalize hH3 : upd H2 D (.lst []) = H3 at I3 q
  have f3 : ∀ b ∈ fp, FpOk X pins H3 b ∧ b < s3.heap.objs.size := fun b hb => by
    have hlt := sz b hb
    refine ⟨⟨?_, (f2 b hb).2⟩, by rw [h3, Heap.size_push]; exact Nat.lt_succ_of_lt hlt⟩
    rw [← hH3, upd_ne (by rw [← hD]; exact Nat.ne_of_lt hlt)]
    exact (f2 b hb).1
  have st3 : tn 0 s3.heap := T.keep _ _ _ st2 fun b _ o z => by rw [h3]; exact Heap.get?_push_of_some _ z
  have I4 := block_start I3 ok hN f3
  have pg := hg s3 H3 s3.heap.objs.size (cellsFrom (s3.heap.objs.size + 1) scope.names (cloFrom X.env.cells scope.names [])) fp
  have pt := ht s3 H3 s3.heap.objs.size (cellsFrom (s3.heap.objs.size + 1) scope.names (cloFrom X.env.cells scope.names [])) fp
  have pb := hb D s3 H3 s3.heap.objs.size (cellsFrom (s3.heap.objs.size + 1) scope.names (cloFrom X.env.cells scope.names [])) fp
  show codeAny _ _ (.compStart (.ListComp elt (⟨tg, iter, ifs, 0⟩ :: rest) scope pos) 0 (.ref it) (.ref D) (compEnvC scope (cellsFrom (s3.heap.objs.size + 1) scope.names (cloFrom X.env.cells scope.names [])) s3.heap.objs.size X.env)) (compPost (model X.prog X.w) X.A X.xe none _ (.ref D) s3.heap.objs.size) { s3 with heap := pushCells (s3.heap.push { cls := .type "dict", data := .dict #[] }) scope.names }
  generalize hce : compEnvC scope (cellsFrom (s3.heap.objs.size + 1) scope.names (cloFrom X.env.cells scope.names [])) s3.heap.objs.size X.env = ce at I4 pg pt pb ⊢
  have cL : ce.locals = s3.heap.objs.size := by subst hce; rfl
  generalize hs4 : ({ s3 with heap := pushCells (s3.heap.push { cls := .type "dict", data := .dict #[] }) scope.names } : Shared) = s4 at I4 ⊢
  have st4 : tn 0 s4.heap := T.keep _ _ _ st3 fun b _ o z => by rw [← hs4]; exact pushCells_keeps _ _ _ _ (Heap.get?_push_of_some _ z)
  have f4 : ∀ b ∈ fp, FpOk (X.blk s3 H3 scope ce fp) [] H3 b := fun b hb =>
    ⟨(f3 b hb).1.1, (I4.ok.exf b hb).1, I4.ok.exfs b hb, .inl hb, fun x c z => (I4.ok.exf b hb).2 x c z, fun p hp => absurd (show p ∈ ([] : List (Addr × Obj)) ++ [] from hp) (by simp)⟩
  have lp := loop_ok (σ := σ) (c := ⟨wi, g, tt, own.map (·.2)⟩) plainC_list hc (hT D ce) pg pt pb hv I4 T st4 f4 q
  have lp2 : codeAny (model X.prog X.w) X.A (.compLoop (.ListComp elt (⟨tg, iter, ifs, 0⟩ :: rest) scope pos) 0 (.ref it) (.ref D) ce) (compPost (model X.prog X.w) X.A X.xe none (EP X pins σ Q) (.ref D) s3.heap.objs.size) s4 := by
    refine codeAny_mono lp fun r s6 hr => ?_
    cases r with
    | error x => exact hr.elim
    | ok fl =>
      obtain ⟨e2, H5, I6, qq⟩ := hr
      subst e2
      have I7 : L2.Inv X pins σ H5 s6 := I3.call' (ch := fp) I6.os I6.base I6.hok I6.bare fun b hb => ⟨(f3 b hb).1.2.2.2.1, (f3 b hb).1.2.1, (f3 b hb).1.2.2.2.2.1, (f3 b hb).1.2.2.2.2.2⟩
      have nC : H5 s3.heap.objs.size = none := by
        have z : H5 ce.locals = none := I6.free
        rw [cL] at z
        exact z
      obtain ⟨m, hn, _⟩ := I6.loc
      have hn : s6.heap.Ns ce.locals m := hn
      rw [cL] at hn
      obtain ⟨f0, f1, f2, f3, f4, f5⟩ := I3.fpOk (Nat.le_refl _) nC
      exact ⟨m, hn, fun h2 sb => ⟨.ref D, H5, I7.turned (t' := s6.toks) (fun b o hb z => (sb.2 b hb).trans z) f0 f1 f3 f4 f5, rfl, qq⟩⟩
  exact start_any (g := ⟨tg, iter, ifs, 0⟩) plainC_list rfl rfl lp2 (T.self X.A 0 _ _ _ st4 lp2)⟩
end
/-! ### by data -/
section
variable {K : Frag} {c : Ct} {F1 H1 F2 H' : Hp} {σ : Sl} {ρ1 ρ2 : Env} {O1 O2 R : List Addr} {vs fb : List Nat} {D0 : Addr} {o : HO}
/-- the block's entry -/
theorem blk_in (e1 : EnvR K c F1 H1 σ ρ1 O1) (hcf : (vs.all fun i => c.fx.all fun j => j != i) = true) (hD : H1 D0 = none) (o : HO) (fb : List Nat) : ∃ R, (∀ b ∈ R, b ∈ O1) ∧ D0 ∉ R ∧
    EnvR K (c.blk fb F1 (upd H1 D0 o) (D0 :: R) (L2.wipe σ vs)) F1 (upd H1 D0 o) (L2.wipe σ vs) (wipeE ρ1 vs) R := by
  obtain ⟨R, ew, hR⟩ := e1.wipe (vs := vs) hcf
  have ew := ew.new (New.own e1.sub hD o)
  exact ⟨R, hR, fun z => e1.sl.there D0 (hR D0 z) hD, ew.sub, Same.refl _, fun b o q _ => q, fun b _ _ q => q, ew.sl, ew.nd, fun p hp => ⟨(ew.ow p hp).1, .inl (List.mem_cons_of_mem _ hp)⟩, fun i _ => rfl⟩
/-- and its end -/
theorem blk_out (e1 : EnvR K c F1 H1 σ ρ1 O1) (hD : H1 D0 = none) (hR : ∀ b ∈ R, b ∈ O1) (e2 : EnvR K (c.blk fb F1 (upd H1 D0 o) (D0 :: R) (L2.wipe σ vs)) F2 H' (L2.wipe σ vs) ρ2 O2) (no : D0 ∉ O2) (hda : dataAt ρ1 vs = true) :
    ∃ O3, EnvR K c F2 H' σ (backE ρ1 vs ρ2) O3 ∧ D0 ∉ O3 ∧ (D0 ∈ c.O ∨ c.H D0 = none) := by
  have s2 : Same F1 F2 := e2.f0
  obtain ⟨O3, m1, m2, m3⟩ := slr_back (H := H') e1.sl s2 e2.sl hda
  have cD : D0 ∈ c.O ∨ c.H D0 = none := by
    by_cases hc : D0 ∈ c.O
    · exact .inl hc
    · refine .inr ?_
      cases q : c.H D0 with
      | none => rfl
      | some u => rw [e1.h0 D0 u q hc] at hD; cases hD
  have old : ∀ p, p ∈ R → p ∈ c.O ∨ c.H p = none := fun p hp => (e1.ow p (hR p hp)).2
  refine ⟨O3, ⟨e2.sub, e1.f0.trans s2, fun b u q hb => ?_, fun b q1 q2 q3 => ?_, m1, m3 e2.nd, fun p hp => ?_, e1.fx⟩, fun k => no (m2 _ k), cD⟩
  · have z := e1.h0 b u q hb
    have hbD : b ≠ D0 := fun k => by rw [k, hD] at z; cases z
    refine e2.h0 b u ?_ fun k => ?_
    · show upd H1 D0 _ b = _
      rw [upd_ne hbD]; exact z
    · rcases List.mem_cons.mp k with k | k
      · exact hbD k
      · rcases old b k with k2 | k2
        · exact hb k2
        · rw [q] at k2; cases k2
  · cases q : c.H b with
    | none => exact absurd q q1
    | some u =>
      have z := e1.h0 b u q q2
      have hbD : b ≠ D0 := fun k => by rw [k, hD] at z; cases z
      refine e2.n0 b (fun k => ?_) (fun k => ?_) (e1.n0 b q1 q2 q3)
      · have k : upd H1 D0 o b = none := k
        rw [upd_ne hbD, z] at k; cases k
      · rcases List.mem_cons.mp k with k | k
        · exact hbD k
        · rcases old b k with k2 | k2
          · exact q2 k2
          · exact q1 k2
  · have hp2 := m2 p hp
    refine ⟨(e2.ow p hp2).1, ?_⟩
    have hpD : p ≠ D0 := fun k => no (by rw [← k]; exact hp2)
    rcases (e2.ow p hp2).2 with k | k
    · rcases List.mem_cons.mp k with k | k
      · exact absurd k hpD
      · exact old p k
    · have k : upd H1 D0 o p = none := k
      rw [upd_ne hpD] at k
      by_cases hc : p ∈ c.O
      · exact .inl hc
      · refine .inr ?_
        cases q : c.H p with
        | none => rfl
        | some u => rw [e1.h0 p u q hc] at k; cases k
end
/-- a list gathered -/
def HdL (K : Frag) (F : Hp) (o : HO) (acc : List D) : Prop := ∃ a, o = .lst a ∧ RpAll K F a acc
theorem hdL_mono {K : Frag} : ∀ F F' o acc, Same F F' → HdL K F o acc → HdL K F' o acc := fun _ _ _ _ s ⟨a, e, r⟩ => ⟨a, e, r.mono s⟩
/-- a set of texts gathered -/
def HdS (P : Program) (w : World) (D0 : Addr) (_ : Hp) (o : HO) (acc : List D) : Prop := ∃ ks, o = SKO P w D0 ks ∧ ks.Nodup ∧ ks.length ≤ acc.length ∧ ∃ l, allStr acc = some l ∧ ∀ x, x ∈ ks ↔ x ∈ l
theorem hdS_mono {P : Program} {w : World} {D0 : Addr} : ∀ F F' o acc, Same F F' → HdS P w D0 F o acc → HdS P w D0 F' o acc := fun _ _ _ _ _ h => h
section
variable {X : Cx} {c : Ct} {pe pu : Bool} {me : M D} {fb : List Nat} {Hs : Hp} {D0 : Addr} {n : Nat}
/-- the thing at D0 set anew -/
theorem EnvR.setD {K : Frag} {F H F0 H0 : Hp} {O O0 : List Addr} {σ σ0 : Sl} {ρ : Env} {o : HO} (e : EnvR K (c.blk fb F0 H0 O0 σ0) F H σ ρ O) (hD : D0 ∈ O0) (nf : F D0 = none) (no : D0 ∉ O) : EnvR K (c.blk fb F0 H0 O0 σ0) F (upd H D0 o) σ ρ O := by
  refine ⟨fun b u q => ?_, e.f0, fun b u q hb => ?_, e.n0, e.sl.mono (Same.refl _) fun b hb => upd_ne fun z => no (by rw [← z]; exact hb), e.nd, e.ow, e.fx⟩
  · rw [upd_ne fun z => by rw [z, nf] at q; cases q]
    exact e.sub b u q
  · rw [upd_ne fun z => hb (by rw [z]; exact hD)]
    exact e.h0 b u q hb
theorem end_lst (hp : pu = true → pe = true) (hs : Hs D0 = none) {σ : Sl} {H : Hp} {Nx : Hp → Prop} (h : FBel X.K c (HdL X.K) sizeLine pu Hs D0 n fb [] (cEnd me) σ H Nx) : lstBelow D0 (teE X.K c fb pe me) σ H Nx := by
  obtain ⟨F0, H0, O0, σ0, F, ρ, O, acc, ys, ρ', e, hD, g, pur, hn, hb, hcap, fin⟩ := h
  obtain ⟨y, ρ1, h1, h2⟩ := bindN_inv hb
  cases h2
  refine ⟨F, H, O, σ, F, ρ, O, e.self, ?_⟩
  rw [h1]
  intro F2 H2 O2 v e2 s2 p2 r2
  have a2 := e.trans e2
  have g2 := g.step hdL_mono (c := c) (fb := fb) e2
  obtain ⟨o, q1, a, rfl, q2⟩ := g2.at_
  refine ⟨a, q1, by rw [q2.length]; simp at hcap; omega, ?_⟩
  refine fin F2 _ O2 (a2.setD hD g2.nf g2.no) ⟨⟨_, upd_same, _, rfl, q2.append (.one r2)⟩, g2.nf, g2.no⟩ fun q b u hb => ?_
  rw [upd_ne fun z => by rw [z, hs] at hb; cases hb]
  exact p2 (hp q) _ _ (pur q b u hb)
theorem allStr_app : ∀ {a b : List D} {l m : List Str}, allStr a = some l → allStr b = some m → allStr (a ++ b) = some (l ++ m)
  | [], b, l, m, h, g => by cases h; exact g
  | .str x :: a, b, l, m, h, g => by
    obtain ⟨l', h1, rfl⟩ := Option.map_eq_some_iff.mp (show (allStr a).map (fun l => x :: l) = some l from h)
    show (allStr (a ++ b)).map _ = _
    rw [allStr_app h1 g]; rfl
  | .none :: _, _, _, _, h, _ => by cases h
  | .bool _ :: _, _, _, _, h, _ => by cases h
  | .int _ :: _, _, _, _, h, _ => by cases h
  | .list _ :: _, _, _, _, h, _ => by cases h
  | .tuple _ :: _, _, _, _, h, _ => by cases h
  | .dict _ :: _, _, _, _, h, _ => by cases h
/-- an element that is a text -/
def mTxt (m : M D) : M D := fun ρ => (m ρ).bindN fun x ρ1 => match x with
  | .str z => .ok (.str z) ρ1
  | _ => .bad
theorem end_set (hp : pu = true → pe = true) (hs : Hs D0 = none) {σ : Sl} {H : Hp} {Nx : Hp → Prop} (h : FBel X.K c (HdS X.prog X.w D0) (scanBound - 2) pu Hs D0 n fb [] (cEnd (mTxt me)) σ H Nx) : setBelow X.prog X.w D0 (teE X.K c fb pe me) σ H Nx := by
  obtain ⟨F0, H0, O0, σ0, F, ρ, O, acc, ys, ρ', e, hD, g, pur, hn, hb, hcap, fin⟩ := h
  obtain ⟨y, ρ1, h1, h2⟩ := bindN_inv hb
  cases h2
  obtain ⟨y', ρ2, h3, h4⟩ := bindN_inv h1
  refine ⟨F, H, O, σ, F, ρ, O, e.self, ?_⟩
  rw [h3]
  intro F2 H2 O2 v e2 s2 p2 r2
  have a2 := e.trans e2
  have g2 := g.step hdS_mono (c := c) (fb := fb) e2
  obtain ⟨o, q1, ks, rfl, nd, len, l, hl, hm⟩ := g2.at_
  cases y' with
  | str z =>
    cases h4
    cases r2
    have hsb : scanBound = 4096 := rfl
    refine ⟨z, ks, rfl, q1, by simp at hcap; omega, fun ks' pm => ?_⟩
    refine fin F2 _ O2 (a2.setD hD g2.nf g2.no) ⟨⟨_, upd_same, ks', rfl, ?_, ?_, l ++ [z], allStr_app hl rfl, fun x => ?_⟩, g2.nf, g2.no⟩ fun q b u hb => ?_
    · rw [pm.nodup_iff]
      split
      · exact nd
      · rename_i hz; exact List.nodup_cons.mpr ⟨hz, nd⟩
    · rw [pm.length_eq, List.length_append]
      split
      · simp; omega
      · simp; omega
    · rw [pm.mem_iff, List.mem_append, List.mem_singleton, ← hm]
      split
      · rename_i hz
        exact ⟨.inl, fun k => k.elim id fun k => k ▸ hz⟩
      · rw [List.mem_cons]
        exact ⟨fun k => k.elim .inr .inl, fun k => k.elim .inr .inl⟩
    · rw [upd_ne fun z => by rw [z, hs] at hb; cases hb]
      exact p2 (hp q) _ _ (pur q b u hb)
  | _ => cases h4
end
section
variable {X : Cx} {c : Ct} {pi pt pu : Bool} {mi : M (List D)} {cl : FC} {b : M (List D)} {fb fb2 vs2 : List Nat} {n : Nat}
/-- the first clause of a list -/
theorem top_lst {σ : Sl} {H : Hp} {Q : VK} (hvf : (cl.vs.all fun i => fb.all fun j => j != i) = true) (hall : ((List.range n).all fun i => cl.vs.contains i || fb.contains i) = true) (hf : ∀ i ∈ fb, i ∈ fb2) (hcf : (cl.vs.all fun i => c.fx.all fun j => j != i) = true) (hp : pu = true → pi = true ∧ pt = true) (hn : σ.length = n)
    (h0 : tn X.K c pu (fun ρ => (mLcN cl mi b ρ).bind fun ys ρ1 => if ys.length ≤ sizeLine then .ok ys ρ1 else .bad) σ H Q) :
    tLcG ⟨ti X.K c pi mi, tgB X.K c fb cl.t, ttE X.K c fb pt cl.tst, cl.vs⟩ (fun D σ H Nx => ∃ Hs, Hs D = none ∧ FBel X.K c (HdL X.K) sizeLine pu Hs D n fb2 vs2 b σ H Nx) σ H Q := by
  obtain ⟨F, ρ, O, ev, h⟩ := h0
  refine ⟨F, ρ, O, ev, Res.post_imp (Res.post_bind (Res.post_bind h)) (fun xs ρ1 h1 F1 H1 O1 J e1 s1 p1 it D0 hD => ?_) fun _ _ h => h⟩
  split at h1
  rotate_left
  · exact h1.elim
  rename_i hda
  cases hr : cLoop cl b xs (wipeE ρ1 cl.vs) with
  | bad => rw [hr] at h1; exact h1.elim
  | ex _ _ => rw [hr] at h1; exact h1.elim
  | ok ys ρ2 =>
    rw [hr] at h1
    have h1 : (if ys.length ≤ sizeLine then Res.ok ys (backE ρ1 cl.vs ρ2) else .bad).post (PN X.K c pu F H σ Q) (PX X.K c σ) := h1
    split at h1
    rotate_left
    · exact h1.elim
    rename_i hlen
    obtain ⟨R, hR, DR, start⟩ := blk_in e1 hcf hD (.lst []) fb
    have q := loop_step (acc := ([] : List D)) (cap := sizeLine) (pu := pu) (Hs := H1) (fb2 := fb2) (vs2 := vs2) (wi := ti X.K c pi mi) (Hd := HdL X.K) hdL_mono hvf hall hf (fun q => (hp q).2) hn start List.mem_cons_self ⟨⟨_, upd_same, [], rfl, .nil⟩, e1.sub.free hD, DR⟩ (fun _ => same_upd hD _) it hr (by show 0 + ys.length ≤ _; omega) (Nx := fun H' => Q (.ref D0) H') fun F' H' O' e2 g2 pur2 => by
      obtain ⟨O3, e3, no3, cD⟩ := blk_out e1 hD hR e2 g2.no hda
      obtain ⟨o, q1, a, rfl, q2⟩ := g2.at_
      refine h1 F' H' O3 D0 a e3 (s1.trans e2.f0) (fun q => (p1 (hp q).1).trans (pur2 q)) q1 q2 ⟨?_, fun p hp => ?_⟩
      · rw [List.singleton_append, List.nodup_cons]
        exact ⟨no3, e3.nd⟩
      · rw [List.mem_singleton] at hp
        subst hp
        exact ⟨g2.nf, cD⟩
    obtain ⟨W, w0, st⟩ := q
    refine ⟨W, w0, fun i m H w => (st i m H w).imp id fun ⟨g, Nx', h1, h2⟩ => ⟨g, Nx', h1, fun x H' y => ?_⟩⟩
    obtain ⟨F0, H0, O0, σ0, F3, ρ3, O3, d, ρ4, k1, k2, k3, k4⟩ := h2 x H' y
    refine ⟨F0, H0, O0, σ0, F3, ρ3, O3, d, ρ4, k1, k2, k3, fun σ' F' H' O' a1 a2 a3 => ?_⟩
    obtain ⟨z1, G0, J0, P0, τ0, F5, ρ5, O5, z2, z3⟩ := k4 σ' F' H' O' a1 a2 a3
    refine ⟨z1, G0, J0, P0, τ0, F5, ρ5, O5, z2, Res.post_imp z3 (fun b ρ' hb F' H' O' a1 a2 a3 => ?_) fun _ _ h => h⟩
    have := hb F' H' O' a1 a2 a3
    cases b with
    | false => exact this
    | true => exact ⟨H1, hD, this⟩
def mSetC (m : M (List D)) : M (List Str) := fun ρ => (m ρ).bind fun ys ρ1 => if ys.length ≤ scanBound - 2 then ofO (allStr ys) ρ1 else .bad
/-- the first clause of a set -/
theorem top_set {σ : Sl} {H : Hp} {Q : Addr → List Str → Hp → Prop} (hvf : (cl.vs.all fun i => fb.all fun j => j != i) = true) (hall : ((List.range n).all fun i => cl.vs.contains i || fb.contains i) = true) (hf : ∀ i ∈ fb, i ∈ fb2) (hcf : (cl.vs.all fun i => c.fx.all fun j => j != i) = true) (hp : pu = true → pi = true ∧ pt = true) (hn : σ.length = n)
    (h0 : ∃ F ρ O, EnvR X.K c F H σ ρ O ∧ (mSetC (mLcN cl mi b) ρ).post (fun l ρ' => ∀ F' H' O' a ks, EnvR X.K c F' H' σ ρ' O' → Same F F' → (pu = true → Same H H') → H' a = some (SKO X.prog X.w a ks) → F' a = none → a ∉ O' → (a ∈ c.O ∨ c.H a = none) → ks.Nodup → (∀ x, x ∈ ks ↔ x ∈ l) → Q a ks H') (PX X.K c σ)) :
    tScG X.prog X.w ⟨ti X.K c pi mi, tgB X.K c fb cl.t, ttE X.K c fb pt cl.tst, cl.vs⟩ (fun D σ H Nx => ∃ Hs, Hs D = none ∧ FBel X.K c (HdS X.prog X.w D) (scanBound - 2) pu Hs D n fb2 vs2 b σ H Nx) σ H Q := by
  obtain ⟨F, ρ, O, ev, h⟩ := h0
  refine ⟨F, ρ, O, ev, Res.post_imp (Res.post_bind (Res.post_bind h)) (fun xs ρ1 h1 F1 H1 O1 J e1 s1 p1 it D0 hD => ?_) fun _ _ h => h⟩
  split at h1
  rotate_left
  · exact h1.elim
  rename_i hda
  cases hr : cLoop cl b xs (wipeE ρ1 cl.vs) with
  | bad => rw [hr] at h1; exact h1.elim
  | ex _ _ => rw [hr] at h1; exact h1.elim
  | ok ys ρ2 =>
    rw [hr] at h1
    have h1 : (if ys.length ≤ scanBound - 2 then ofO (allStr ys) (backE ρ1 cl.vs ρ2) else .bad).post _ (PX X.K c σ) := h1
    split at h1
    rotate_left
    · exact h1.elim
    rename_i hlen
    obtain ⟨l, hl, h1⟩ := post_ofO h1
    obtain ⟨R, hR, DR, start⟩ := blk_in e1 hcf hD (SKO X.prog X.w D0 []) fb
    have q := loop_step (acc := ([] : List D)) (cap := scanBound - 2) (pu := pu) (Hs := H1) (fb2 := fb2) (vs2 := vs2) (wi := ti X.K c pi mi) (Hd := HdS X.prog X.w D0) hdS_mono hvf hall hf (fun q => (hp q).2) hn start List.mem_cons_self ⟨⟨_, upd_same, [], rfl, .nil, Nat.le_refl _, [], rfl, fun x => Iff.rfl⟩, e1.sub.free hD, DR⟩ (fun _ => same_upd hD _) it hr (by show 0 + ys.length ≤ _; omega) (Nx := fun H' => ∃ ks, H' D0 = some (SKO X.prog X.w D0 ks) ∧ Q D0 ks H') fun F' H' O' e2 g2 pur2 => by
      obtain ⟨O3, e3, no3, cD⟩ := blk_out e1 hD hR e2 g2.no hda
      obtain ⟨o, q1, ks, rfl, nd, _, l', hl', hm⟩ := g2.at_
      rw [List.nil_append, hl] at hl'
      cases hl'
      exact ⟨ks, q1, h1 F' H' O3 D0 ks e3 (s1.trans e2.f0) (fun q => (p1 (hp q).1).trans (pur2 q)) q1 g2.nf no3 cD nd hm⟩
    obtain ⟨W, w0, st⟩ := q
    refine ⟨W, w0, fun i m H w => (st i m H w).imp id fun ⟨g, Nx', h1, h2⟩ => ⟨g, Nx', h1, fun x H' y => ?_⟩⟩
    obtain ⟨F0, H0, O0, σ0, F3, ρ3, O3, d, ρ4, k1, k2, k3, k4⟩ := h2 x H' y
    refine ⟨F0, H0, O0, σ0, F3, ρ3, O3, d, ρ4, k1, k2, k3, fun σ' F' H' O' a1 a2 a3 => ?_⟩
    obtain ⟨z1, G0, J0, P0, τ0, F5, ρ5, O5, z2, z3⟩ := k4 σ' F' H' O' a1 a2 a3
    refine ⟨z1, G0, J0, P0, τ0, F5, ρ5, O5, z2, Res.post_imp z3 (fun b ρ' hb F' H' O' a1 a2 a3 => ?_) fun _ _ h => h⟩
    have := hb F' H' O' a1 a2 a3
    cases b with
    | false => exact this
    | true => exact ⟨H1, hD, this⟩
end
end DL
end
section
set_option maxRecDepth 100000
set_option maxHeartbeats 4000000
/-! The functional layer: the rules for lists of two clauses and sets of one, two, three. -/
namespace DL
open PySem PySem.Spec PyProof.Rows L2 PySem.W
theorem BodyOk.imp {X : Cx} {vs : List Nat} {body : Sem Unit} {b b' : Below} (h : BodyOk X vs body b) (k : ∀ σ H Nx, b' σ H Nx → b σ H Nx) : BodyOk X vs body b' := fun pins s σ H Nx I q => h pins s σ H Nx I (k σ H Nx q)
def tkO (P : Program) (w : World) (K : Frag) (c : Ct) (pu : Bool) (m : M (List Str)) : Sl → Hp → (Addr → List Str → Hp → Prop) → Prop := fun σ H Q => ∃ F ρ O, EnvR K c F H σ ρ O ∧
  (m ρ).post (fun l ρ' => ∀ F' H' O' a ks, EnvR K c F' H' σ ρ' O' → Same F F' → (pu = true → Same H H') → H' a = some (SKO P w a ks) → F' a = none → a ∉ O' → (a ∈ c.O ∨ c.H a = none) → ks.Nodup → (∀ x, x ∈ ks ↔ x ∈ l) → Q a ks H') (PX K c σ)
theorem psk_imp {X : Cx} {e : Expr} {t t' : Sl → Hp → (Addr → List Str → Hp → Prop) → Prop} (h : PSk X e t) (k : X.N.length = X.N.length → ∀ σ H Q, σ.length = X.N.length → t' σ H Q → t σ H Q) : PSk X e t' := ⟨fun pins s σ H Q I q => h.run pins s σ H Q I (k rfl σ H Q I.len q)⟩
theorem psk_st {X : Cx} {c : Ct} {e : Expr} {pu : Bool} {m : M (List Str)} (h : PSk X e (tkO X.prog X.w X.K c pu m)) : PSt X e (tk X.K c pu m) := ⟨fun pins s σ H Q I ⟨F, ρ, O, ev, q⟩ =>
  thn (h.run pins s σ H (fun a ks H' => Q ks H') I ⟨F, ρ, O, ev, Res.post_imp q (fun l ρ' k F' H' O' a ks e s p _ _ _ _ nd hm => k F' H' O' ks e s p nd hm) fun _ _ h => h⟩) fun v s' ⟨a, ks, H', e1, e2, I', q'⟩ => ⟨a, ks, H', e1, sko_get I' e2, I', q'⟩⟩
theorem turn_in {e tg iter iter1 : Expr} {k j : Nat} {ifs : List Expr} {env : PySem.Env} {acc : Value}
    (h : ∀ it, compTurn e k it acc env = (standAt iter.pos >>= fun _ => pyNext it >>= fun r => match r with
      | none => pure (.done .next)
      | some v => letOwnedTupleGo tg it v >>= fun _ => assign tg env v >>= fun _ => cTests ifs env >>= fun ok => if ok = true then (eval iter1 env >>= fun x => standAt iter1.pos >>= fun _ => foldedSetIterable iter1 env x >>= fun x => holding [x] (pyIter x) >>= fun i => runOwn (.compStart e j i acc env) env >>= fun _ => again (.compLoop e k it acc env)) else again (.compLoop e k it acc env))) :
    TurnIs e k tg iter ifs env acc (inBody e j iter1 acc env) := fun it => by
  rw [h it]
  simp only [inBody, bind_assoc, pure_bind]
  first
  | done
  | (refine congrArg (fun f => standAt iter.pos >>= fun _ => pyNext it >>= f) (funext fun r => ?_)
     cases r <;> rfl)
section
variable {X : Cx} {c : Ct} {tg iter tg1 iter1 tg2 iter2 elt : Expr} {pos : Pos} {pi pt pi1 pt1 pi2 pt2 pe : Bool} {mi mi1 mi2 : M (List D)} {t t1 t2 : D → Env → Option Env} {tst tst1 tst2 : M Bool} {me : M D} {scope : Scope} {own : List (Str × Nat)} {ifs ifs1 ifs2 : List Expr} {fb fb1 fb2 vs1 vs2 : List Nat}
abbrev HG (X : Cx) (c : Ct) (scope : Scope) (fb : List Nat) (tg : Expr) (t : D → Env → Option Env) : Prop := ∀ F H O σ (s : Shared) (Hb : Hp) (C : Addr) (cl : List (Str × Addr)) (fp : List Addr), PG (X.blk s Hb scope (compEnvC scope cl C X.env) fp) tg (tgD X.K (c.blk fb F H O σ) t)
abbrev HT (X : Cx) (c : Ct) (scope : Scope) (fb : List Nat) (ifs : List Expr) (pt : Bool) (tst : M Bool) : Prop := ∀ F H O σ (s : Shared) (Hb : Hp) (C : Addr) (cl : List (Str × Addr)) (fp : List Addr), PTs (X.blk s Hb scope (compEnvC scope cl C X.env) fp) ifs (tt X.K (c.blk fb F H O σ) pt tst)
abbrev HE (X : Cx) (c : Ct) (scope : Scope) (fb : List Nat) (e : Expr) (pe : Bool) (me : M D) : Prop := ∀ F H O σ (s : Shared) (Hb : Hp) (C : Addr) (cl : List (Str × Addr)) (fp : List Addr), PE (X.blk s Hb scope (compEnvC scope cl C X.env) fp) e (te X.K (c.blk fb F H O σ) false pe me)
abbrev HI (X : Cx) (c : Ct) (scope : Scope) (fb : List Nat) (tg iter : Expr) (pi : Bool) (mi : M (List D)) : Prop := ∀ F H O σ (s : Shared) (Hb : Hp) (C : Addr) (cl : List (Str × Addr)) (fp : List Addr), PI (X.blk s Hb scope (compEnvC scope cl C X.env) fp) tg iter (ti X.K (c.blk fb F H O σ) pi mi)
theorem blk_i (h : HI X c scope fb tg iter pi mi) : ∀ (s : Shared) (Hb : Hp) (C : Addr) (cl : List (Str × Addr)) (fp : List Addr), PI (X.blk s Hb scope (compEnvC scope cl C X.env) fp) tg iter (tiE X.K c fb pi mi) :=
  fun s H C cl fp => ⟨fun pins s' σ H' R I ⟨F0, H0, O0, σ0, q⟩ => (h F0 H0 O0 σ0 s H C cl fp).run pins s' σ H' R I q⟩
/-- a list of two clauses -/
def mLc2 (vs : List Nat) (it : M (List D)) (t : D → Env → Option Env) (tst : M Bool) (vs1 : List Nat) (it1 : M (List D)) (t1 : D → Env → Option Env) (tst1 : M Bool) (e : M D) : M (List D) :=
  fun ρ => (mLcN ⟨vs, t, tst⟩ it (cIn ⟨vs1, t1, tst1⟩ it1 (cEnd e)) ρ).bind fun ys ρ1 => if ys.length ≤ sizeLine then .ok ys ρ1 else .bad
theorem n_lc2 (hc : X.calm = true) (hN : X.N.Nodup) (hi : PI X tg iter (ti X.K c pi mi)) (ok : BlkOk X.N X.env.scope scope own) (hg : HG X c scope fb tg t) (ht : HT X c scope fb ifs pt tst) (hi1 : HI X c scope fb tg1 iter1 pi1 mi1) (hg1 : HG X c scope fb1 tg1 t1) (ht1 : HT X c scope fb1 ifs1 pt1 tst1) (he : HE X c scope fb1 elt pe me)
    (hs : ∀ x, foldedSetIterable iter X.env x = pure x := by intro _; rfl) (hs1 : ∀ env x, foldedSetIterable iter1 env x = pure x := by intro _ _; rfl)
    (hv : (vs1.all fun i => (own.map (·.2)).contains i) = true := by rfl) (hf : (fb.all fun i => fb1.contains i) = true := by rfl) (hvf : ((own.map (·.2)).all fun i => fb.all fun j => j != i) = true := by rfl) (hvf1 : (vs1.all fun i => fb1.all fun j => j != i) = true := by rfl)
    (hall : ((List.range X.N.length).all fun i => (own.map (·.2)).contains i || fb.contains i) = true := by rfl) (hall1 : ((List.range X.N.length).all fun i => vs1.contains i || fb1.contains i) = true := by rfl) (hcf : ((own.map (·.2)).all fun i => c.fx.all fun j => j != i) = true := by rfl) :
    PE X (.ListComp elt [⟨tg, iter, ifs, 0⟩, ⟨tg1, iter1, ifs1, 0⟩] scope pos) (tn X.K c (pi && (pt && (pi1 && (pt1 && pe)))) (mLc2 (own.map (·.2)) mi t tst vs1 mi1 t1 tst1 me)) := by
  have hv' : ∀ i ∈ vs1, i ∈ own.map (·.2) := fun i hi => by simpa using List.all_eq_true.mp hv i hi
  have hf' : ∀ i ∈ fb, i ∈ fb1 := fun i hi => by simpa using List.all_eq_true.mp hf i hi
  have pus : (pi && (pt && (pi1 && (pt1 && pe)))) = true → pi = true ∧ pt = true ∧ pi1 = true ∧ pt1 = true ∧ pe = true := fun q => by
    simpa [Bool.and_eq_true] using q
  generalize (pi && (pt && (pi1 && (pt1 && pe)))) = pu at pus
  refine (pe_len (pe_lcG (vs' := vs1) (body := fun D ce => inBody (.ListComp elt [⟨tg, iter, ifs, 0⟩, ⟨tg1, iter1, ifs1, 0⟩] scope pos) 1 iter1 (.ref D) ce) (below := fun D σ H Nx => ∃ Hs, Hs D = none ∧ FBel X.K c (HdL X.K) sizeLine pu Hs D X.N.length fb vs1 (cIn ⟨vs1, t1, tst1⟩ mi1 (cEnd me)) σ H Nx) hc hN hi ok (fun D ce => turn_in (fun it => rfl)) (blk_g hg) (blk_t ht) (fun D s Hb C cl fp => ?_) hv' hs)).imp fun σ H Q h hlen =>
    top_lst (X := X) (c := c) (cl := FC.mk (own.map fun p : Str × Nat => p.2) t tst) (n := X.N.length) hvf hall (fun _ h => h) hcf (fun q => ⟨(pus q).1, (pus q).2.1⟩) hlen h
  intro pins s' σ H Nx I ⟨Hs, hHs, q⟩
  refine body_in (c := ⟨tiE X.K c fb pi1 mi1, tgB X.K c fb1 t1, ttE X.K c fb1 pt1 tst1, vs1⟩) (g := ⟨tg1, iter1, ifs1, 0⟩) (vs' := []) plainC_list hc rfl rfl hs1 (fun it => rfl) (blk_i hi1 s Hb C cl fp) (blk_g hg1 s Hb C cl fp) (blk_t ht1 s Hb C cl fp)
    ((body_lst (blk_e he s Hb C cl fp)).imp fun σ H Nx h => end_lst (fun q => (pus q).2.2.2.2) hHs h) (fun _ h => by simp at h) pins s' σ H Nx I (in_step (cl := ⟨vs1, t1, tst1⟩) (fb2 := fb1) hdL_mono hvf1 hall1 hf' (fun _ h => h) (fun q => (pus q).2.2.2.1) (fun q => (pus q).2.2.1) q)
/-- sets -/
theorem sk_sc1 (hc : X.calm = true) (hN : X.N.Nodup) (hi : PI X tg iter (ti X.K c pi mi)) (ok : BlkOk X.N X.env.scope scope own) (hg : HG X c scope fb tg t) (ht : HT X c scope fb ifs pt tst) (he : HE X c scope fb elt pe me)
    (hs : ∀ x, foldedSetIterable iter X.env x = pure x := by intro _; rfl) (hvf : ((own.map (·.2)).all fun i => fb.all fun j => j != i) = true := by rfl)
    (hall : ((List.range X.N.length).all fun i => (own.map (·.2)).contains i || fb.contains i) = true := by rfl) (hcf : ((own.map (·.2)).all fun i => c.fx.all fun j => j != i) = true := by rfl) :
    PSk X (.SetComp elt [⟨tg, iter, ifs, 0⟩] scope pos) (tkO X.prog X.w X.K c (pi && (pt && pe)) (mSetC (mLcN ⟨own.map (·.2), t, tst⟩ mi (cEnd (mTxt me))))) := by
  have pus : (pi && (pt && pe)) = true → pi = true ∧ pt = true ∧ pe = true := fun q => by simpa [Bool.and_eq_true] using q
  generalize (pi && (pt && pe)) = pu at pus
  refine psk_imp (psk_sc (vs' := []) (body := fun D ce => setEnd elt (.ref D) ce) (below := fun D σ H Nx => ∃ Hs, Hs D = none ∧ FBel X.K c (HdS X.prog X.w D) (scanBound - 2) pu Hs D X.N.length fb [] (cEnd (mTxt me)) σ H Nx) hc hN hi ok (fun D ce it => rfl) (blk_g hg) (blk_t ht) (fun D s Hb C cl fp => ?_) (fun _ h => by simp at h) hs) fun _ σ H Q hlen h =>
    top_set (X := X) (c := c) (cl := FC.mk (own.map fun p : Str × Nat => p.2) t tst) (n := X.N.length) hvf hall (fun _ h => h) hcf (fun q => ⟨(pus q).1, (pus q).2.1⟩) hlen h
  exact (body_set (blk_e he s Hb C cl fp)).imp fun σ H Nx ⟨Hs, hHs, h⟩ => end_set (fun q => (pus q).2.2) hHs h
theorem sk_sc2 (hc : X.calm = true) (hN : X.N.Nodup) (hi : PI X tg iter (ti X.K c pi mi)) (ok : BlkOk X.N X.env.scope scope own) (hg : HG X c scope fb tg t) (ht : HT X c scope fb ifs pt tst) (hi1 : HI X c scope fb tg1 iter1 pi1 mi1) (hg1 : HG X c scope fb1 tg1 t1) (ht1 : HT X c scope fb1 ifs1 pt1 tst1) (he : HE X c scope fb1 elt pe me)
    (hs : ∀ x, foldedSetIterable iter X.env x = pure x := by intro _; rfl) (hs1 : ∀ env x, foldedSetIterable iter1 env x = pure x := by intro _ _; rfl)
    (hv : (vs1.all fun i => (own.map (·.2)).contains i) = true := by rfl) (hf : (fb.all fun i => fb1.contains i) = true := by rfl) (hvf : ((own.map (·.2)).all fun i => fb.all fun j => j != i) = true := by rfl) (hvf1 : (vs1.all fun i => fb1.all fun j => j != i) = true := by rfl)
    (hall : ((List.range X.N.length).all fun i => (own.map (·.2)).contains i || fb.contains i) = true := by rfl) (hall1 : ((List.range X.N.length).all fun i => vs1.contains i || fb1.contains i) = true := by rfl) (hcf : ((own.map (·.2)).all fun i => c.fx.all fun j => j != i) = true := by rfl) :
    PSk X (.SetComp elt [⟨tg, iter, ifs, 0⟩, ⟨tg1, iter1, ifs1, 0⟩] scope pos) (tkO X.prog X.w X.K c (pi && (pt && (pi1 && (pt1 && pe)))) (mSetC (mLcN ⟨own.map (·.2), t, tst⟩ mi (cIn ⟨vs1, t1, tst1⟩ mi1 (cEnd (mTxt me)))))) := by
  have hv' : ∀ i ∈ vs1, i ∈ own.map (·.2) := fun i hi => by simpa using List.all_eq_true.mp hv i hi
  have hf' : ∀ i ∈ fb, i ∈ fb1 := fun i hi => by simpa using List.all_eq_true.mp hf i hi
  have pus : (pi && (pt && (pi1 && (pt1 && pe)))) = true → pi = true ∧ pt = true ∧ pi1 = true ∧ pt1 = true ∧ pe = true := fun q => by simpa [Bool.and_eq_true] using q
  generalize (pi && (pt && (pi1 && (pt1 && pe)))) = pu at pus
  refine psk_imp (psk_sc (vs' := vs1) (body := fun D ce => inBody (.SetComp elt [⟨tg, iter, ifs, 0⟩, ⟨tg1, iter1, ifs1, 0⟩] scope pos) 1 iter1 (.ref D) ce) (below := fun D σ H Nx => ∃ Hs, Hs D = none ∧ FBel X.K c (HdS X.prog X.w D) (scanBound - 2) pu Hs D X.N.length fb vs1 (cIn ⟨vs1, t1, tst1⟩ mi1 (cEnd (mTxt me))) σ H Nx) hc hN hi ok (fun D ce => turn_in (fun it => rfl)) (blk_g hg) (blk_t ht) (fun D s Hb C cl fp => ?_) hv' hs) fun _ σ H Q hlen h =>
    top_set (X := X) (c := c) (cl := FC.mk (own.map fun p : Str × Nat => p.2) t tst) (n := X.N.length) hvf hall (fun _ h => h) hcf (fun q => ⟨(pus q).1, (pus q).2.1⟩) hlen h
  intro pins s' σ H Nx I ⟨Hs, hHs, q⟩
  refine body_in (c := ⟨tiE X.K c fb pi1 mi1, tgB X.K c fb1 t1, ttE X.K c fb1 pt1 tst1, vs1⟩) (g := ⟨tg1, iter1, ifs1, 0⟩) (vs' := []) plainC_set hc rfl rfl hs1 (fun it => rfl) (blk_i hi1 s Hb C cl fp) (blk_g hg1 s Hb C cl fp) (blk_t ht1 s Hb C cl fp)
    ((body_set (blk_e he s Hb C cl fp)).imp fun σ H Nx h => end_set (fun q => (pus q).2.2.2.2) hHs h) (fun _ h => by simp at h) pins s' σ H Nx I (in_step (cl := ⟨vs1, t1, tst1⟩) (fb2 := fb1) hdS_mono hvf1 hall1 hf' (fun _ h => h) (fun q => (pus q).2.2.2.1) (fun q => (pus q).2.2.1) q)
theorem sk_sc3 (hc : X.calm = true) (hN : X.N.Nodup) (hi : PI X tg iter (ti X.K c pi mi)) (ok : BlkOk X.N X.env.scope scope own) (hg : HG X c scope fb tg t) (ht : HT X c scope fb ifs pt tst) (hi1 : HI X c scope fb tg1 iter1 pi1 mi1) (hg1 : HG X c scope fb1 tg1 t1) (ht1 : HT X c scope fb1 ifs1 pt1 tst1)
    (hi2 : HI X c scope fb1 tg2 iter2 pi2 mi2) (hg2 : HG X c scope fb2 tg2 t2) (ht2 : HT X c scope fb2 ifs2 pt2 tst2) (he : HE X c scope fb2 elt pe me)
    (hs : ∀ x, foldedSetIterable iter X.env x = pure x := by intro _; rfl) (hs1 : ∀ env x, foldedSetIterable iter1 env x = pure x := by intro _ _; rfl) (hs2 : ∀ env x, foldedSetIterable iter2 env x = pure x := by intro _ _; rfl)
    (hv : (vs1.all fun i => (own.map (·.2)).contains i) = true := by rfl) (hv2 : (vs2.all fun i => vs1.contains i) = true := by rfl) (hf : (fb.all fun i => fb1.contains i) = true := by rfl) (hf2 : (fb1.all fun i => fb2.contains i) = true := by rfl) (hvf : ((own.map (·.2)).all fun i => fb.all fun j => j != i) = true := by rfl) (hvf1 : (vs1.all fun i => fb1.all fun j => j != i) = true := by rfl) (hvf2 : (vs2.all fun i => fb2.all fun j => j != i) = true := by rfl)
    (hall : ((List.range X.N.length).all fun i => (own.map (·.2)).contains i || fb.contains i) = true := by rfl) (hall1 : ((List.range X.N.length).all fun i => vs1.contains i || fb1.contains i) = true := by rfl) (hall2 : ((List.range X.N.length).all fun i => vs2.contains i || fb2.contains i) = true := by rfl) (hcf : ((own.map (·.2)).all fun i => c.fx.all fun j => j != i) = true := by rfl) :
    PSk X (.SetComp elt [⟨tg, iter, ifs, 0⟩, ⟨tg1, iter1, ifs1, 0⟩, ⟨tg2, iter2, ifs2, 0⟩] scope pos) (tkO X.prog X.w X.K c (pi && (pt && (pi1 && (pt1 && (pi2 && (pt2 && pe)))))) (mSetC (mLcN ⟨own.map (·.2), t, tst⟩ mi (cIn ⟨vs1, t1, tst1⟩ mi1 (cIn ⟨vs2, t2, tst2⟩ mi2 (cEnd (mTxt me))))))) := by
  have hv' : ∀ i ∈ vs1, i ∈ own.map (·.2) := fun i hi => by simpa using List.all_eq_true.mp hv i hi
  have hv2' : ∀ i ∈ vs2, i ∈ vs1 := fun i hi => by simpa using List.all_eq_true.mp hv2 i hi
  have hf' : ∀ i ∈ fb, i ∈ fb1 := fun i hi => by simpa using List.all_eq_true.mp hf i hi
  have hf2' : ∀ i ∈ fb1, i ∈ fb2 := fun i hi => by simpa using List.all_eq_true.mp hf2 i hi
  have pus : (pi && (pt && (pi1 && (pt1 && (pi2 && (pt2 && pe)))))) = true → pi = true ∧ pt = true ∧ pi1 = true ∧ pt1 = true ∧ pi2 = true ∧ pt2 = true ∧ pe = true := fun q => by simpa [Bool.and_eq_true] using q
  generalize (pi && (pt && (pi1 && (pt1 && (pi2 && (pt2 && pe)))))) = pu at pus
  refine psk_imp (psk_sc (vs' := vs1) (body := fun D ce => inBody (.SetComp elt [⟨tg, iter, ifs, 0⟩, ⟨tg1, iter1, ifs1, 0⟩, ⟨tg2, iter2, ifs2, 0⟩] scope pos) 1 iter1 (.ref D) ce) (below := fun D σ H Nx => ∃ Hs, Hs D = none ∧ FBel X.K c (HdS X.prog X.w D) (scanBound - 2) pu Hs D X.N.length fb vs1 (cIn ⟨vs1, t1, tst1⟩ mi1 (cIn ⟨vs2, t2, tst2⟩ mi2 (cEnd (mTxt me)))) σ H Nx) hc hN hi ok (fun D ce => turn_in (fun it => rfl)) (blk_g hg) (blk_t ht) (fun D s Hb C cl fp => ?_) hv' hs) fun _ σ H Q hlen h =>
    top_set (X := X) (c := c) (cl := FC.mk (own.map fun p : Str × Nat => p.2) t tst) (n := X.N.length) hvf hall (fun _ h => h) hcf (fun q => ⟨(pus q).1, (pus q).2.1⟩) hlen h
  intro pins s' σ H Nx I ⟨Hs, hHs, q⟩
  refine body_in (c := ⟨tiE X.K c fb pi1 mi1, tgB X.K c fb1 t1, ttE X.K c fb1 pt1 tst1, vs1⟩) (g := ⟨tg1, iter1, ifs1, 0⟩) (vs' := vs2) (below := FBel X.K c (HdS X.prog X.w D) (scanBound - 2) pu Hs D X.N.length fb1 vs2 (cIn ⟨vs2, t2, tst2⟩ mi2 (cEnd (mTxt me)))) plainC_set hc rfl rfl hs1 (turn_in fun it => rfl) (blk_i hi1 s Hb C cl fp) (blk_g hg1 s Hb C cl fp) (blk_t ht1 s Hb C cl fp)
    ?_ hv2' pins s' σ H Nx I (in_step (cl := ⟨vs1, t1, tst1⟩) (fb2 := fb1) hdS_mono hvf1 hall1 hf' (fun _ h => h) (fun q => (pus q).2.2.2.1) (fun q => (pus q).2.2.1) q)
  refine (body_in (c := ⟨tiE X.K c fb1 pi2 mi2, tgB X.K c fb2 t2, ttE X.K c fb2 pt2 tst2, vs2⟩) (g := ⟨tg2, iter2, ifs2, 0⟩) (vs' := []) (k := 2) plainC_set hc rfl rfl hs2 (fun it => rfl) (blk_i hi2 s Hb C cl fp) (blk_g hg2 s Hb C cl fp) (blk_t ht2 s Hb C cl fp)
    ((body_set (blk_e he s Hb C cl fp)).imp fun σ H Nx h => end_set (fun q => (pus q).2.2.2.2.2.2) hHs h) (fun _ h => by simp at h)).imp fun σ H Nx q => in_step (cl := ⟨vs2, t2, tst2⟩) (fb2 := fb2) hdS_mono hvf2 hall2 hf2' (fun _ h => h) (fun q => (pus q).2.2.2.2.2.1) (fun q => (pus q).2.2.2.2.1) q
end
end DL
end
section
set_option maxRecDepth 100000
set_option maxHeartbeats 4000000
/-! The functional layer: dict comprehensions, items. -/
namespace DL
open PySem PySem.Spec PyProof.Rows L2 PySem.W
/-- a pair, its first thing a key -/
def mPairE (k v : M D) : M D := fun ρ => (k ρ).bindN fun x ρ1 => (v ρ1).bindN fun y ρ2 => match keyOf x with
  | some _ => .ok (.tuple [x, y]) ρ2
  | none => .bad
def putP (kds : KD) (p : D) : KD := match p with
  | .tuple [x, y] => match keyOf x with
    | some j => putKD kds j y
    | none => kds
  | _ => kds
def kdsOf (acc : List D) : KD := acc.foldl putP []
theorem kdsOf_app (acc : List D) (p : D) : kdsOf (acc ++ [p]) = putP (kdsOf acc) p := by
  unfold kdsOf
  rw [List.foldl_append]
  rfl
theorem putKD_len (kds : KD) (k : Key) (x : D) : (putKD kds k x).length ≤ kds.length + 1 := by
  unfold putKD
  split
  · rw [List.length_map]; omega
  · rw [List.length_append]; simp
theorem kdsOf_len : ∀ acc : List D, (kdsOf acc).length ≤ acc.length := by
  have gen : ∀ (acc : List D) (kds : KD), (acc.foldl putP kds).length ≤ kds.length + acc.length := by
    intro acc
    induction acc with
    | nil => intro kds; exact Nat.le_refl _
    | cons p acc ih =>
      intro kds
      have h1 := ih (putP kds p)
      have h2 : (putP kds p).length ≤ kds.length + 1 := by
        unfold putP
        split
        · split
          · exact putKD_len _ _ _
          · omega
        · omega
      rw [List.foldl_cons, List.length_cons]
      omega
  intro acc
  have h := gen acc []
  rw [List.length_nil, Nat.zero_add] at h
  exact h
def HdD (K : Frag) (F : Hp) (o : HO) (acc : List D) : Prop := ∃ kvs, o = .dK kvs ∧ RpK K F kvs (kdsOf acc)
theorem hdD_mono {K : Frag} : ∀ F F' o acc, Same F F' → HdD K F o acc → HdD K F' o acc := fun _ _ _ _ s ⟨a, e, r⟩ => ⟨a, e, r.mono s⟩
def dctBelow (D : Addr) (tk tv : TE) : Below := fun σ H Nx => tk σ H fun y H1 => tv σ H1 fun z H2 => ∃ kvs k, y = kV k ∧ H2 D = some (.dK kvs) ∧ kvs.length < sizeLine ∧ Nx (upd H2 D (.dK (putK kvs k z)))
section
variable {X : Cx} {c : Ct} {pk pv pu : Bool} {mk mv : M D} {fb : List Nat} {Hs : Hp} {D0 : Addr} {n : Nat}
theorem end_dct (hp : pu = true → pk = true ∧ pv = true) (hs : Hs D0 = none) {σ : Sl} {H : Hp} {Nx : Hp → Prop} (h : FBel X.K c (HdD X.K) sizeLine pu Hs D0 n fb [] (cEnd (mPairE mk mv)) σ H Nx) : dctBelow D0 (teE X.K c fb pk mk) (teE X.K c fb pv mv) σ H Nx := by
  obtain ⟨F0, H0, O0, σ0, F, ρ, O, acc, ys, ρ', e, hD, g, pur, hn, hb, hcap, fin⟩ := h
  obtain ⟨y, ρ1, h1, h2⟩ := bindN_inv hb
  cases h2
  obtain ⟨x, ρ2, h3, h4⟩ := bindN_inv h1
  obtain ⟨z, ρ3, h5, h6⟩ := bindN_inv h4
  cases kx : keyOf x with
  | none => rw [kx] at h6; cases h6
  | some j =>
    rw [kx] at h6
    cases h6
    refine ⟨F, H, O, σ, F, ρ, O, e.self, ?_⟩
    rw [h3]
    intro F2 H2 O2 v e2 s2 p2 r2
    have a2 := e.trans e2
    have g2 := g.step hdD_mono (c := c) (fb := fb) e2
    refine ⟨F2, H2, O2, σ, F2, ρ2, O2, a2.self, ?_⟩
    rw [h5]
    intro F3 H3 O3 v3 e3 s3 p3 r3
    have a3 := a2.trans e3
    have g3 := g2.step hdD_mono (c := c) (fb := fb) e3
    obtain ⟨o, q1, kvs, rfl, q2⟩ := g3.at_
    refine ⟨kvs, j, keyOf_ok kx r2, q1, by rw [q2.len]; have := kdsOf_len acc; simp at hcap; omega, ?_⟩
    refine fin F3 _ O3 (a3.setD hD g3.nf g3.no) ⟨⟨_, upd_same, _, rfl, ?_⟩, g3.nf, g3.no⟩ fun q b u hb => ?_
    · rw [kdsOf_app]
      have : putP (kdsOf acc) (.tuple [x, z]) = putKD (kdsOf acc) j z := by
        unfold putP
        simp only [kx]
      rw [this]
      exact q2.put r3
    · rw [upd_ne fun z => by rw [z, hs] at hb; cases hb]
      exact p3 (hp q).2 _ _ (p2 (hp q).1 _ _ (pur q b u hb))
end
def mDc (vs : List Nat) (it : M (List D)) (t : D → Env → Option Env) (tst : M Bool) (k v : M D) : M KD := fun ρ => (mLcN ⟨vs, t, tst⟩ it (cEnd (mPairE k v)) ρ).bind fun ys ρ1 => if ys.length ≤ sizeLine then .ok (kdsOf ys) ρ1 else .bad
def mDcO (m : M KD) : M OV := fun ρ => (m ρ).bind fun l ρ1 => .ok (.dct (l.map fun p => (kD p.1, p.2))) ρ1
def mDcF (m : M KD) : M D := fun ρ => (m ρ).bind fun l ρ1 => .ok (dK l) ρ1
section
variable {X : Cx} {c : Ct} {tg iter kx vx : Expr} {pos : Pos} {pi pt pk pv : Bool} {mi : M (List D)} {t : D → Env → Option Env} {tst : M Bool} {mk mv : M D} {scope : Scope} {own : List (Str × Nat)} {ifs : List Expr} {fb : List Nat}
def PDc (K : Frag) (c : Ct) (F H : Hp) (σ : Sl) (Q : VK) (kds : KD) (ρ' : Env) : Prop := ∀ F' H' O' p kvs, EnvR K c F' H' σ ρ' O' → Same F F' → H' p = some (.dK kvs) → RpK K F' kvs kds → Apart c F' [p] O' → Q (.ref p) H'
theorem dc_step {σ : Sl} {H : Hp} {Q : VK} (hlen : σ.length = X.N.length) (hvf : ((own.map (·.2)).all fun i => fb.all fun j => j != i) = true) (hall : ((List.range X.N.length).all fun i => (own.map (·.2)).contains i || fb.contains i) = true) (hcf : ((own.map (·.2)).all fun i => c.fx.all fun j => j != i) = true)
    (h0 : ∃ F ρ O, EnvR X.K c F H σ ρ O ∧ (mDc (own.map (·.2)) mi t tst mk mv ρ).post (PDc X.K c F H σ Q) (PX X.K c σ)) :
    tDc (ti X.K c pi mi) (tgB X.K c fb t) (ttE X.K c fb pt tst) (teE X.K c fb pk mk) (teE X.K c fb pv mv) (own.map (·.2)) σ H Q := by
  obtain ⟨F, ρ, O, ev, h⟩ := h0
  refine ⟨F, ρ, O, ev, Res.post_imp (Res.post_bind (Res.post_bind h)) (fun xs ρ1 h1 F1 H1 O1 J e1 s1 p1 it D0 hD => ?_) fun _ _ h => h⟩
  split at h1
  rotate_left
  · exact h1.elim
  rename_i hda
  cases hr : cLoop ⟨own.map (·.2), t, tst⟩ (cEnd (mPairE mk mv)) xs (wipeE ρ1 (own.map (·.2))) with
  | bad => rw [hr] at h1; exact h1.elim
  | ex _ _ => rw [hr] at h1; exact h1.elim
  | ok ys ρ2 =>
    rw [hr] at h1
    have h1 : (if ys.length ≤ sizeLine then Res.ok (kdsOf ys) (backE ρ1 (own.map (·.2)) ρ2) else .bad).post (PDc X.K c F H σ Q) (PX X.K c σ) := h1
    split at h1
    rotate_left
    · exact h1.elim
    rename_i hlen2
    obtain ⟨R, hR, DR, start⟩ := blk_in e1 hcf hD (.dK []) fb
    have q := loop_step (cl := FC.mk (own.map fun p : Str × Nat => p.2) t tst) (pt := pt) (acc := ([] : List D)) (cap := sizeLine) (pu := false) (Hs := H1) (fb2 := fb) (vs2 := []) (wi := ti X.K c pi mi) (Hd := HdD X.K) hdD_mono hvf hall (fun _ h => h) (fun q => nomatch q) hlen start List.mem_cons_self ⟨⟨_, upd_same, [], rfl, .nil⟩, e1.sub.free hD, DR⟩ (fun _ => same_upd hD _) it hr (by simpa using hlen2) (Nx := fun H' => Q (.ref D0) H') fun F' H' O' e2 g2 pur2 => by
      obtain ⟨O3, e3, no3, cD⟩ := blk_out e1 hD hR e2 g2.no hda
      obtain ⟨o, q1, kvs, rfl, q2⟩ := g2.at_
      refine h1 F' H' O3 D0 kvs e3 (s1.trans e2.f0) q1 q2 ⟨?_, fun p hp => ?_⟩
      · rw [List.singleton_append, List.nodup_cons]
        exact ⟨no3, e3.nd⟩
      · rw [List.mem_singleton] at hp
        subst hp
        exact ⟨g2.nf, cD⟩
    obtain ⟨W, w0, st⟩ := q
    refine ⟨W, w0, fun i m H w => (st i m H w).imp id fun ⟨g, Nx', h1, h2⟩ => ⟨g, Nx', h1, fun x H' y => ?_⟩⟩
    obtain ⟨F0, H0, O0, σ0, F3, ρ3, O3, d, ρ4, k1, k2, k3, k4⟩ := h2 x H' y
    refine ⟨F0, H0, O0, σ0, F3, ρ3, O3, d, ρ4, k1, k2, k3, fun σ' F' H' O' a1 a2 a3 => ?_⟩
    obtain ⟨z1, G0, J0, P0, τ0, F5, ρ5, O5, z2, z3⟩ := k4 σ' F' H' O' a1 a2 a3
    refine ⟨z1, G0, J0, P0, τ0, F5, ρ5, O5, z2, Res.post_imp z3 (fun b ρ' hb F' H' O' a1 a2 a3 => ?_) fun _ _ h => h⟩
    have := hb F' H' O' a1 a2 a3
    cases b with
    | false => exact this
    | true => exact end_dct (pu := false) (fun q => nomatch q) hD (by rw [if_pos rfl] at this; exact this)
theorem so_dc (hc : X.calm = true) (hN : X.N.Nodup) (hi : PI X tg iter (ti X.K c pi mi)) (ok : BlkOk X.N X.env.scope scope own) (hg : HG X c scope fb tg t) (ht : HT X c scope fb ifs pt tst) (hk : HE X c scope fb kx pk mk) (hv : HE X c scope fb vx pv mv)
    (hs : ∀ x, foldedSetIterable iter X.env x = pure x := by intro _; rfl) (hvf : ((own.map (·.2)).all fun i => fb.all fun j => j != i) = true := by rfl)
    (hall : ((List.range X.N.length).all fun i => (own.map (·.2)).contains i || fb.contains i) = true := by rfl) (hcf : ((own.map (·.2)).all fun i => c.fx.all fun j => j != i) = true := by rfl) :
    PE X (.DictComp kx vx [⟨tg, iter, ifs, 0⟩] scope pos) (to X.K c (mDcO (mDc (own.map (·.2)) mi t tst mk mv))) :=
  (pe_len (pe_dc (pos := pos) hc hN hi ok (blk_g hg) (blk_t ht) (blk_e hk) (blk_e hv) hs)).imp fun σ H Q ⟨F, ρ, O, ev, h⟩ hlen => dc_step hlen hvf hall hcf
    ⟨F, ρ, O, ev, Res.post_imp (Res.post_bind h) (fun l ρ1 h1 F' H' O' p kvs e' s' hp r a => h1 F' H' O' [p] _ e' s' (owR_dict hp r) a) fun _ _ h => h⟩
theorem se_dc (hc : X.calm = true) (hN : X.N.Nodup) (hi : PI X tg iter (ti X.K c pi mi)) (ok : BlkOk X.N X.env.scope scope own) (hg : HG X c scope fb tg t) (ht : HT X c scope fb ifs pt tst) (hk : HE X c scope fb kx pk mk) (hv : HE X c scope fb vx pv mv)
    (hs : ∀ x, foldedSetIterable iter X.env x = pure x := by intro _; rfl) (hvf : ((own.map (·.2)).all fun i => fb.all fun j => j != i) = true := by rfl)
    (hall : ((List.range X.N.length).all fun i => (own.map (·.2)).contains i || fb.contains i) = true := by rfl) (hcf : ((own.map (·.2)).all fun i => c.fx.all fun j => j != i) = true := by rfl) :
    PE X (.DictComp kx vx [⟨tg, iter, ifs, 0⟩] scope pos) (te X.K c false false (mDcF (mDc (own.map (·.2)) mi t tst mk mv))) :=
  (pe_freeze (pe_len (pe_dc (pos := pos) hc hN hi ok (blk_g hg) (blk_t ht) (blk_e hk) (blk_e hv) hs))).imp fun σ H Q ⟨F, ρ, O, ev, h⟩ hlen => dc_step hlen hvf hall hcf
    ⟨F, ρ, O, ev, Res.post_imp (Res.post_bind h) (fun l ρ1 h1 F' H' O' p kvs e' s' hp r a => ⟨p, _, rfl, hp, trivial, fun od => by
      have fp := (a.ow p (List.mem_singleton_self _)).1
      have pO : p ∉ O' := (List.nodup_cons.mp a.nd).1
      have s2 : Same F' (upd F' p (.frz od (.dK kvs))) := same_upd fp _
      refine h1 (upd F' p (.frz od (.dK kvs))) _ O' (.ref p) ?_ (s'.trans s2) (fun z => nomatch z) (dict_rp upd_same (r.mono s2))
      refine ⟨fun b u q => ?_, e'.f0.trans s2, fun b o q hb => ?_, fun b g1 g2 g3 => ?_, e'.sl.mono s2 fun b hb => upd_ne fun z => pO (by rw [← z]; exact hb), e'.nd, fun q hq => ⟨?_, (e'.ow q hq).2⟩, e'.fx⟩
      · by_cases z : b = p
        · subst z; rw [upd_same] at q ⊢; exact q
        · rw [upd_ne z] at q ⊢; exact e'.sub b u q
      · rcases (a.ow p (List.mem_singleton_self _)).2 with z | z
        · rw [upd_ne fun k => hb (by rw [k]; exact z)]
          exact e'.h0 b o q hb
        · rw [upd_ne fun k => by rw [k, z] at q; cases q]
          exact e'.h0 b o q hb
      · rw [upd_ne fun k => by
          subst k
          rcases (a.ow b (List.mem_singleton_self _)).2 with z | z
          · exact g2 z
          · exact g1 z]
        exact e'.n0 b g1 g2 g3
      · rw [upd_ne fun k => pO (by rw [← k]; exact hq)]
        exact (e'.ow q hq).1⟩) fun _ _ h => h⟩
end
/-! ### d.items() -/
def itemsP : D → Option (List D)
  | .dict kvs => match cells kvs with
    | some _ => none
    | none => some (kvs.map fun p => .tuple [p.1, p.2])
  | _ => none
def mItemsP (a : M D) : M (List D) := fun ρ => (a ρ).bind fun x ρ1 => ofO (itemsP x) ρ1
section
variable {X : Cx} {c : Ct} {e : Expr} {pu : Bool} {me : M D} {elts : List Expr} {kk : Nat} {tpos apos cpos : Pos}
theorem si_items (he : PE X e (te X.K c false pu me)) (hbase : attributeBase e "items" X.env (eval e X.env) = eval e X.env := by rfl) (hline : (apos.endLine == cpos.line) = true := by rfl) :
    PI X (.Tuple elts kk tpos) (.Call (.Attribute e "items" apos) [] [] cpos) (ti X.K c pu (mItemsP me)) :=
  PI.imp (pi_items (pe_fits he) hbase hline) fun σ H R ⟨F, ρ, O, ev, h⟩ => by
    refine te_step ev h fun x ρ1 F1 H1 O1 v h1 e1 s1 q1 r1 fits => ?_
    obtain ⟨xs, hx, h3⟩ := post_ofO h1
    unfold itemsP at hx
    split at hx
    · rename_i kvs
      split at hx
      · cases hx
      · rename_i hno
        cases hx
        generalize e2 : PyData.dict kvs = z at r1
        cases r1 with
        | @dcK a ob kws ds ha rr =>
          cases e2
          refine ⟨a, ob, kws, rfl, e1.sub _ _ ha, ?_⟩
          exact h3 F1 H1 O1 _ e1 s1 q1 (itD_items ((fits _ rfl).2 _ (.inr ⟨_, e1.sub _ _ ha⟩)) ha rr)
        | scr ha rr => cases e2; simp [cells] at hno
        | _ => cases e2
    · cases hx
end
end DL
end
section
set_option maxRecDepth 100000
set_option maxHeartbeats 4000000
/-! The functional layer: what further built-ins compute. -/
namespace DL
open PySem PySem.Spec PyProof.Rows L2 PySem.W
/-- xs[::k], k 1 or -1 -/
def slStep (x k : D) : Option D := match x, k with
  | .list xs, .int i => if i = -1 then some (.list xs.reverse) else if i = 1 then some (.list xs) else none
  | _, _ => none
/-- range(i, j, k), k above 0 -/
def range3 (x y z : D) : Option (List D) := match x, y, z with
  | .int i, .int j, .int k => if 0 < k ∧ k < 2 ^ 20 ∧ -(2 ^ 20) < i ∧ i < 2 ^ 20 ∧ -(2 ^ 20) < j ∧ j < 2 ^ 20 then some ((List.range ((j - i + k - 1) / k).toNat).map fun m => .int (i + (m : Nat) * k)) else none
  | _, _, _ => none
def mRange3 (a b c : M D) : M (List D) := fun ρ => (a ρ).bind fun x ρ1 => (b ρ1).bind fun y ρ2 => (c ρ2).bind fun z ρ3 => ofO (range3 x y z) ρ3
def enumA : D → Option (List D)
  | .list xs => some (enumD xs)
  | .tuple xs => some (enumD xs)
  | _ => none
def mEnumA (a : M D) : M (List D) := fun ρ => (a ρ).bind fun x ρ1 => ofO (enumA x) ρ1
def ltS (a b : Str) : Bool := decide (a.cps.toList < b.cps.toList)
def seqOf : D → Option (List D)
  | .list xs => some xs
  | .tuple xs => some xs
  | _ => none
/-- min, max of texts or of ints -/
def bestD (p : Str → Str → Bool) (q : Int → Int → Bool) (x : D) : Option D := (seqOf x).bind fun xs => match allStr xs with
  | some (z :: l) => some (.str (l.foldl (fun a b => if p b a = true then b else a) z))
  | _ => match intsD xs with
    | some (z :: l) => some (.int (l.foldl (fun a b => if q b a = true then b else a) z))
    | _ => none
def mnD (x : D) : Option D := bestD ltS (fun a b => decide (a < b)) x
def mxD (x : D) : Option D := bestD (fun a b => ltS b a) (fun a b => decide (b < a)) x
def mSetOr (a b : M (List Str)) : M (List Str) := fun ρ => (a ρ).bind fun l ρ1 => (b ρ1).bind fun m ρ2 => if l.length + m.length ≤ 30 then .ok (l ++ m) ρ2 else .bad
/-! ### the combinators' own rows -/
section
variable {α β : Type}
@[simp] theorem mRange3_d (a b c : M D) (ρ : Env) : mRange3 a b c ρ = (a ρ).bind fun x ρ1 => (b ρ1).bind fun y ρ2 => (c ρ2).bind fun z ρ3 => ofO (range3 x y z) ρ3 := rfl
@[simp] theorem mEnumA_d (a : M D) (ρ : Env) : mEnumA a ρ = (a ρ).bind fun x ρ1 => ofO (enumA x) ρ1 := rfl
@[simp] theorem mSetOr_d (a b : M (List Str)) (ρ : Env) : mSetOr a b ρ = (a ρ).bind fun l ρ1 => (b ρ1).bind fun m ρ2 => if l.length + m.length ≤ 30 then .ok (l ++ m) ρ2 else .bad := rfl
@[simp] theorem mItemsP_d (a : M D) (ρ : Env) : mItemsP a ρ = (a ρ).bind fun x ρ1 => ofO (itemsP x) ρ1 := rfl
@[simp] theorem mDcF_d (m : M KD) (ρ : Env) : mDcF m ρ = (m ρ).bind fun l ρ1 => .ok (dK l) ρ1 := rfl
@[simp] theorem mDcO_d (m : M KD) (ρ : Env) : mDcO m ρ = (m ρ).bind fun l ρ1 => .ok (.dct (l.map fun p => (kD p.1, p.2))) ρ1 := rfl
@[simp] theorem mSetC_d (m : M (List D)) (ρ : Env) : mSetC m ρ = (m ρ).bind fun ys ρ1 => if ys.length ≤ scanBound - 2 then ofO (allStr ys) ρ1 else .bad := rfl
@[simp] theorem bindN_some (a : α) (ρ : Env) (k : α → Env → Res β) : (Res.ok a ρ).bindN k = k a ρ := rfl
/-- a clause's loop by a pure function: each item gives its list, the slots are as they were -/
theorem cLoop_pure {c : FC} {b : M (List D)} {p : D → Bool} {g : D → List D} {ρ : Env} : ∀ {xs : List D}, (∀ x ∈ xs, ∃ ρ1 ρ2, c.t x ρ = some ρ1 ∧ c.tst ρ1 = .ok (p x) ρ2 ∧ (p x = false → wipeE ρ2 c.vs = ρ) ∧ (p x = true → ∃ ρ3, b ρ2 = .ok (g x) ρ3 ∧ wipeE ρ3 c.vs = ρ)) → cLoop c b xs ρ = .ok ((xs.filter p).flatMap g) ρ
  | [], _ => rfl
  | x :: xs, h => by
    obtain ⟨ρ1, ρ2, h1, h2, h3, h4⟩ := h x List.mem_cons_self
    have ih := cLoop_pure (xs := xs) fun y hy => h y (List.mem_cons_of_mem _ hy)
    have hd : cLoop c b (x :: xs) ρ = match c.t x ρ with
      | none => .bad
      | some ρ1 => (c.tst ρ1).bindN fun k ρ2 => if k = true then (b ρ2).bindN fun ys ρ3 => (cLoop c b xs (wipeE ρ3 c.vs)).bindN fun zs ρ4 => .ok (ys ++ zs) ρ4 else cLoop c b xs (wipeE ρ2 c.vs) := rfl
    rw [hd, h1]
    simp only [h2, bindN_ok]
    cases hp : p x with
    | false => rw [if_neg Bool.false_ne_true, h3 hp, ih, List.filter_cons_of_neg (by simp [hp])]
    | true =>
      obtain ⟨ρ3, h5, h6⟩ := h4 hp
      rw [if_pos rfl, h5, List.filter_cons_of_pos hp]
      simp only [bindN_ok, h6, ih, List.flatMap_cons]
/-- a dict comprehension's elements gathered -/
theorem mDc_of {vs : List Nat} {it : M (List D)} {t : D → Env → Option Env} {tst : M Bool} {k v : M D} {ρ ρ1 : Env} {xs ys : List D} (h1 : it ρ = .ok xs ρ1) (hd : dataAt ρ1 vs = true) (h2 : cLoop ⟨vs, t, tst⟩ (cEnd (mPairE k v)) xs (wipeE ρ1 vs) = .ok ys (wipeE ρ1 vs)) (hl : ys.length ≤ sizeLine) :
    mDc vs it t tst k v ρ = .ok (kdsOf ys) (backE ρ1 vs (wipeE ρ1 vs)) := by
  unfold mDc mLcN
  simp only [h1, bind_ok, hd, if_true, h2, bindN_ok, hl]
theorem mLcN_of {c : FC} {it : M (List D)} {b : M (List D)} {ρ ρ1 : Env} {xs ys : List D} (h1 : it ρ = .ok xs ρ1) (hd : dataAt ρ1 c.vs = true) (h2 : cLoop c b xs (wipeE ρ1 c.vs) = .ok ys (wipeE ρ1 c.vs)) : mLcN c it b ρ = .ok ys (backE ρ1 c.vs (wipeE ρ1 c.vs)) := by
  unfold mLcN
  simp only [h1, bind_ok, hd, if_true, h2, bindN_ok]
theorem mLc2_of {vs vs1 : List Nat} {it it1 : M (List D)} {t t1 : D → Env → Option Env} {tst tst1 : M Bool} {e : M D} {ρ ρ' : Env} {ys : List D} (h : mLcN ⟨vs, t, tst⟩ it (cIn ⟨vs1, t1, tst1⟩ it1 (cEnd e)) ρ = .ok ys ρ') (hl : ys.length ≤ sizeLine) : mLc2 vs it t tst vs1 it1 t1 tst1 e ρ = .ok ys ρ' := by
  unfold mLc2
  rw [h]
  simp only [bind_ok, hl, if_true]
end
end DL
end
section
set_option maxRecDepth 100000
set_option maxHeartbeats 4000000
/-! The functional layer: enumerate of a tuple, ranges with a step, min, max, slices with a step. -/
namespace DL
open PySem PySem.Spec PyProof.Rows L2 PySem.W
open PySem.AutoSeq1 (wpAny_loadPart')
/-! ### enumerate(t), t a tuple -/
theorem enum_newT (l : Addr) (its : Array Value) (n : Nat) (dct : Option Addr) (sl : Array (Option Value)) : Meets (Builtin.«enumerate.__new__» ⟨[.type "enumerate", .ref l], []⟩) (fun _ R s => s.heap.get? l = some { cls := .type "tuple", dict := dct, data := .seq its n, slots := sl } ∧
      R (.ok (.ret (.ref (s.heap.push { cls := .type "tuple_iterator", data := .fields #[.ref l, .int 0 0] }).objs.size)))
        { s with heap := (s.heap.push { cls := .type "tuple_iterator", data := .fields #[.ref l, .int 0 0] }).push { cls := .type "enumerate", data := .fields #[.none, .bool false, .ref s.heap.objs.size, rawInt 0, .none, .none] } }) :=
  .of_wp fun prog w A R s h => by
    obtain ⟨hp, g, d, tk, os⟩ := s
    obtain ⟨hl, h⟩ := h
    have hsub := PySem.sub_enumerate
    have hL : Heap.IsTuple (Shared.heap ⟨hp, g, d, tk, os⟩) l its := ⟨_, hl, rfl, n, rfl⟩
    wp_walk using wpAny_loadPart' hl
    refine wpAny_stack_any fun st => wpAny_pure ?_
    split
    · rename_i c _ _ _ _ _
      cases (c == Value.type "enumerate") <;> (wp_walk using wpAny_loadPart' hl, wpAny_pyIter_tuple hL; exact ⟨_, rfl, h⟩)
    · wp_walk using wpAny_loadPart' hl, wpAny_pyIter_tuple hL
      exact ⟨_, rfl, h⟩
section
variable {prog : Program} {w : World} {A : Around} {E : Value → Shared → Prop} {s : Shared}
theorem call_enumT {l : Addr} {its : Array Value} {Q : Value → Shared → Prop} (hL : s.heap.IsTuple l its)
    (h : ∀ h', IsEnum h' (s.heap.objs.size + 1) s.heap.objs.size 0 .none → h'.IsTupleIter s.heap.objs.size l 0 → (∀ b o, s.heap.get? b = some o → h'.get? b = some o) → Q (.ref (s.heap.objs.size + 1)) { s with heap := h' }) :
    wpAny (model prog w) A (call (.type "enumerate") [.ref l]) Q E s := by
  obtain ⟨⟨c, dct, dt, sl⟩, hl, hc, n, hd⟩ := hL
  simp only at hc hd
  subst hc hd
  refine callType_new F.called_enumerate (by decide) (F.typeCall_enumerate_1 _) (F.newCall_enumerate_1 _) (fun obj => F.args_object_init_2 obj _) F.entry_enumerate_new (enum_newT l its n dct sl) ⟨hl, ?_⟩
  generalize hz1 : s.heap.push { cls := .type "tuple_iterator", data := .fields #[.ref l, .int 0 0] } = h1
  have hz : h1.objs.size = s.heap.objs.size + 1 := by rw [← hz1]; exact Heap.size_push ..
  have hi : h1.get? s.heap.objs.size = some { cls := .type "tuple_iterator", data := .fields #[.ref l, .int 0 0] } := by rw [← hz1]; exact Heap.get?_push_size _ rfl
  have hk : ∀ b o, s.heap.get? b = some o → h1.get? b = some o := fun b o z => by rw [← hz1]; exact Heap.get?_push_of_some _ z
  show _ ∧ _
  rw [hz]
  have he := Heap.get?_push_size h1 (o := { cls := .type "enumerate", data := .fields #[.none, .bool false, .ref s.heap.objs.size, rawInt 0, .none, .none] }) rfl
  rw [hz] at he
  exact ⟨⟨_, he, rfl⟩, h _ he ⟨_, Heap.get?_push_of_some _ hi, rfl, rfl⟩ fun b o z => Heap.get?_push_of_some _ (hk b o z)⟩
end
def ItEt (K : Frag) (a : Addr) (k : Nat) : It :=
  ⟨fun i H => ∃ (xs : List V) (x : V), SqT K H a xs ∧ xs.length = k ∧ xs[i]? = some x, fun i H v H' => ∃ T x, v = .ref T ∧ H T = none ∧ H' = upd H T (.tup [.int (i : Nat), x]) ∧ ∀ xs, SqT K H a xs → xs[i]? = some x, fun i H => ∃ xs : List V, SqT K H a xs ∧ xs.length = k ∧ k ≤ i⟩
theorem turn_enumT {P : Program} {w : World} {K : Frag} {elts : List Expr} {kk : Nat} {tpos : Pos} (a e it : Addr) (k : Nat) :
    Turn P w K (.Tuple elts kk tpos) (ItEt K a k) [e, it] e (fun i h => (∃ old, IsEnum h e it ((i : Nat) : Int) old) ∧ h.IsTupleIter it a i ∧ e ≠ it ∧ a ≠ it ∧ a ≠ e ∧ i ≤ k) where
  mem := by simp
  obj := fun i h st b hb => by
    obtain ⟨⟨old, he⟩, ⟨o, ho, hc, hd⟩, _⟩ := st
    rcases List.mem_cons.mp hb with z | z
    · rw [z]; exact ⟨_, he, fun v q => nomatch q⟩
    · rw [List.mem_singleton.mp z]; exact ⟨o, ho, fun v q => by rw [hd] at q; cases q⟩
  keep := fun i h h' st k => let ⟨⟨old, he⟩, hi, hne⟩ := st; ⟨⟨old, k e (by simp) _ he⟩, hi.at fun o q => k it (by simp) o q, hne⟩
  item := by
    intro X hP hw hK hc i pins s σ H E I hf st hg
    subst hP hw hK
    obtain ⟨⟨old, he⟩, hit, hne, hai, hae, hik⟩ := st
    obtain ⟨xs, x, hq, hxl, hx⟩ := hg
    obtain ⟨us, rv, p, hz⟩ := I.tuple hq
    obtain ⟨u, hu, ru⟩ := rv.get hx
    have hel : e < s.heap.objs.size := Heap.lt_size he
    have hil : it < s.heap.objs.size := by obtain ⟨_, q, _⟩ := hit; exact Heap.lt_size q
    have hu' : us.toArray[i]? = some u := by simpa using hu
    have hlt : i < us.toArray.size := (Array.getElem?_eq_some_iff.mp hu').1
    refine wpAny_pyNext_enum_itemD (Draws.tuple (prog := X.prog) (w := X.w) (A := X.A.in1) (I.ok.hd hc) it a hai us.toArray) he ⟨hit, p⟩ hlt hne (by simp [hne, Ne.symm hae]) fun y h' tk hy ho hit' hT hsz hk => ?_
    have ey : y = u := Option.some.inj (hy.symm.trans hu')
    subst ey
    refine ⟨_, rfl, wpAny_letOwnedTupleGo_enum (s := { s with heap := h', toks := tk + 1 }) ho fun h'' he' sb => ?_⟩
    have hT2 := (sb.2 s.heap.objs.size (Nat.ne_of_gt hel)).trans hT
    have new : ObjOk X.prog X.w (upd H s.heap.objs.size (.tup [.int (i : Nat), x])) h'' s.heap.objs.size (.tup [.int (i : Nat), x]) :=
      ⟨by show 2 ≤ sizeLine; decide, [.int i tk, y], .cons ⟨_, rfl⟩ (.cons ru .nil), ⟨_, hT2, rfl, _, rfl⟩⟩
    have I1 : L2.Inv X pins σ (upd H s.heap.objs.size (.tup [.int (i : Nat), x])) { s with heap := h'', toks := tk + 1 } :=
      I.turnedNew (ch := [e, it]) (t' := tk + 1) (fun b ob hb q => (sb.2 b (fun z => hb (by simp [z]))).trans (hk b ob (fun z => hb (by simp [z])) (fun z => hb (by simp [z])) q)) hf (Nat.le_refl _) new
    refine ⟨.ref s.heap.objs.size, _, I1, rfl, ⟨_, x, rfl, I.hok.fresh (Nat.le_refl _), rfl, fun ys hy => by rw [I.tuple_inj hy hq]; exact hx⟩, ⟨⟨y, ?_⟩, hit'.1.at fun o q => (sb.2 it (Ne.symm hne)).trans q, hne, hai, hae, by have := (List.getElem?_eq_some_iff.mp hx).1; omega⟩, fun b hb => ?_⟩
    · have e1 : ((i + 1 : Nat) : Int) = (i : Int) + 1 := by omega
      rw [e1]; exact he'
    · have hb' : b < s.heap.objs.size := by
        rcases List.mem_cons.mp hb with z | z
        · rw [z]; exact hel
        · rw [List.mem_singleton.mp z]; exact hil
      rw [upd_ne (Nat.ne_of_lt hb')]
      exact (hf b hb).1
  done := by
    intro X hP hw hK hc i pins s σ H E I hf st hg
    subst hP hw hK
    obtain ⟨⟨old, he⟩, hit, hne, hai, hae, hik⟩ := st
    obtain ⟨xs, hq, hxl, hx⟩ := hg
    obtain ⟨us, rv, p, hz⟩ := I.tuple hq
    obtain ⟨f0, f1, f2, f3, f4, f5⟩ := hf it (by simp)
    have hl := rv.length
    have ei : i = us.toArray.size := by simp; omega
    subst ei
    exact wpAny_pyNext_enum_endD (Draws.tuple (prog := X.prog) (w := X.w) (A := X.A.in1) (I.ok.hd hc) it a hai us.toArray) he ⟨hit, p⟩ fun h' eb => ⟨rfl, I.turned (t' := s.toks) (fun b o hb q => eb b o hb q) f0 f1 f3 f4 f5⟩
  self := fun A i s Q E st h => let ⟨⟨_, he⟩, _⟩ := st; wpAny_pyIter_enum he h
def iEnumT (K : Frag) (ta : TA) : TI := fun σ H R => ta σ H fun vs H1 => ∃ a xs, vs = [.ref a] ∧ SqT K H1 a xs ∧ R (ItEt K a xs.length) H1
theorem pi_enumT {X : Cx} {e : Expr} {ta : TA} {p pos tpos : Pos} {elts : List Expr} {kk : Nat} (hg : Gl X "enumerate") (hm : X.mg "enumerate" = none) (ha : PA X [e] ta) (hs : starEach [e] X.env = [(false, eval e X.env)] := by rfl) :
    PI X (.Tuple elts kk tpos) (.Call (.Name "enumerate" p) [e] [] pos) (iEnumT X.K ta) := by
  refine ⟨fun pins s σ H R I h => ?_⟩
  refine Call_ (ld_blt I hg hm boot_enumerate (PyProof.Rows.callWith_type1 (thn (ha.run pos pins s σ H _ I h) fun us s1 ⟨vs, H1, I1, r1, q1⟩ => ?_) hs rfl))
  obtain ⟨a, xs, ex, hq, q⟩ := q1
  subst ex
  cases r1 with
  | cons r rr =>
    cases rr
    cases r
    obtain ⟨its, rv, p', hz⟩ := I1.tuple hq
    have hal : a < s1.heap.objs.size := by obtain ⟨o, ho, _⟩ := p'; exact Heap.lt_size ho
    refine call_enumT p' fun h' he hit hk => wpAny_pyIter_enum he ?_
    have I2 : L2.Inv X pins σ H1 { s1 with heap := h' } := I1.kept (t' := s1.toks) hk
    refine ⟨s1.heap.objs.size + 1, [s1.heap.objs.size + 1, s1.heap.objs.size], _, _, H1, rfl, I2, turn_enumT a (s1.heap.objs.size + 1) s1.heap.objs.size xs.length, ⟨⟨.none, he⟩, hit, Nat.succ_ne_self _, Nat.ne_of_lt hal, Nat.ne_of_lt (Nat.lt_succ_of_lt hal), Nat.zero_le _⟩, fun b hb => ?_, q⟩
    have hle : s1.heap.objs.size ≤ b := by
      rcases List.mem_cons.mp hb with z | z
      · rw [z]; exact Nat.le_add_right _ _
      · rw [List.mem_singleton.mp z]; exact Nat.le_refl _
    exact I1.fpOk hle (I1.hok.fresh hle)
theorem itD_enumT {K : Frag} {F : Hp} {a : Addr} {vs : List V} {ds : List D} (hz : ds.length ≤ sizeLine) (h : SqT K F a vs) (r : RpAll K F vs ds) : ItD K F (ItEt K a vs.length) (enumD ds) where
  few := by unfold enumD; rw [List.length_map, List.length_zipIdx]; exact hz
  go := fun F2 H2 s1 s2 i hi => by
    unfold enumD at hi
    rw [List.length_map, List.length_zipIdx] at hi
    obtain ⟨v, h1, _⟩ := getR r hi
    exact ⟨vs, v, sq_t (s1.trans s2) h, rfl, h1⟩
  yl := fun F2 H2 s1 s2 i x H3 hi y => by
    obtain ⟨T, v, rfl, hT, rfl, y1⟩ := y
    unfold enumD at hi ⊢
    rw [List.length_map, List.length_zipIdx] at hi
    obtain ⟨v', h1, r1⟩ := getR r hi
    have e1 := y1 vs (sq_t (s1.trans s2) h)
    rw [h1] at e1; cases e1
    have n := New.one s2 hT (.tup [.int (i : Nat), v])
    refine ⟨_, _, n, ?_, .tup (.of upd_same) (.cons (.int _) (.cons (r1.mono (s1.trans n.fF)) .nil))⟩
    simp [hi]
  st := fun F2 H2 s1 s2 i hi => by
    unfold enumD at hi
    rw [List.length_map, List.length_zipIdx] at hi
    exact ⟨vs, sq_t (s1.trans s2) h, rfl, by rw [r.length]; exact hi⟩
/-- a loop's source, one of two rules by what it comes to -/
theorem pi_or {X : Cx} {tg e : Expr} {w1 w2 : TI} (h1 : PI X tg e w1) (h2 : PI X tg e w2) : PI X tg e (fun σ H R => w1 σ H R ∨ w2 σ H R) := ⟨fun pins s σ H R I h => h.elim (h1.run pins s σ H R I) (h2.run pins s σ H R I)⟩
section
variable {X : Cx} {c : Ct} {e : Expr} {pu : Bool} {me : M D} {elts : List Expr} {kk : Nat} {tpos pos p : Pos}
theorem si_enumA (hm : X.mg "enumerate" = none) (ha : PE X e (te X.K c false pu me)) (hg : Gl X "enumerate" := by rfl) (hs : starEach [e] X.env = [(false, eval e X.env)] := by rfl) : PI X (.Tuple elts kk tpos) (.Call (.Name "enumerate" p) [e] [] pos) (ti X.K c pu (mEnumA me)) :=
  PI.imp (pi_or (pi_enum hg hm (pa_cons (pe_fits ha) pa_nil (by rw [hs]; rfl)) hs) (pi_enumT hg hm (pa_cons (pe_fits ha) pa_nil (by rw [hs]; rfl)) hs)) fun σ H R ⟨F, ρ, O, ev, h⟩ => by
    have hb := Res.post_bind h
    cases r : me ρ with
    | bad => rw [r] at hb; exact hb.elim
    | ex ξ ρ1 =>
      refine .inl ⟨F, ρ, O, ev, ?_⟩
      rw [r] at hb ⊢
      exact hb
    | ok x ρ1 =>
      rw [r] at hb
      obtain ⟨xs, hx, h3⟩ := post_ofO hb
      cases x with
      | list ds =>
        cases hx
        refine .inl ⟨F, ρ, O, ev, ?_⟩
        rw [r]
        intro F1 H1 O1 v e1 s1 q1 r1 fits
        cases r1 with
        | lst a1 b1 => exact ⟨_, _, rfl, sq_l e1.sub (.of a1), h3 F1 H1 O1 _ e1 s1 q1 (itD_enum (by rw [← b1.length]; exact (fits _ rfl).1 _ (.inl (sq_l e1.sub (.of a1)))) (.of a1) b1)⟩
      | tuple ds =>
        cases hx
        refine .inr ⟨F, ρ, O, ev, ?_⟩
        rw [r]
        intro F1 H1 O1 v e1 s1 q1 r1 fits
        cases r1 with
        | tup a1 b1 => exact ⟨_, _, rfl, sq_t e1.sub a1, h3 F1 H1 O1 _ e1 s1 q1 (itD_enumT (by rw [← b1.length]; exact (fits _ rfl).1 _ (.inr (sq_t e1.sub a1))) a1 b1)⟩
      | _ => cases hx
end
end DL
end
section
set_option maxRecDepth 100000
set_option maxHeartbeats 4000000
/-! The functional layer: min, max, ranges with a step, slices with a step. -/
namespace DL
open PySem PySem.Spec PyProof.Rows L2 PySem.W
/-! ### min, max of texts or of ints -/
theorem fold_str (z : Str) (l : List Str) : PySem.W.minD (.str z) (l.map .str) = .str (l.foldl (fun a b => if ltS b a = true then b else a) z) ∧ PySem.W.maxD (.str z) (l.map .str) = .str (l.foldl (fun a b => if ltS a b = true then b else a) z) := by
  unfold PySem.W.minD PySem.W.maxD
  constructor
  · induction l generalizing z with
    | nil => rfl
    | cons y l ih =>
      rw [List.map_cons, List.foldl_cons, List.foldl_cons, dataLt_str]
      have : (if decide (y.cps.toList < z.cps.toList) = true then PyData.str y else .str z) = .str (if ltS y z = true then y else z) := by unfold ltS; split <;> rfl
      rw [this]
      exact ih _
  · induction l generalizing z with
    | nil => rfl
    | cons y l ih =>
      rw [List.map_cons, List.foldl_cons, List.foldl_cons, dataLt_str]
      have : (if decide (z.cps.toList < y.cps.toList) = true then PyData.str y else .str z) = .str (if ltS z y = true then y else z) := by unfold ltS; split <;> rfl
      rw [this]
      exact ih _
theorem fold_int (z : Int) (l : List Int) : PySem.W.minD (.int z) (l.map .int) = .int (l.foldl (fun a b => if decide (b < a) = true then b else a) z) ∧ PySem.W.maxD (.int z) (l.map .int) = .int (l.foldl (fun a b => if decide (a < b) = true then b else a) z) := by
  unfold PySem.W.minD PySem.W.maxD
  constructor
  · induction l generalizing z with
    | nil => rfl
    | cons y l ih =>
      rw [List.map_cons, List.foldl_cons, List.foldl_cons, dataLt_int]
      have : (if decide (y < z) = true then PyData.int y else .int z) = .int (if decide (y < z) = true then y else z) := by split <;> rfl
      rw [this]
      exact ih _
  · induction l generalizing z with
    | nil => rfl
    | cons y l ih =>
      rw [List.map_cons, List.foldl_cons, List.foldl_cons, dataLt_int]
      have : (if decide (z < y) = true then PyData.int y else .int z) = .int (if decide (z < y) = true then y else z) := by split <;> rfl
      rw [this]
      exact ih _
theorem allStr_eq : ∀ {xs : List D} {l : List Str}, allStr xs = some l → xs = l.map .str
  | [], _, h => by cases h; rfl
  | .str x :: xs, l, h => by
    obtain ⟨l', h1, rfl⟩ := Option.map_eq_some_iff.mp (show (allStr xs).map (fun l => x :: l) = some l from h)
    rw [allStr_eq h1]; rfl
  | .none :: _, _, h => by cases h
  | .bool _ :: _, _, h => by cases h
  | .int _ :: _, _, h => by cases h
  | .list _ :: _, _, h => by cases h
  | .tuple _ :: _, _, h => by cases h
  | .dict _ :: _, _, h => by cases h
theorem intsD_eq : ∀ {xs : List D} {l : List Int}, intsD xs = some l → xs = l.map .int
  | [], _, h => by cases h; rfl
  | .int x :: xs, l, h => by
    obtain ⟨l', h1, rfl⟩ := Option.map_eq_some_iff.mp (show (intsD xs).map (x :: ·) = some l from h)
    rw [intsD_eq h1]; rfl
  | .none :: _, _, h => by cases h
  | .bool _ :: _, _, h => by cases h
  | .str _ :: _, _, h => by cases h
  | .list _ :: _, _, h => by cases h
  | .tuple _ :: _, _, h => by cases h
  | .dict _ :: _, _, h => by cases h
/-- a row of texts, or one of ints, of one at least -/
def FlatRow (ds : List D) : Prop := (∃ z, ∃ l : List Str, ds = .str z :: l.map .str) ∨ ∃ z, ∃ l : List Int, ds = .int z :: l.map .int
theorem best_row {p : Str → Str → Bool} {q : Int → Int → Bool} {x r : D} (h : bestD p q x = some r) : ∃ ds, seqOf x = some ds ∧ FlatRow ds := by
  obtain ⟨ds, h1, h2⟩ := Option.bind_eq_some_iff.mp h
  refine ⟨ds, h1, ?_⟩
  cases e : allStr ds with
  | some l =>
    have hd := allStr_eq e
    cases l with
    | nil =>
      rw [e] at h2
      subst hd
      cases h2
    | cons z l => exact .inl ⟨z, l, hd⟩
  | none =>
    rw [e] at h2
    cases e2 : intsD ds with
    | none => simp only [e2] at h2; cases h2
    | some l =>
      have hd := intsD_eq e2
      cases l with
      | nil => simp only [e2] at h2; cases h2
      | cons z l => exact .inr ⟨z, l, hd⟩
theorem row_alike {ds : List D} (h : FlatRow ds) : AlikeAll ds := by
  rcases h with ⟨z, l, rfl⟩ | ⟨z, l, rfl⟩
  · refine ⟨fun x hx y hy => ?_, fun x hx => ?_⟩
    · have a : ∀ x ∈ (PyData.str z :: l.map PyData.str), ∃ s, x = .str s := fun x hx => by
        rcases List.mem_cons.mp hx with rfl | hx
        · exact ⟨_, rfl⟩
        · obtain ⟨s, _, rfl⟩ := List.mem_map.mp hx; exact ⟨_, rfl⟩
      obtain ⟨s, rfl⟩ := a x hx
      obtain ⟨t, rfl⟩ := a y hy
      rfl
    · rcases List.mem_cons.mp hx with rfl | hx
      · exact fun z => by cases z
      · obtain ⟨s, _, rfl⟩ := List.mem_map.mp hx; exact fun z => by cases z
  · refine ⟨fun x hx y hy => ?_, fun x hx => ?_⟩
    · have a : ∀ x ∈ (PyData.int z :: l.map PyData.int), ∃ s, x = .int s := fun x hx => by
        rcases List.mem_cons.mp hx with rfl | hx
        · exact ⟨_, rfl⟩
        · obtain ⟨s, _, rfl⟩ := List.mem_map.mp hx; exact ⟨_, rfl⟩
      obtain ⟨s, rfl⟩ := a x hx
      obtain ⟨t, rfl⟩ := a y hy
      rfl
    · rcases List.mem_cons.mp hx with rfl | hx
      · exact fun z => by cases z
      · obtain ⟨s, _, rfl⟩ := List.mem_map.mp hx; exact fun z => by cases z
theorem row_depth {ds : List D} (h : FlatRow ds) : PyData.depthAll ds = 0 := by
  have gen : ∀ ds : List D, (∀ x ∈ ds, x.depth = 0) → PyData.depthAll ds = 0 := by
    intro ds
    induction ds with
    | nil => intro _; rw [PyData.depthAll]
    | cons x ds ih =>
      intro k
      rw [PyData.depthAll, k x List.mem_cons_self, ih fun y hy => k y (List.mem_cons_of_mem _ hy)]
      rfl
  refine gen ds fun x hx => ?_
  rcases h with ⟨z, l, rfl⟩ | ⟨z, l, rfl⟩
  · rcases List.mem_cons.mp hx with rfl | hx
    · rw [PyData.depth]
    · obtain ⟨s, _, rfl⟩ := List.mem_map.mp hx; rw [PyData.depth]
  · rcases List.mem_cons.mp hx with rfl | hx
    · rw [PyData.depth]
    · obtain ⟨s, _, rfl⟩ := List.mem_map.mp hx; rw [PyData.depth]
theorem row_reads {X : Cx} {pins : List (Addr × Obj)} {σ : Sl} {H F : Hp} {s : Shared} (I : L2.Inv X pins σ H s) (sm : Same F H) {ds : List D} (h : FlatRow ds) {vs : List V} {us : List Value} (r : RpAll X.K F vs ds) (rv : Vals vs us) : ∃ as, ReadsAll s.heap us ds as := by
  have gen : ∀ {ds : List D} {vs : List V} {us : List Value}, (∀ x ∈ ds, (∃ s, x = .str s) ∨ ∃ i, x = .int i) → RpAll X.K F vs ds → Vals vs us → ∃ as, ReadsAll s.heap us ds as := by
    intro ds
    induction ds with
    | nil =>
      intro vs us _ r rv
      cases r; cases rv
      exact ⟨_, .nil⟩
    | cons x ds ih =>
      intro vs us k r rv
      cases r with
      | cons r1 r2 =>
        cases rv with
        | cons v1 v2 =>
          obtain ⟨as, h2⟩ := ih (fun y hy => k y (List.mem_cons_of_mem _ hy)) r2 v2
          rcases k x List.mem_cons_self with ⟨t, rfl⟩ | ⟨i, rfl⟩
          · cases r1
            obtain ⟨t', rfl⟩ := v1
            exact ⟨_, .cons (.str _ _) h2⟩
          · cases r1
            obtain ⟨t', rfl⟩ := v1
            exact ⟨_, .cons (.int _ _) h2⟩
  refine gen (fun x hx => ?_) r rv
  rcases h with ⟨z, l, rfl⟩ | ⟨z, l, rfl⟩
  · rcases List.mem_cons.mp hx with rfl | hx
    · exact .inl ⟨_, rfl⟩
    · obtain ⟨s, _, rfl⟩ := List.mem_map.mp hx; exact .inl ⟨_, rfl⟩
  · rcases List.mem_cons.mp hx with rfl | hx
    · exact .inr ⟨_, rfl⟩
    · obtain ⟨s, _, rfl⟩ := List.mem_map.mp hx; exact .inr ⟨_, rfl⟩
theorem mn_eq {x : D} {y : D} {ys : List D} (hs : seqOf x = some (y :: ys)) (h : FlatRow (y :: ys)) : mnD x = some (PySem.W.minD y ys) ∧ mxD x = some (PySem.W.maxD y ys) := by
  unfold mnD mxD bestD
  rw [hs]
  have sm : ∀ l : List Str, allStr (l.map .str) = some l := by
    intro l
    induction l with
    | nil => rfl
    | cons a l ih => show (allStr (l.map .str)).map _ = _; rw [ih]; rfl
  have im : ∀ l : List Int, intsD (l.map .int) = some l := by
    intro l
    induction l with
    | nil => rfl
    | cons a l ih => show (intsD (l.map .int)).map _ = _; rw [ih]; rfl
  rcases h with ⟨z, l, e⟩ | ⟨z, l, e⟩
  · cases e
    have := sm (z :: l)
    rw [List.map_cons] at this
    rw [(fold_str z l).1, (fold_str z l).2]
    simp only [Option.bind_some, this]
    exact ⟨trivial, trivial⟩
  · cases e
    have := im (z :: l)
    rw [List.map_cons] at this
    have n : allStr (PyData.int z :: l.map .int) = none := rfl
    rw [(fold_int z l).1, (fold_int z l).2]
    simp only [Option.bind_some, this, n]
    exact ⟨trivial, trivial⟩
theorem reads_flat {h : Heap} {v : Value} {y : D} {ys : List D} {bs : List Addr} (hf : FlatRow (y :: ys)) (mx : Bool) (r : Reads h v (if mx = true then PySem.W.maxD y ys else PySem.W.minD y ys) bs) : ∃ u, RelV u v ∧ ∀ K F, Rp K F u (if mx = true then PySem.W.maxD y ys else PySem.W.minD y ys) := by
  rcases hf with ⟨z, l, e⟩ | ⟨z, l, e⟩
  · cases e
    rw [(fold_str z l).1, (fold_str z l).2] at r ⊢
    cases mx with
    | true => simp only [if_true] at r ⊢; cases r; exact ⟨.str _, ⟨_, rfl⟩, fun _ _ => .str _⟩
    | false => simp only [Bool.false_eq_true, if_false] at r ⊢; cases r; exact ⟨.str _, ⟨_, rfl⟩, fun _ _ => .str _⟩
  · cases e
    rw [(fold_int z l).1, (fold_int z l).2] at r ⊢
    cases mx with
    | true => simp only [if_true] at r ⊢; cases r; exact ⟨.int _, ⟨_, rfl⟩, fun _ _ => .int _⟩
    | false => simp only [Bool.false_eq_true, if_false] at r ⊢; cases r; exact ⟨.int _, ⟨_, rfl⟩, fun _ _ => .int _⟩
theorem cd_min {X : Cx} (hc : X.calm = true) (hu : X.A.units + 66 < cLine) : CallR X (.builtin "min") (rD1 X.K mnD) := by
  intro pins s σ H vs us Q I rv ⟨F, v, x, z, hv, sm, rx, hz, q⟩
  subst hv
  obtain ⟨ds, hs, hf⟩ := best_row hz
  cases ds with
  | nil => rcases hf with ⟨_, _, e⟩ | ⟨_, _, e⟩ <;> cases e
  | cons y ys =>
    have ez := (mn_eq hs hf).1
    have ez : PySem.W.minD y ys = z := Option.some.inj (ez.symm.trans hz)
    have al := row_alike hf
    have dp := row_depth hf
    have fin : ∀ (s' : Shared) (u : Value) (bs : List Addr), L2.Inv X pins σ H s' → Reads s'.heap u (PySem.W.minD y ys) bs → EP X pins σ Q u s' := fun s' u bs I' r => by
      obtain ⟨u', r1, r2⟩ := reads_flat hf false r
      exact ⟨u', H, I', r1, q F H u' (New.refl sm) (by rw [← ez]; exact r2 X.K F)⟩
    cases x with
    | list xs =>
      cases hs
      obtain ⟨p, ws, rfl, h1, r1⟩ := inv_list sm rx
      rw [Vals.ref1 rv]
      obtain ⟨its, ri, hl, hz'⟩ := I.list (.of h1)
      obtain ⟨as, rd⟩ := row_reads I sm hf r1 ri
      exact min_list_data (I.ok.hd hc) hl.isList (by simpa using rd) al (by rw [dp]; omega) fun i u h' tk bs _ r k => fin _ u bs (I.kept (t' := tk) k) r
    | tuple xs =>
      cases hs
      obtain ⟨p, ws, rfl, h1, r1⟩ := inv_tup rx
      rw [Vals.ref1 rv]
      obtain ⟨its, ri, hl, hz'⟩ := I.tuple (sq_t sm h1)
      obtain ⟨as, rd⟩ := row_reads I sm hf r1 ri
      exact min_tuple_data (I.ok.hd hc) hl (by simpa using rd) al (by rw [dp]; omega) fun i u h' tk bs _ r k => fin _ u bs (I.kept (t' := tk) k) r
    | _ => cases hs
theorem cd_max {X : Cx} (hc : X.calm = true) (hu : X.A.units + 66 < cLine) : CallR X (.builtin "max") (rD1 X.K mxD) := by
  intro pins s σ H vs us Q I rv ⟨F, v, x, z, hv, sm, rx, hz, q⟩
  subst hv
  obtain ⟨ds, hs, hf⟩ := best_row hz
  cases ds with
  | nil => rcases hf with ⟨_, _, e⟩ | ⟨_, _, e⟩ <;> cases e
  | cons y ys =>
    have ez := (mn_eq hs hf).2
    have ez : PySem.W.maxD y ys = z := Option.some.inj (ez.symm.trans hz)
    have al := row_alike hf
    have dp := row_depth hf
    have fin : ∀ (s' : Shared) (u : Value) (bs : List Addr), L2.Inv X pins σ H s' → Reads s'.heap u (PySem.W.maxD y ys) bs → EP X pins σ Q u s' := fun s' u bs I' r => by
      obtain ⟨u', r1, r2⟩ := reads_flat hf true r
      exact ⟨u', H, I', r1, q F H u' (New.refl sm) (by rw [← ez]; exact r2 X.K F)⟩
    cases x with
    | list xs =>
      cases hs
      obtain ⟨p, ws, rfl, h1, r1⟩ := inv_list sm rx
      rw [Vals.ref1 rv]
      obtain ⟨its, ri, hl, hz'⟩ := I.list (.of h1)
      obtain ⟨as, rd⟩ := row_reads I sm hf r1 ri
      exact max_list_data (I.ok.hd hc) hl.isList (by simpa using rd) al (by rw [dp]; omega) fun i u h' tk bs _ r k => fin _ u bs (I.kept (t' := tk) k) r
    | tuple xs =>
      cases hs
      obtain ⟨p, ws, rfl, h1, r1⟩ := inv_tup rx
      rw [Vals.ref1 rv]
      obtain ⟨its, ri, hl, hz'⟩ := I.tuple (sq_t sm h1)
      obtain ⟨as, rd⟩ := row_reads I sm hf r1 ri
      exact max_tuple_data (I.ok.hd hc) hl (by simpa using rd) al (by rw [dp]; omega) fun i u h' tk bs _ r k => fin _ u bs (I.kept (t' := tk) k) r
    | _ => cases hs
end DL
end
section
set_option maxRecDepth 100000
set_option maxHeartbeats 4000000
/-! The functional layer: an owned list that is data for the length of one statement. -/
namespace DL
open PySem PySem.Spec PyProof.Rows L2 PySem.W
def minusF (F : Hp) (p : Addr) : Hp := fun b => if b = p then none else F b
theorem minus_at {F : Hp} {p : Addr} : minusF F p p = none := if_pos rfl
theorem minus_ne {F : Hp} {p b : Addr} (h : b ≠ p) : minusF F p b = F b := if_neg h
theorem minus_none {F : Hp} {p b : Addr} (h : F b = none) : minusF F p b = none := by
  by_cases e : b = p
  · rw [e]; exact minus_at
  · rw [minus_ne e]; exact h
theorem minus_sub {F H : Hp} {p : Addr} (h : Same F H) : Same (minusF F p) H := fun b u q => by
  by_cases e : b = p
  · rw [e, minus_at] at q; cases q
  · rw [minus_ne e] at q; exact h b u q
theorem minus_of {F F' : Hp} {p : Addr} (h : Same F F') (n : F p = none) : Same F (minusF F' p) := fun b u q => by
  by_cases e : b = p
  · rw [e, n] at q; cases q
  · rw [minus_ne e]; exact h b u q
/-! ### data without lists and dicts -/
mutual
def flatB : PyData → Bool
  | .none => true
  | .bool _ => true
  | .int _ => true
  | .str _ => true
  | .tuple xs => flatL xs
  | _ => false
def flatL : List PyData → Bool
  | [] => true
  | x :: xs => flatB x && flatL xs
end
theorem flatL_of {xs : List PyData} (h : ∀ x ∈ xs, flatB x = true) : flatL xs = true := by
  induction xs with
  | nil => rw [flatL]
  | cons x xs ih => rw [flatL, h x (by simp), ih fun y hy => h y (by simp [hy])]; rfl
section
variable {K : Frag} {F : Hp} {p : Addr} {ws : List V}
mutual
theorem rp_minus (hp : F p = some (.lst ws)) : ∀ {v : V} {x : D}, Rp K F v x → flatB x = true → Rp K (minusF F p) v x
  | _, _, .non, _ => .non
  | _, _, .bl b, _ => .bl b
  | _, _, .int i, _ => .int i
  | _, _, .str x, _ => .str x
  | _, _, .lst h r, e => by rw [flatB] at e; cases e; all_goals (intros; contradiction)
  | _, _, .scr h r, e => by rw [flatB] at e; cases e; all_goals (intros; contradiction)
  | _, _, .tup h r, e => by
    rw [flatB] at e
    refine .tup ?_ (rpAll_minus hp r e)
    rcases h with (h | ⟨o, h⟩) | h
    · refine .inl (.inl ?_)
      rw [minus_ne fun z => ?_]
      · exact h
      · rw [z, hp] at h; cases h
    · refine .inl (.inr ⟨o, ?_⟩)
      rw [minus_ne fun z => ?_]
      · exact h
      · rw [z, hp] at h; cases h
    · exact .inr h
  | _, _, .dcK h r, e => by rw [flatB] at e; cases e; all_goals (intros; contradiction)
theorem rpAll_minus (hp : F p = some (.lst ws)) : ∀ {vs : List V} {xs : List D}, RpAll K F vs xs → flatL xs = true → RpAll K (minusF F p) vs xs
  | _, _, .nil, _ => .nil
  | _, _, .cons h r, e => by
    rw [flatL, Bool.and_eq_true] at e
    exact .cons (rp_minus hp h e.1) (rpAll_minus hp r e.2)
end
end
/-! ### the statement -/
def okSlot (k : Bool) : Option OV → Option OV → Prop
  | _, none => True
  | a, some (.d x) => flatB x = true ∨ (k = true ∧ a = some (.d x))
  | _, some (.lst ys) => flatL ys = true
  | _, _ => False
def okSlots (i : Nat) (fb : List Nat) : Nat → Env → Env → Prop
  | n, a :: ρ, b :: ρ' => (n = i ∨ okSlot (fb.contains n) a b) ∧ okSlots i fb (n + 1) ρ ρ'
  | _, [], [] => True
  | _, _, _ => False
theorem okSlots_at {i : Nat} {fb : List Nat} : ∀ {n : Nat} {ρ ρ' : Env}, okSlots i fb n ρ ρ' → ∀ {j : Nat} {b : Option OV}, ρ'[j]? = some b → ∃ a, ρ[j]? = some a ∧ (n + j = i ∨ okSlot (fb.contains (n + j)) a b)
  | n, a :: ρ, b :: ρ', h, 0, b', e => by
    simp at e
    subst e
    exact ⟨a, rfl, h.1⟩
  | n, a :: ρ, b :: ρ', h, j + 1, b', e => by
    obtain ⟨a', k1, k2⟩ := okSlots_at h.2 (j := j) (b := b') (by simpa using e)
    refine ⟨a', by simpa using k1, ?_⟩
    rw [show n + (j + 1) = n + 1 + j from by omega]
    exact k2
  | n, [], [], _, j, b', e => by simp at e
  | n, [], _ :: _, h, _, _, _ => h.elim
  | n, _ :: _, [], h, _, _, _ => h.elim
open Classical in
/-- b, while the slot i's list is data; it is owned again behind it -/
noncomputable def sTmp (i : Nat) (fb : List Nat) (b : M Fl) : M Fl := fun ρ => match ρ[i]? with
  | some (some (.lst xs)) => match b (ρ.set i (some (.d (.list xs)))) with
    | .ok .nx ρ' => if ρ'[i]? = some (some (.d (.list xs))) ∧ okSlots i fb 0 (ρ.set i (some (.d (.list xs)))) ρ' then .ok .nx (ρ'.set i (some (.lst xs))) else .bad
    | _ => .bad
  | _ => .bad
theorem sTmp_ok {i : Nat} {fb : List Nat} {b : M Fl} {ρ ρ' : Env} {xs : List D} (h0 : ρ[i]? = some (some (.lst xs))) (h1 : b (ρ.set i (some (.d (.list xs)))) = .ok .nx ρ') (h2 : ρ'[i]? = some (some (.d (.list xs)))) (h3 : okSlots i fb 0 (ρ.set i (some (.d (.list xs)))) ρ') : sTmp i fb b ρ = .ok .nx (ρ'.set i (some (.lst xs))) := by
  unfold sTmp
  rw [h0]
  simp only [h1]
  exact if_pos ⟨h2, h3⟩
abbrev Ct.tmp (c : Ct) (fb : List Nat) (F H : Hp) (O : List Addr) (σ : Sl) : Ct := ⟨c.ca, F, H, O, fb, σ, c.W⟩
section
variable {K : Frag} {ca : Str → Addr} {F F2 H : Hp}
theorem SlR.conv : ∀ {σ : Sl} {ρ : Env} {O : List Addr}, SlR K ca F H σ ρ O → (∀ (j : Nat) v o A, σ[j]? = some (some v) → ρ[j]? = some (some o) → OwR K ca F H v o A → OwR K ca F2 H v o A) → SlR K ca F2 H σ ρ O
  | _, _, _, .nil, _ => .nil
  | _, _, _, .no r, k => .no (r.conv fun j v o A h1 h2 => k (j + 1) v o A (by simpa using h1) (by simpa using h2))
  | _, _, _, .so h r, k => .so (k 0 _ _ _ rfl rfl h) (r.conv fun j v o A h1 h2 => k (j + 1) v o A (by simpa using h1) (by simpa using h2))
end
def tsT (K : Frag) (c : Ct) (fb : List Nat) (m : M Fl) : TS := fun D σ H => ∃ F0 H0 O0 σ0, ts K (c.tmp fb F0 H0 O0 σ0) m D σ H
section
variable {X : Cx} {c : Ct} {st : Stmt} {b : M Fl}
theorem sv_tmp (i : Nat) (fb : List Nat) (hi : fb.contains i = true) (hc : (c.fx.all fun j => fb.contains j) = true) (hb : ∀ F H O σ, PS X st (ts X.K (c.tmp fb F H O σ) b)) : PS X st (ts X.K c (sTmp i fb b)) := by
  have hb' : PS X st (tsT X.K c fb b) := ⟨fun pins s σ H D I ⟨F0, H0, O0, σ0, q⟩ => (hb F0 H0 O0 σ0).run pins s σ H D I q⟩
  refine hb'.imp fun Dn σ H ⟨F, ρ, O, ev, h⟩ => ?_
  unfold sTmp at h
  cases q : ρ[i]? with
  | none => rw [q] at h; exact h.elim
  | some w =>
    rw [q] at h
    cases w with
    | none => exact h.elim
    | some o =>
      cases o with
      | lst xs =>
        simp only at h
        obtain ⟨v, A, R, h1, h2, h3, h4, hm⟩ := ev.take q
        cases h2 with
        | lst hp rr =>
          rename_i p ws
          have Fp : F p = none := (h3.ow p (by simp)).1
          have e2 := h4.frz h3
          have F1p : frzF F H [p] p = some (.lst ws) := by rw [frz_in (by simp), hp]
          have FF1 : Same F (frzF F H [p]) := frz_same fun q hq => (h3.ow q hq).1
          have r2 : Rp X.K (frzF F H [p]) (.ref p) (.list xs) := .lst F1p (rr.mono FF1)
          obtain ⟨R', k1, k2, _, k4⟩ := e2.sl.put (i := i) (List.getElem?_eq_some_iff.mp h1).1
          obtain ⟨O1, k5, k6⟩ := k4 (.ref p) (.d (.list xs)) [] (.d r2)
          rw [set_self h1, List.set_set] at k5
          have e3 : EnvR X.K c (frzF F H [p]) H σ (ρ.set i (some (.d (.list xs)))) O1 := ⟨e2.sub, e2.f0, e2.h0, e2.n0, k5, k6.nodup_iff.mpr (k2 e2.nd), fun p hp => e2.ow p (k1 p (k6.mem_iff.mp hp)), e2.fx⟩
          generalize hρ : ρ.set i (some (.d (.list xs))) = ρ1 at h e3
          refine ⟨frzF F H [p], H, O1, σ, frzF F H [p], ρ1, O1, ⟨e3.sub, Same.refl _, fun b o q _ => q, fun b _ _ q => q, e3.sl, e3.nd, fun p hp => ⟨(e3.ow p hp).1, .inl hp⟩, fun i _ => rfl⟩, ?_⟩
          cases hr : b ρ1 with
          | bad => rw [hr] at h; exact h.elim
          | ex ξ ρ' => rw [hr] at h; exact h.elim
          | ok f ρ' =>
            rw [hr] at h
            cases f with
            | bk => exact h.elim
            | ct => exact h.elim
            | rt o => exact h.elim
            | nx =>
              simp only at h
              split at h
              · rename_i hok
                obtain ⟨g1, g2⟩ := hok
                intro σ' F' H' O' e'
                -- as entered from c, the fixed slots aside
                have tr := e3.trans (c := { c with fx := [] }.at (frzF F H [p]) H O1 σ |> fun _ => c) (F := F') (H := H') (σ := σ') (ρ := ρ') (O := O') ⟨e'.sub, e'.f0, e'.h0, e'.n0, e'.sl, e'.nd, e'.ow, fun j hj => e'.fx j (by
                  have := List.all_eq_true.mp hc j hj
                  exact List.contains_iff_mem.mp this)⟩
                have F'p : F' p = some (.lst ws) := e'.f0 _ _ F1p
                have H'p : H' p = some (.lst ws) := e'.sub _ _ F'p
                have FF' : Same F F' := FF1.trans e'.f0
                have F3 : Same F (minusF F' p) := minus_of FF' Fp
                have sv : ∀ j, fb.contains j = true → σ'[j]? = σ[j]? := fun j hj => e'.fx j (List.contains_iff_mem.mp hj)
                obtain ⟨v', A', R2, u1, u2, u3, u4, um⟩ := tr.take g1
                rw [sv i hi, h1] at u1
                cases u1
                cases u2 with
                | d ru =>
                  have sl3 : SlR X.K c.ca (minusF F' p) H' σ' (ρ'.set i none) R2 := u4.sl.conv fun j v o A j1 j2 ow => by
                    by_cases hj : j = i
                    · subst hj
                      rw [List.getElem?_set_self (List.getElem?_eq_some_iff.mp g1).1] at j2
                      cases j2
                    · rw [List.getElem?_set_ne (Ne.symm hj)] at j2
                      obtain ⟨a, a1, a2⟩ := okSlots_at g2 j2
                      rw [Nat.zero_add] at a2
                      have a2 := a2.resolve_left hj
                      cases ow with
                      | d r =>
                        rcases a2 with z | ⟨z1, z2⟩
                        · exact .d (rp_minus F'p r z)
                        · subst z2
                          rw [← hρ, List.getElem?_set_ne (Ne.symm hj)] at a1
                          obtain ⟨w, B, w1, w2⟩ := ev.var a1
                          rw [sv j z1, w1] at j1
                          cases j1
                          cases w2 with
                          | d r0 => exact .d (r0.mono F3)
                      | lst g r => exact .lst g (rpAll_minus F'p r a2)
                      | dcK g r => exact absurd a2 (by intro z; exact z)
                      | dcT g r => exact absurd a2 (by intro z; exact z)
                      | obj _ _ _ => exact absurd a2 (by intro z; exact z)
                  have pR2 : p ∉ R2 := fun z => by
                    have := (u4.ow p z).1
                    rw [F'p] at this; cases this
                  have len : i < σ'.length := by
                    have z := sv i hi
                    rw [h1] at z
                    exact (List.getElem?_eq_some_iff.mp z).1
                  have hv : σ'[i]? = some (some (.ref p)) := by rw [sv i hi, h1]
                  obtain ⟨R3, m1, m2, _, m4⟩ := sl3.put (i := i) len
                  obtain ⟨O3, m5, m6⟩ := m4 (.ref p) (.lst xs) [p] (.lst H'p (rr.mono F3))
                  rw [set_self hv, List.set_set] at m5
                  refine h σ' (minusF F' p) H' O3 ⟨minus_sub tr.sub, ?_, tr.h0, fun b z1 z2 z3 => minus_none (tr.n0 b z1 z2 z3), m5, m6.nodup_iff.mpr ?_, fun q hq => ?_, tr.fx⟩
                  · exact minus_of tr.f0 (by
                      cases z : c.F p with
                      | none => rfl
                      | some u => rw [ev.f0 _ _ z] at Fp; cases Fp)
                  · rw [List.singleton_append, List.nodup_cons]
                    exact ⟨fun z => pR2 (m1 p z), m2 u4.nd⟩
                  · rcases List.mem_append.mp (m6.mem_iff.mp hq) with z | z
                    · rw [List.mem_singleton] at z
                      subst z
                      exact ⟨minus_at, (h3.ow q (by simp)).2⟩
                    · exact ⟨minus_none (u4.ow q (m1 q z)).1, (u4.ow q (m1 q z)).2⟩
              · exact h.elim
      | _ => exact h.elim
end
end DL
end
section
set_option maxRecDepth 100000
set_option maxHeartbeats 4000000
/-! Set tables laid anew: every mask of 3 to 7 bits has room. -/
namespace DL
open PySem PySem.Spec PyProof.Rows L2 PySem.W
def Mk (m : Nat) : Prop := m = 7 ∨ m = 15 ∨ m = 31 ∨ m = 63 ∨ m = 127
def itS (m : Nat) : Nat → Nat → Nat
  | 0, i => i
  | b + 1, i => itS m b ((i * 5 + 1) % (m + 1))
theorem itS_add (m : Nat) : ∀ (a b i : Nat), itS m (a + b) i = itS m b (itS m a i)
  | 0, b, i => by rw [Nat.zero_add]; rfl
  | a + 1, b, i => by rw [show a + 1 + b = (a + b) + 1 from by omega]; exact itS_add m a b _
def orbS (m : Nat) : Nat → Nat → List Nat
  | 0, i => [i]
  | n + 1, i => i :: orbS m n ((i * 5 + 1) % (m + 1))
theorem orb_mem (m : Nat) : ∀ (n i x : Nat), x ∈ orbS m n i → ∃ b, b ≤ n ∧ itS m b i = x
  | 0, i, x, h => by
    rw [orbS, List.mem_singleton] at h
    exact ⟨0, Nat.le_refl _, h.symm⟩
  | n + 1, i, x, h => by
    rw [orbS] at h
    rcases List.mem_cons.mp h with h | h
    · exact ⟨0, Nat.zero_le _, h.symm⟩
    · obtain ⟨b, hb, e⟩ := orb_mem m n _ x h
      exact ⟨b + 1, by omega, e⟩
def orbAll (m : Nat) : Bool := (List.range (m + 1)).all fun j => (orbS m m 0).contains j
theorem itS_all {m : Nat} (hm : Mk m) {j : Nat} (hj : j ≤ m) : ∃ b, b ≤ m ∧ itS m b 0 = j := by
  have h : orbAll m = true := by
    rcases hm with rfl | rfl | rfl | rfl | rfl <;> decide +kernel
  have := List.all_eq_true.mp h j (List.mem_range.mpr (by omega))
  exact orb_mem m m 0 j (List.contains_iff_mem.mp this)
theorem itS_round {m : Nat} (hm : Mk m) : itS m (m + 1) 0 = 0 := by
  rcases hm with rfl | rfl | rfl | rfl | rfl <;> decide +kernel
theorem itS_from {m : Nat} (hm : Mk m) {i j : Nat} (hi : i ≤ m) (hj : j ≤ m) : ∃ b, b < m + 1 ∧ itS m b i = j := by
  obtain ⟨a, ha, ea⟩ := itS_all hm hi
  obtain ⟨c, hc, ec⟩ := itS_all hm hj
  by_cases h : a ≤ c
  · refine ⟨c - a, by omega, ?_⟩
    rw [← ea, ← itS_add, show a + (c - a) = c from by omega, ec]
  · refine ⟨c + (m + 1) - a, by omega, ?_⟩
    rw [← ea, ← itS_add, show a + (c + (m + 1) - a) = (m + 1) + c from by omega, itS_add, itS_round hm, ec]
section
variable {m : Nat} {owner : Array (Option Nat)}
theorem pick_yes {i k : Nat} {y : Option Nat} {n : Nat} (h : (List.range n).find? (fun k => (oAt owner (i + k)).isNone) = some k) : pickR (some k) i y = some (i + k) ∧ oAt owner (i + k) = none := by
  have := List.find?_some h
  refine ⟨rfl, ?_⟩
  cases e : oAt owner (i + k) with
  | none => rfl
  | some _ => rw [e] at this; cases this
theorem free_zero : ∀ (f i : Nat), (∃ b, b < f ∧ oAt owner (itS m b i) = none) → ∃ j, SetTable.layClean.free m owner f i 0 = some j ∧ oAt owner j = none
  | 0, _, ⟨b, hb, _⟩ => absurd hb (Nat.not_lt_zero _)
  | f + 1, i, ⟨b, hb, e⟩ => by
    rw [free_succ]
    cases q : (List.range (SetTable.runEnd m i + 1 - i)).find? (fun k => (oAt owner (i + k)).isNone) with
    | some k => exact ⟨i + k, (pick_yes (y := none) q).1, (pick_yes (y := none) q).2⟩
    | none =>
      have n0 : oAt owner i ≠ none := fun z => by
        have ge : i ≤ SetTable.runEnd m i := by unfold SetTable.runEnd; split <;> omega
        have := List.find?_eq_none.mp q 0 (List.mem_range.mpr (by omega))
        rw [Nat.add_zero, z] at this
        exact this rfl
      cases b with
      | zero => exact absurd e n0
      | succ b =>
        have l1 : (SetTable.leap m i 0).1 = (i * 5 + 1) % (m + 1) := by
          unfold SetTable.leap
          simp
        have l2 : (SetTable.leap m i 0).2 = 0 := rfl
        rw [l1, l2]
        exact free_zero f _ ⟨b, by omega, e⟩
theorem free_any (hm : Mk m) {j : Nat} (hj : j ≤ m) (hf : oAt owner j = none) : ∀ (c i p : Nat), p < 32 ^ c → i ≤ m → ∃ j, SetTable.layClean.free m owner (m + 1 + c) i p = some j ∧ oAt owner j = none
  | 0, i, p, hp, hi => by
    have : p = 0 := by simpa using hp
    subst this
    obtain ⟨b, hb, e⟩ := itS_from hm hi hj
    exact free_zero (m + 1) i ⟨b, hb, by rw [e]; exact hf⟩
  | c + 1, i, p, hp, hi => by
    rw [show m + 1 + (c + 1) = (m + 1 + c) + 1 from rfl, free_succ]
    cases q : (List.range (SetTable.runEnd m i + 1 - i)).find? (fun k => (oAt owner (i + k)).isNone) with
    | some k => exact ⟨i + k, (pick_yes (y := none) q).1, (pick_yes (y := none) q).2⟩
    | none =>
      refine free_any hm hj hf c (SetTable.leap m i p).1 (SetTable.leap m i p).2 ?_ (leap_le m i p)
      show p / 32 < 32 ^ c
      rw [Nat.pow_succ] at hp
      exact (Nat.div_lt_iff_lt_mul (by omega)).mpr hp
theorem free_ok (hm : Mk m) {j : Nat} (hj : j ≤ m) (hf : oAt owner j = none) (h : Int) : ∃ j, SetTable.layClean.free m owner (SetTable.turns m) (SetTable.bits h % (m + 1)) (SetTable.bits h) = some j ∧ oAt owner j = none := by
  have := free_any hm hj hf 14 (SetTable.bits h % (m + 1)) (SetTable.bits h) (by
    have : SetTable.bits h < 2 ^ 64 := by
      unfold SetTable.bits
      omega
    omega) (Nat.le_of_lt_succ (Nat.mod_lt _ (Nat.succ_pos _)))
  exact this
structure Ow (m n : Nat) (owner : Array (Option Nat)) : Prop where
  sz : owner.size = m + 1
  all : ∀ k, k < n → ∃ j, j ≤ m ∧ oAt owner j = some k
  ps : ∃ ps : List Nat, ps.length = n ∧ ∀ j, j ≤ m → oAt owner j ≠ none → j ∈ ps
theorem Ow.init (m : Nat) : Ow m 0 (Array.replicate (m + 1) none) := ⟨by simp, fun k hk => absurd hk (Nat.not_lt_zero _), [], rfl, fun j hj e => absurd (oAt_init hj) e⟩
theorem Ow.step (hm : Mk m) {n : Nat} (W : Ow m n owner) (hl : n ≤ m) (h : Int) : ∃ j, SetTable.layClean.free m owner (SetTable.turns m) (SetTable.bits h % (m + 1)) (SetTable.bits h) = some j ∧ Ow m (n + 1) (owner.setIfInBounds j (some n)) := by
  obtain ⟨ps, hps, hin⟩ := W.ps
  obtain ⟨j0, h0, hn0⟩ := st_missing ps (m + 1) (by omega)
  have hj0 : oAt owner j0 = none := by
    cases z : oAt owner j0 with
    | none => rfl
    | some k => exact absurd (hin j0 (Nat.le_of_lt_succ h0) (by rw [z]; exact fun e => nomatch e)) hn0
  obtain ⟨j, e1, e2⟩ := free_ok hm (Nat.le_of_lt_succ h0) hj0 h
  have hjs : j < owner.size := by
    by_cases z : j < owner.size
    · exact z
    · have : oAt owner j = some 0 := by
        show owner.getD j (some 0) = some 0
        rw [Array.getD_eq_getD_getElem?, Array.getElem?_eq_none (by omega)]; rfl
      rw [this] at e2; cases e2
  have hself := oAt_set_self (some n) hjs
  have hjm : j ≤ m := by rw [W.sz] at hjs; omega
  refine ⟨j, e1, by rw [Array.size_setIfInBounds]; exact W.sz, fun k hk => ?_, j :: ps, by rw [List.length_cons, hps], fun i hi e => ?_⟩
  · by_cases c : k < n
    · obtain ⟨i, hi, e⟩ := W.all k c
      refine ⟨i, hi, ?_⟩
      rw [oAt_set_ne _ (fun z => by rw [z, e2] at e; cases e)]
      exact e
    · have : k = n := by omega
      subst this
      exact ⟨j, hjm, hself⟩
  · by_cases c : i = j
    · rw [c]; exact List.mem_cons_self
    · rw [oAt_set_ne _ c] at e
      exact List.mem_cons_of_mem _ (hin i hi e)
theorem fold_lay (hm : Mk m) : ∀ (rest : List Int) (n : Nat) (owner : Array (Option Nat)), Ow m n owner → n + rest.length ≤ m → ∃ owner', rest.foldl (stepF m) (some (owner, n)) = some (owner', n + rest.length) ∧ Ow m (n + rest.length) owner'
  | [], n, owner, W, _ => ⟨owner, rfl, W⟩
  | h :: rest, n, owner, W, hl => by
    rw [List.length_cons] at hl
    obtain ⟨j, e, W'⟩ := W.step hm (by omega) h
    obtain ⟨owner', f, W2⟩ := fold_lay hm rest (n + 1) _ W' (by omega)
    refine ⟨owner', ?_, by rw [List.length_cons, show n + (rest.length + 1) = n + 1 + rest.length from by omega]; exact W2⟩
    rw [List.foldl_cons, stepF_some e, f, List.length_cons, show n + 1 + rest.length = n + (rest.length + 1) from by omega]
end
theorem laid_ok {m fi mv : Nat} {le pl : Bool} (hm : Mk m) {hs : Array Int} (hn : hs.size ≤ m) : ∃ t' order, SetTable.laid m fi mv le pl hs = some (t', order) ∧ order.toList.Perm (List.range hs.size) ∧ Ris t'.place.toList ∧ t'.place.size = hs.size ∧ t'.dummies = #[] ∧ t'.mask = m ∧ t'.led = le := by
  obtain ⟨owner, f, W⟩ := fold_lay hm hs.toList 0 _ (Ow.init m) (by rw [Array.length_toList]; omega)
  rw [Nat.zero_add, Array.length_toList] at f W
  have e : SetTable.layClean m hs = some owner := by
    rw [layClean_eq, f]; rfl
  have hr : SetTable.laid m fi mv le pl hs = some ({ mask := m, place := ((liveOf m owner).map (·.1)).toArray, dummies := #[], finger := fi, led := le, moves := mv, plain := pl }, ((liveOf m owner).map (·.2)).toArray) := by
    show (SetTable.layClean m hs).bind _ = _
    rw [e]; rfl
  have ris := ris_live (fun j => owner.getD j none) (List.range (m + 1)) (by
    unfold Ris
    first | exact List.pairwise_lt_range | exact List.pairwise_lt_range _)
  have r1 : Ris ((liveOf m owner).map (·.1)) := ris.1
  have nd : ((liveOf m owner).map (·.1)).Nodup := List.Pairwise.imp (fun h => Nat.ne_of_lt h) r1
  have hlen : (liveOf m owner).length = hs.size := by
    obtain ⟨ps, p1, p2⟩ := W.ps
    have a := nat_nodup_len ((liveOf m owner).map (·.1)) ps nd fun x hx => by
      obtain ⟨q, hq, eq1⟩ := List.mem_map.mp hx
      obtain ⟨y, k⟩ := q
      have ey : y = x := eq1
      subst ey
      obtain ⟨b1, b2⟩ := (mem_live W.sz).1 hq
      exact p2 y b1 (by rw [b2]; exact fun z => nomatch z)
    have b := nat_nodup_len (List.range hs.size) ((liveOf m owner).map (·.2)) List.nodup_range fun k hk => by
      obtain ⟨j, b1, b2⟩ := W.all k (List.mem_range.mp hk)
      exact List.mem_map.mpr ⟨(j, k), (mem_live W.sz).2 ⟨b1, b2⟩, rfl⟩
    rw [List.length_map, p1] at a
    rw [List.length_map, List.length_range] at b
    omega
  refine ⟨_, _, hr, ?_, r1, ?_, rfl, rfl, rfl⟩
  · refine perm_range hs.size _ (by rw [List.length_map]; exact hlen) fun k hk => ?_
    obtain ⟨j, b1, b2⟩ := W.all k hk
    exact List.mem_map.mpr ⟨(j, k), (mem_live W.sz).2 ⟨b1, b2⟩, rfl⟩
  · rw [List.size_toArray, List.length_map, hlen]
theorem size_above {n : Nat} (h : n ≤ 120) : Mk (SetTable.sizeAbove n - 1) ∧ n ≤ SetTable.sizeAbove n - 1 ∧ SetTable.sizeAbove n ≤ 128 := by
  have : (List.range 121).all (fun n => (decide (SetTable.sizeAbove n - 1 = 7) || decide (SetTable.sizeAbove n - 1 = 15) || decide (SetTable.sizeAbove n - 1 = 31) || decide (SetTable.sizeAbove n - 1 = 63) || decide (SetTable.sizeAbove n - 1 = 127)) && decide (n ≤ SetTable.sizeAbove n - 1) && decide (SetTable.sizeAbove n ≤ 128)) = true := by decide +kernel
  have := List.all_eq_true.mp this n (List.mem_range.mpr (by omega))
  simp only [Bool.and_eq_true, Bool.or_eq_true, decide_eq_true_eq] at this
  obtain ⟨⟨h1, h2⟩, h3⟩ := this
  refine ⟨?_, h2, h3⟩
  unfold Mk
  rcases h1 with (((h | h) | h) | h) | h <;> simp [h]
/-- the rows in a new order -/
theorem order_perm {α : Type} {es : Array α} {order : Array Nat} (h : order.toList.Perm (List.range es.size)) : (order.filterMap (es[·]?)).toList.Perm es.toList := by
  have e1 : (order.filterMap (es[·]?)).toList = order.toList.filterMap (es[·]?) := by simp
  have e2 : (List.range es.size).filterMap (es[·]?) = es.toList := by
    have key : ∀ n, n ≤ es.size → (List.range n).filterMap (es[·]?) = es.toList.take n := fun n => by
      induction n with
      | zero => intro _; rfl
      | succ n ih =>
        intro hn
        have hlt : n < es.size := by omega
        have hlt2 : n < es.toList.length := by rw [Array.length_toList]; exact hlt
        rw [List.range_succ, List.filterMap_append, ih (by omega), List.take_add_one, List.getElem?_eq_getElem hlt2]
        rw [List.filterMap_cons_some (Array.getElem?_eq_getElem hlt)]
        rfl
    rw [key es.size (Nat.le_refl _), ← Array.length_toList, List.take_length]
  rw [e1, ← e2]
  exact h.filterMap _
end DL
end
section
set_option maxRecDepth 100000
set_option maxHeartbeats 4000000
/-! Sets of scanned members: room, walks, merging. -/
namespace DL
open PySem PySem.Spec PyProof.Rows L2 PySem.W
theorem setMerge_eq (s o : Addr) (each : Sem Unit) : setMerge s o each = (do
    if s == o then return
    let (eo, epoch, to) ← setState o
    if eo.isEmpty then return
    setRoomFor s eo.size
    let (_, _, ts) ← setState s
    match ts.road to with
    | .slotForSlot => storeSet s eo { to with finger := ts.finger, led := ts.led && to.led, moves := ts.moves, plain := ts.plain && to.plain }
    | .clean =>
      let (es, t) ← (do
        let some (t, order) := SetTable.laid ts.mask ts.finger ts.moves (led := ts.led && to.led) (plain := ts.plain && to.plain) (eo.map (·.1)) | unsupported "internal:set-table-without-room"
        let es' := order.filterMap (eo[·]?)
        if es'.size != eo.size then unsupported "internal:set-table-lost-an-element"
        pure (es', t) : Sem (Array (Int × Value) × SetTable))
      storeSet s es t
    | .oneByOne =>
      for (h, x) in ← setWalkUnseen o [s] (some s) do
        let _ ← holding [x] (setAddHashed s x h)
        each
        if (← setState o).2.1 != epoch then unsupported "set.changed-during-merge") := by rfl
theorem setWalk_eq (a : Addr) : setWalk a = (do
    let (es, epoch, t) ← setState a
    if ← setsByText then return pickOrder ((← ask).params.setOrder a epoch) es
    if !t.plain && es.size > 1 then return (← drawOrder es.size es.toList).toArray
    (do if !t.led && es.size > 1 then unsupported "set:maker-not-led" : Sem Unit)
    return es) := by rfl
section
variable {κ : Type} [DecidableEq κ] {P : Program} {w : World} {knd : KeyKind P w κ} {A : Around} {E : Value → Shared → Prop} {s : Shared} {a b : Addr} {ks ksA ksB : List κ} {es esA esB : Array (Int × Value)} {ep epA epB : Nat} {t tA tB : SetTable}
structure SetK (knd : KeyKind P w κ) (h : Heap) (a : Addr) (ks : List κ) (es : Array (Int × Value)) (ep : Nat) (t : SetTable) : Prop where
  ob : ∃ o, h.get? a = some o ∧ o.ExactSet ∧ o.data = .set es ep t
  rw : Rows knd es t ks
theorem SetK.sk {h : Heap} (S : SetK knd h a ks es ep t) : SK knd h a ks := by
  obtain ⟨⟨o, h1, h2, h3⟩, r⟩ := S
  exact ⟨o, es, ep, t, h1, h2, h3, r⟩
theorem SetK.of {h : Heap} (S : SK knd h a ks) : ∃ es ep t, SetK knd h a ks es ep t := by
  obtain ⟨o, es, ep, t, h1, h2, h3, r⟩ := S
  exact ⟨es, ep, t, ⟨o, h1, h2, h3⟩, r⟩
theorem SetK.keep {h h' : Heap} (S : SetK knd h a ks es ep t) (k : ∀ o, h.get? a = some o → h'.get? a = some o) : SetK knd h' a ks es ep t := by
  obtain ⟨⟨o, h1, h2⟩, r⟩ := S
  exact ⟨⟨o, k o h1, h2⟩, r⟩
theorem SetK.size {h : Heap} (S : SetK knd h a ks es ep t) : es.size = ks.length := by
  rw [← Array.length_toList, each_len S.rw.ent]
theorem store_k {h : Heap} {es' : Array (Int × Value)} {t' : SetTable} {ks' : List κ} (S : SetK knd h a ks es ep t) (r : Rows knd es' t' ks') : SetK knd (h.update a (Obj.putSet es' t')) a ks' es' (ep + 1) t' := by
  obtain ⟨⟨o, h1, h2, h3⟩, _⟩ := S
  obtain ⟨⟨o', e1, e2, e3⟩, _⟩ := sk_store h1 h2 h3 r
  exact ⟨⟨o', e1, e2, e3⟩, r⟩
theorem rows_order {order : Array Nat} {t' : SetTable} (r : Rows knd es t ks) (hp : order.toList.Perm (List.range es.size)) (ris : Ris t'.place.toList) (sz : t'.place.size = es.size) (dm : t'.dummies = #[]) (le : es.size ≤ t'.mask) (ld : w.params.followText "set-order" = true ∨ t'.led = true) : ∃ ks', ks'.Perm ks ∧ Rows knd (order.filterMap (es[·]?)) t' ks' := by
  have p := order_perm hp
  obtain ⟨ks', h1, h2⟩ := each_perm p r.ent
  have hz : (order.filterMap (es[·]?)).size = es.size := by rw [← Array.length_toList, p.length_eq, Array.length_toList]
  refine ⟨ks', h2, h1, h2.nodup_iff.mpr r.nd, by rw [hz]; exact r.low, ?_, ris, ld⟩
  unfold SetTable.fits SetTable.fill
  rw [dm, Bool.and_eq_true, beq_iff_eq, decide_eq_true_eq, hz, sz]
  exact ⟨rfl, by simpa using le⟩
theorem sizeLine_big : 4096 ≤ sizeLine := fits_of_scanBound' where
  fits_of_scanBound' : 4096 ≤ sizeLine := by rw [sizeLine_eq]; omega
/-- the table laid anew -/
theorem relay_k {wanted : Nat} {Q : Unit → Shared → Prop} (S : SetK knd s.heap a ks es ep t) (hw : wanted ≤ 120) (hn : es.size ≤ wanted)
    (hQ : ∀ h' ks' es' t', ks'.Perm ks → Heap.SameBut a s.heap h' → SetK knd h' a ks' es' (ep + 1) t' → Mk t'.mask → wanted ≤ t'.mask → Q () { s with heap := h' }) : wpAny (model P w) A (setRelay a wanted) Q E s := by
  have S0 := S
  obtain ⟨⟨o, ho, hx, hd⟩, r⟩ := S
  obtain ⟨m1, m2, m3⟩ := size_above hw
  obtain ⟨t', order, e, hp, T, e1, e2, e3, e4⟩ := laid_ok (m := SetTable.sizeAbove wanted - 1) (fi := t.finger) (mv := t.movedTo (SetTable.sizeAbove wanted - 1)) (le := t.led) (pl := t.plain) m1 (hs := es.map (·.1)) (by rw [Array.size_map]; omega)
  rw [Array.size_map] at hp e1
  have er : t.relaid (es.map (·.1)) wanted = some (t', order) := e
  obtain ⟨ks', p, r'⟩ := rows_order r hp T e1 e2 (by rw [e3]; omega) (by rw [e4]; exact r.led)
  have hs2 : (order.filterMap (es[·]?)).size = es.size := by rw [← Array.length_toList, (order_perm hp).length_eq, Array.length_toList]
  rw [setRelay_eq]
  refine wpAny_bind (wpAny_setState_of ho hd r.fit ?_)
  dsimp only
  refine wp_if_neg (by rw [sizeLine_eq]; omega) ?_
  try refine wpAny_bind (wpAny_pure ?_)
  rw [er]
  dsimp only
  refine wpAny_bind ?_
  refine wp_if_neg (by rw [hs2]; simp) ?_
  try refine wpAny_bind (wpAny_pure ?_)
  refine wpAny_pure ?_
  dsimp only
  refine wpAny_storeSet_of ho hd ?_ (by rw [hs2, sizeLine_eq]; omega)
  exact hQ _ ks' _ t' p (Heap.SameBut.update ..) (store_k S0 r') (by rw [e3]; exact m1) (by rw [e3]; exact m2)
theorem room_k {more : Nat} {Q : Unit → Shared → Prop} (S : SetK knd s.heap a ks es ep t) (hk : es.size + more ≤ 60) (hm : t.fill = 0 → t.mask = 7)
    (hQ : ∀ h' ks' es' ep' t', ks'.Perm ks → Heap.SameBut a s.heap h' → SetK knd h' a ks' es' ep' t' → (t'.fill = 0 → Mk t'.mask ∧ more ≤ t'.mask) → Q () { s with heap := h' }) : wpAny (model P w) A (setRoomFor a more) Q E s := by
  have S0 := S
  obtain ⟨⟨o, ho, hx, hd⟩, r⟩ := S
  have pz : t.place.size = es.size := by
    have := r.fit
    unfold SetTable.fits at this
    rw [Bool.and_eq_true, beq_iff_eq] at this
    exact this.1
  unfold setRoomFor
  refine wpAny_bind (wpAny_setState_of ho hd r.fit ?_)
  dsimp only
  by_cases c : (t.fill + more) * 5 ≥ t.mask * 3
  · have e : t.roomFor more = some ((t.place.size + more) * 2) := if_pos c
    rw [e]
    dsimp only
    exact relay_k S0 (by rw [pz]; omega) (by rw [pz]; omega) fun h' ks' es' t' p sb S' m1 m2 => hQ h' ks' es' _ t' p sb S' fun _ => ⟨m1, by rw [pz] at m2; omega⟩
  · have e : t.roomFor more = none := if_neg c
    rw [e]
    dsimp only
    refine wpAny_pure (hQ s.heap ks es ep t (.refl _) (Heap.SameBut.refl a s.heap) S0 fun z => ?_)
    have := hm z
    exact ⟨.inl this, by rw [z, this] at c; omega⟩
/-- a walk that nobody draws -/
theorem walk_k {Q : Array (Int × Value) → Shared → Prop} (S : SetK knd s.heap b ks es ep t) (hc : w.params.followText "set-order" = true ∨ t.plain = true ∨ es.size ≤ 1) (hQ : ∀ xs : Array (Int × Value), xs.toList.Perm es.toList → Q xs s) : wpAny (model P w) A (setWalk b) Q E s := by
  obtain ⟨⟨o, ho, hx, hd⟩, r⟩ := S
  rw [setWalk_eq]
  refine wpAny_bind (wpAny_setState_of ho hd r.fit ?_)
  dsimp only
  refine wpAny_bind (wpAny_byText ?_)
  cases hb : w.params.followText "set-order" with
  | true =>
    rw [if_pos rfl]
    exact wpAny_bind (wpAny_askSetting (wpAny_pure (hQ _ (pick_perm _ _))))
  | false =>
    rw [if_neg Bool.false_ne_true]
    have ld : t.led = true := r.led.resolve_left (by rw [hb]; exact Bool.false_ne_true)
    have nd : ¬ ((!t.plain && decide (es.size > 1)) = true) := by
      rcases hc with z | z | z
      · rw [hb] at z; cases z
      · rw [z]; simp
      · simp; omega
    refine wp_if_neg nd ?_
    try refine wpAny_bind (wpAny_pure ?_)
    refine wpAny_bind (wp_if_neg (by rw [ld]; simp) (wpAny_pure ?_))
    exact wpAny_pure (hQ es (.refl _))
end
end DL
end
section
set_option maxRecDepth 100000
set_option maxHeartbeats 4000000
/-! Sets of scanned members: merging, copies, unions. -/
namespace DL
open PySem PySem.Spec PyProof.Rows L2 PySem.W
section
variable {κ : Type} [DecidableEq κ] {P : Program} {w : World} {knd : KeyKind P w κ} {A : Around} {E : Value → Shared → Prop} {s : Shared} {a b : Addr} {ks ksA ksB : List κ} {es esA esB : Array (Int × Value)} {ep epA epB : Nat} {t tA tB : SetTable}
theorem forIn_arr {M : Model} {α β : Type} (f : α → β → Sem (ForInStep β)) (I : List α → β → Shared → Prop) (Q : β → Shared → Prop)
    (turn : ∀ x rest b s, I (x :: rest) b s → wpAny M A (f x b) (fun r s' => match r with | .yield b' => I rest b' s' | .done b' => Q b' s') E s)
    (fin : ∀ b s, I [] b s → Q b s) (xs : Array α) (b : β) (h : I xs.toList b s) : wpAny M A (forIn xs b f) Q E s := by
  rw [← Array.forIn_toList]
  exact wpAny_forIn_list f I Q turn fin _ b h
theorem entries_k {Q : Array (Int × Value) → Shared → Prop} (S : SetK knd s.heap b ks es ep t) (hQ : Q es s) : wpAny (model P w) A (setEntries b) Q E s := by
  obtain ⟨⟨o, ho, hx, hd⟩, r⟩ := S
  unfold setEntries
  exact wpAny_bind (wpAny_setState_of ho hd r.fit (wpAny_pure hQ))
theorem noref_k {h : Heap} (S : SetK knd h b ks es ep t) : ∀ e ∈ es.toList, ∀ c, e.2 ≠ .ref c := fun e he c z => by
  have := (ents_elems S.rw.ent e he).2
  rw [z] at this
  cases this
theorem quiet_k {sets : List Addr} {Q : Bool → Shared → Prop} (h : ∀ c ∈ sets, ∃ ks es ep t, SetK knd s.heap c ks es ep t) (hQ : Q true s) : wpAny (model P w) A (setsQuiet sets) Q E s := by
  unfold setsQuiet
  refine wpAny_bind (wpAny_forIn_list _ (fun rest r s' => r.1 = none ∧ s' = s ∧ ∀ c ∈ rest, ∃ ks es ep t, SetK knd s.heap c ks es ep t) _ (fun x rest r s' hI => ?_) (fun r s' hI => ?_) _ _ ⟨rfl, rfl, h⟩)
  · obtain ⟨h1, rfl, h3⟩ := hI
    obtain ⟨ks, es, ep, t, S⟩ := h3 x (by simp)
    refine wpAny_bind (entries_k S ?_)
    refine wpAny_bind (forIn_arr _ (fun rest r s2 => r.1 = none ∧ s2 = s' ∧ ∀ e ∈ rest, ∀ c, e.2 ≠ .ref c) _ (fun y rest r s2 hI => ?_) (fun r s2 hI => ?_) _ _ ⟨rfl, rfl, noref_k S⟩)
    · obtain ⟨g1, rfl, g3⟩ := hI
      have g := g3 y (by simp)
      obtain ⟨y1, y2⟩ := y
      cases y2 with
      | ref c => exact absurd rfl (g c)
      | _ => exact wpAny_pure ⟨rfl, rfl, fun e he => g3 e (by simp [he])⟩
    · obtain ⟨g1, rfl, _⟩ := hI
      obtain ⟨r1, r2⟩ := r
      have g1 : r1 = none := g1
      subst g1
      exact wpAny_pure ⟨rfl, rfl, fun c hc => h3 c (by simp [hc])⟩
  · obtain ⟨h1, rfl, _⟩ := hI
    obtain ⟨r1, r2⟩ := r
    have h1 : r1 = none := h1
    subst h1
    exact wpAny_pure hQ
theorem rows_flags {t' : SetTable} (r : Rows knd es t ks) (hp : t'.place = t.place) (hd : t'.dummies = t.dummies) (hm : t'.mask = t.mask) (hl : w.params.followText "set-order" = true ∨ t'.led = true) : Rows knd es t' ks := by
  refine ⟨r.ent, r.nd, r.low, ?_, by rw [hp]; exact r.ris, hl⟩
  have := r.fit
  unfold SetTable.fits SetTable.fill at *
  rw [hp, hd, hm]
  exact this
theorem walkUnseen_k {Q : Array (Int × Value) → Shared → Prop} (Sa : SetK knd s.heap a ksA esA epA tA) (Sb : SetK knd s.heap b ksB esB epB tB) (ne : a ≠ b)
    (hQ : ∀ h' (xs : Array (Int × Value)) epA' tA', xs.toList.Perm esB.toList → Heap.SameBut a s.heap h' → SetK knd h' a ksA esA epA' tA' → Q xs { s with heap := h' }) : wpAny (model P w) A (setWalkUnseen b [a] (some a)) Q E s := by
  have Sa0 := Sa
  have Sb0 := Sb
  obtain ⟨⟨o, ho, hx, hd⟩, r⟩ := Sb
  obtain ⟨⟨oa, hoa, hxa, hda⟩, ra⟩ := Sa
  unfold setWalkUnseen
  refine wpAny_bind (wpAny_setState_of ho hd r.fit ?_)
  dsimp only
  refine wpAny_bind (wpAny_byText ?_)
  have stay : ∀ xs : Array (Int × Value), xs.toList.Perm esB.toList → Q xs s := fun xs p => hQ s.heap xs epA tA p (Heap.SameBut.refl a s.heap) Sa0
  by_cases c : (w.params.followText "set-order" || (tB.led && tB.plain) || decide (esB.size ≤ 1)) = true
  · rw [if_pos c]
    refine walk_k Sb0 ?_ stay
    rw [Bool.or_eq_true, Bool.or_eq_true, Bool.and_eq_true, decide_eq_true_eq] at c
    rcases c with (c | c) | c
    · exact .inl c
    · exact .inr (.inl c.2)
    · exact .inr (.inr c)
  · rw [if_neg c]
    have nb : w.params.followText "set-order" = false := by
      cases z : w.params.followText "set-order" with
      | false => rfl
      | true => rw [z] at c; simp at c
    have lB : tB.led = true := r.led.resolve_left (by rw [nb]; exact Bool.false_ne_true)
    have lA : tA.led = true := ra.led.resolve_left (by rw [nb]; exact Bool.false_ne_true)
    refine wpAny_bind (quiet_k (knd := knd) (fun d hd => ?_) ?_)
    · rcases List.mem_cons.mp hd with rfl | hd
      · exact ⟨_, _, _, _, Sb0⟩
      · rw [List.mem_singleton] at hd
        subst hd
        exact ⟨_, _, _, _, Sa0⟩
    refine wp_if_neg (by simp) ?_
    try refine wpAny_bind (wpAny_pure ?_)
    refine wpAny_bind (wpAny_rule ?_)
    refine wpAny_bind (wpAny_setState_of hoa hda ra.fit ?_)
    dsimp only
    split
    · refine wpAny_bind (wpAny_storeSet_of hoa hda ?_ (fits_of_scanBound ra.low))
      refine wpAny_pure (hQ _ esB _ _ (.refl _) (Heap.SameBut.update ..) (store_k Sa0 (rows_flags ra rfl rfl rfl (.inr ?_))))
      show (tA.led && tB.led) = true
      rw [lA, lB]; rfl
    · try refine wpAny_bind (wpAny_pure ?_)
      exact wpAny_pure (stay esB (.refl _))
/-- one set merged into another -/
theorem merge_k {each : Sem Unit} {Q : Unit → Shared → Prop} (Sa : SetK knd s.heap a ksA esA epA tA) (Sb : SetK knd s.heap b ksB esB epB tB) (ne : a ≠ b) (room : esA.size + esB.size ≤ 60) (hm : tA.fill = 0 → tA.mask = 7)
    (he : ∀ (s1 : Shared) (Q1 : Unit → Shared → Prop), SetK knd s1.heap b ksB esB epB tB → Q1 () s1 → wpAny (model P w) A each Q1 E s1)
    (hQ : ∀ h' ks' es' ep' t', Heap.SameBut a s.heap h' → SetK knd h' a ks' es' ep' t' → (t'.fill = 0 → t'.mask = 7) → (∀ x, x ∈ ks' ↔ x ∈ ksA ∨ x ∈ ksB) → Q () { s with heap := h' }) : wpAny (model P w) A (setMerge a b each) Q E s := by
  have Sb0 := Sb
  obtain ⟨⟨o, ho, hx, hd⟩, r⟩ := Sb
  have szB : esB.size = ksB.length := Sb0.size
  rw [setMerge_eq]
  refine wp_if_neg (by rw [beq_iff_eq]; exact ne) ?_
  try refine wpAny_bind (wpAny_pure ?_)
  refine wpAny_bind (wpAny_setState_of ho hd r.fit ?_)
  dsimp only
  by_cases c0 : esB.isEmpty = true
  · rw [if_pos c0]
    have z : ksB = [] := by
      have : esB.size = 0 := by simpa using c0
      rw [szB] at this
      exact List.length_eq_zero_iff.mp this
    refine wpAny_pure (hQ s.heap ksA esA epA tA (Heap.SameBut.refl a s.heap) Sa hm fun x => ?_)
    rw [z]; simp
  rw [if_neg c0]
  have posB : 1 ≤ esB.size := by
    by_cases z : esB.size = 0
    · exact absurd (by simpa using z) c0
    · omega
  try refine wpAny_bind (wpAny_pure ?_)
  refine wpAny_bind (room_k Sa room hm fun h1 ks1 es1 ep1 t1 p1 sb1 S1 m1 => ?_)
  have len1 : ks1.length = ksA.length := p1.length_eq
  have szA : esA.size = ksA.length := Sa.size
  have S10 := S1
  have z1 : es1.size = ks1.length := S1.size
  obtain ⟨⟨o1, ho1, hx1, hd1⟩, r1⟩ := S1
  have pz1 : t1.place.size = es1.size := by
    have := r1.fit
    unfold SetTable.fits at this
    rw [Bool.and_eq_true, beq_iff_eq] at this
    exact this.1
  have Sb1 : SetK knd h1 b ksB esB epB tB := Sb0.keep fun u q => by rw [sb1.2 b (Ne.symm ne)]; exact q
  refine wpAny_bind (wpAny_setState_of (s := { s with heap := h1 }) ho1 hd1 r1.fit ?_)
  dsimp only
  have lead : w.params.followText "set-order" = true ∨ (t1.led && tB.led) = true := by
    rcases r1.led with z | z
    · exact .inl z
    · rcases r.led with y | y
      · exact .inl y
      · exact .inr (by rw [z, y]; rfl)
  have none1 : t1.fill = 0 → ks1 = [] := fun z => by
    unfold SetTable.fill at z
    exact List.length_eq_zero_iff.mp (by omega)
  have noneA : t1.fill = 0 → ksA = [] := fun z => by
    have := none1 z
    rw [this] at len1
    exact List.length_eq_zero_iff.mp (by simpa using len1.symm)
  have full : ∀ {h' : Heap} {ks' : List κ} {es' : Array (Int × Value)} {ep' : Nat} {t' : SetTable}, SetK knd h' a ks' es' ep' t' → ks' ≠ [] → (t'.fill = 0 → t'.mask = 7) := fun {h' ks' es' ep' t'} S' n z => by
    have := S'.rw.fit
    unfold SetTable.fits at this
    rw [Bool.and_eq_true, beq_iff_eq] at this
    have y := S'.size
    unfold SetTable.fill at z
    exact absurd (List.length_eq_zero_iff.mp (by omega)) n
  have nB : ksB ≠ [] := fun z => by rw [szB, z] at posB; exact absurd posB (by simp)
  cases hr : t1.road tB with
  | slotForSlot =>
    dsimp only
    have f0 : t1.fill = 0 := by
      unfold SetTable.road at hr
      by_cases z : t1.fill = 0
      · exact z
      · rw [if_pos (by simpa using z)] at hr; cases hr
    refine wpAny_storeSet_of (s := { s with heap := h1 }) ho1 hd1 ?_ (fits_of_scanBound r.low)
    have S' := store_k S10 (rows_flags (t' := { tB with finger := t1.finger, led := t1.led && tB.led, moves := t1.moves, plain := t1.plain && tB.plain }) r rfl rfl rfl lead)
    exact hQ _ ksB _ _ _ (sb1.trans (Heap.SameBut.update ..)) S' (full S' nB) fun x => by rw [noneA f0]; simp
  | clean =>
    dsimp only
    have f0 : t1.fill = 0 := by
      unfold SetTable.road at hr
      by_cases z : t1.fill = 0
      · exact z
      · rw [if_pos (by simpa using z)] at hr; cases hr
    obtain ⟨mk, mle⟩ := m1 f0
    obtain ⟨t', order, e, hp, T, e1, e2, e3, e4⟩ := laid_ok (m := t1.mask) (fi := t1.finger) (mv := t1.moves) (le := t1.led && tB.led) (pl := t1.plain && tB.plain) mk (hs := esB.map (·.1)) (by rw [Array.size_map]; exact mle)
    rw [Array.size_map] at hp e1
    obtain ⟨ks', p, r'⟩ := rows_order r hp T e1 e2 (by rw [e3]; exact mle) (by rw [e4]; exact lead)
    have hs2 : (order.filterMap (esB[·]?)).size = esB.size := by rw [← Array.length_toList, (order_perm hp).length_eq, Array.length_toList]
    rw [e]
    dsimp only
    refine wpAny_bind ?_
    refine wp_if_neg (by rw [hs2]; simp) ?_
    try refine wpAny_bind (wpAny_pure ?_)
    refine wpAny_pure ?_
    dsimp only
    refine wpAny_storeSet_of (s := { s with heap := h1 }) ho1 hd1 ?_ (by rw [hs2]; exact fits_of_scanBound r.low)
    have S' := store_k S10 r'
    exact hQ _ ks' _ _ _ (sb1.trans (Heap.SameBut.update ..)) S' (full S' (fun z => nB (List.length_eq_zero_iff.mp (by rw [← p.length_eq, z]; rfl)))) fun x => by rw [noneA f0, p.mem_iff]; simp
  | oneByOne =>
    dsimp only
    refine wpAny_bind (walkUnseen_k (s := { s with heap := h1 }) S10 Sb1 ne fun h2 xs ep2 t2 px sb2 S2 => ?_)
    obtain ⟨kr0, hkr, hkp⟩ := each_perm px r.ent
    refine wpAny_bind (forIn_arr _ (fun rest u s' => ∃ kr ks', EachIs (Ent knd) rest kr ∧ (∀ x, (x ∈ ks' ∨ x ∈ kr) ↔ (x ∈ ksA ∨ x ∈ ksB)) ∧ ks'.length + kr.length ≤ 60 ∧ Heap.SameBut a s.heap s'.heap ∧ SK knd s'.heap a ks' ∧ s' = { s with heap := s'.heap }) _ (fun y rest u s' hI => ?_) (fun u s' hI => ?_) xs PUnit.unit ?_)
    · obtain ⟨kr, ks', g1, g2, g3, g4, g5, g6⟩ := hI
      cases g1 with
      | cons y1 y2 =>
        rename_i k kr'
        obtain ⟨q1, q2, q3⟩ := y1
        obtain ⟨yh, yv⟩ := y
        have q2 : yh = knd.hash k := q2
        subst q2
        dsimp only
        rw [List.length_cons] at g3
        refine wpAny_bind (wpAny_holding (sk_add (s := s') g5 q1 q3 (by unfold scanBound; omega) fun h3 ks3 b3 p3 sb3 S3 => ?_))
        have sball : Heap.SameBut a s.heap h3 := g4.trans sb3
        have Sb3 : SetK knd h3 b ksB esB epB tB := Sb0.keep fun u q => by rw [sball.2 b (Ne.symm ne)]; exact q
        have Sb30 := Sb3
        obtain ⟨⟨o3, ho3, hx3, hd3⟩, r3⟩ := Sb3
        refine wpAny_bind (he { s' with heap := h3 } _ Sb30 ?_)
        refine wpAny_bind (wpAny_setState_of (s := { s' with heap := h3 }) ho3 hd3 r3.fit ?_)
        dsimp only
        refine wp_if_neg (by simp) ?_
        try refine wpAny_bind (wpAny_pure ?_)
        refine wpAny_pure ⟨kr', ks3, y2, fun x => ?_, ?_, sball, S3, by rw [g6]⟩
        · rw [p3.mem_iff, ← g2 x, List.mem_cons]
          split
          · rename_i hin
            constructor
            · rintro (z | z)
              · exact .inl z
              · exact .inr (.inr z)
            · rintro (z | z | z)
              · exact .inl z
              · rw [z]; exact .inl hin
              · exact .inr z
          · rw [List.mem_cons]
            constructor
            · rintro ((z | z) | z)
              · exact .inr (.inl z)
              · exact .inl z
              · exact .inr (.inr z)
            · rintro (z | z | z)
              · exact .inl (.inr z)
              · exact .inl (.inl z)
              · exact .inr z
        · rw [p3.length_eq]
          split
          · omega
          · rw [List.length_cons]; omega
    · obtain ⟨kr, ks', g1, g2, g3, g4, g5, g6⟩ := hI
      cases g1
      rw [g6]
      obtain ⟨es', ep', t', S'⟩ := SetK.of g5
      have mem : ∀ x, x ∈ ks' ↔ x ∈ ksA ∨ x ∈ ksB := fun x => by rw [← g2 x]; simp
      refine wpAny_pure (hQ _ ks' es' ep' t' g4 S' (full S' fun z => ?_) mem)
      obtain ⟨k, hk⟩ := List.exists_mem_of_ne_nil _ nB
      have := (mem k).mpr (.inr hk)
      rw [z] at this; cases this
    · refine ⟨kr0, ks1, hkr, fun x => ?_, ?_, sb1.trans sb2, S2.sk, rfl⟩
      · rw [p1.mem_iff, hkp.mem_iff]
      · rw [hkp.length_eq, len1]; omega
end
end DL
end
section
set_option maxRecDepth 100000
set_option maxHeartbeats 4000000
/-! Sets of scanned members: copies, unions. -/
namespace DL
open PySem PySem.Spec PyProof.Rows L2 PySem.W
theorem or_eq (l r : Value) : Builtin.«frozenset.__or__» ⟨[l, r], []⟩ = (do
    let (self, other) ← Builtin.Frozenset.slot1 "__or__" ⟨[l, r], []⟩
    if !(← Builtin.Frozenset.isAnySet self <&&> Builtin.Frozenset.isAnySet other) then rule s!"frozenset.{"__or__"}.declined"; return ← ret .notImplemented
    let a ← Builtin.Frozenset.addrOf self
    let v ← (do
      let result ← Builtin.Frozenset.copyOf a
      if other != .ref a then
        let q ← Builtin.Frozenset.addrOf result
        holding [result] (Builtin.Frozenset.updateFrom s!"frozenset.{"__or__"}" q other)
      return result : Sem Value)
    ret v) := by rfl
section
variable {κ : Type} [DecidableEq κ] {P : Program} {w : World} {knd : KeyKind P w κ} {A : Around} {E : Value → Shared → Prop} {s : Shared} {a b : Addr} {ks ksA ksB : List κ} {es esA esB : Array (Int × Value)} {ep epA epB : Nat} {t tA tB : SetTable}
theorem is_set {h : Heap} (S : SetK knd h b ks es ep t) {s : Shared} (hs : s.heap = h) {Q : Bool → Shared → Prop} (hQ : Q true s) : wpAny (model P w) A (isInstance (.ref b) (.type "set")) Q E s := by
  subst hs
  exact wpAny_isInstance S.sk.setOf.typeIs sub_set_self hQ
theorem addr_k {M : Model} {Q : Addr → Shared → Prop} (h : Q b s) : wpAny M A (Builtin.Frozenset.addrOf (.ref b)) Q E s := by
  show wpAny M A (pure b) Q E s
  exact wpAny_pure h
theorem any_set (S : SetK knd s.heap b ks es ep t) {Q : Bool → Shared → Prop} (hQ : Q true s) : wpAny (model P w) A (Builtin.Frozenset.isAnySet (.ref b)) Q E s := by
  unfold Builtin.Frozenset.isAnySet orM
  exact wpAny_bind (is_set S rfl (wpAny_pure hQ))
theorem copy_k {Q : Value → Shared → Prop} (Sb : SetK knd s.heap b ksB esB epB tB) (few : ksB.length ≤ 30)
    (hQ : ∀ h' ks' es' ep' t', (∀ c o, s.heap.get? c = some o → h'.get? c = some o) → SetK knd h' s.heap.objs.size ks' es' ep' t' → (t'.fill = 0 → t'.mask = 7) → (∀ x, x ∈ ks' ↔ x ∈ ksB) → Q (.ref s.heap.objs.size) { s with heap := h' }) :
    wpAny (model P w) A (Builtin.Frozenset.copyOf b) Q E s := by
  unfold Builtin.Frozenset.copyOf Builtin.Frozenset.baseOf
  refine wpAny_bind (wpAny_bind (is_set Sb rfl (wpAny_pure ?_)))
  rw [if_pos rfl]
  refine wpAny_bind (PpSet.newSet_ok ?_)
  have hb : b < s.heap.objs.size := Sb.sk.lt
  have old : ∀ c o, s.heap.get? c = some o → (s.heap.push (fSet w)).get? c = some o := fun c o z => Heap.get?_push_of_some _ z
  have S0 : SetK knd (s.heap.push (fSet w)) s.heap.objs.size [] #[] 0 (.fresh 0 0 (!w.params.followText "set-order")) := by
    refine ⟨⟨fSet w, Heap.get?_push_size _ rfl, ⟨rfl, rfl, rfl⟩, rfl⟩, .nil, .nil, by decide, rfl, List.Pairwise.nil, ?_⟩
    show _ ∨ (!w.params.followText "set-order") = true
    cases w.params.followText "set-order" with
    | false => exact .inr rfl
    | true => exact .inl rfl
  refine wpAny_bind (wpAny_pure ?_)
  have szB : esB.size = ksB.length := Sb.size
  refine wpAny_bind (merge_k (s := { s with heap := s.heap.push (fSet w) }) S0 (Sb.keep fun o z => old b o z) (Nat.ne_of_gt hb) (by show 0 + esB.size ≤ 60; omega) (fun _ => rfl) (fun s1 Q1 _ q => wpAny_pure q) fun h' ks' es' ep' t' sb S' hm mem => ?_)
  refine wpAny_pure (hQ h' ks' es' ep' t' (fun c o z => ?_) S' hm fun x => by rw [mem x]; simp)
  have hc := Heap.lt_size z
  rw [sb.2 c (Nat.ne_of_lt hc)]
  exact old c o z
theorem keys_same {h : Heap} {ks1 ks2 : List κ} (S1 : SK knd h a ks1) (S2 : SK knd h a ks2) : ks1 = ks2 := by
  obtain ⟨o1, es1, ep1, t1, h1, _, d1, r1⟩ := S1
  obtain ⟨o2, es2, ep2, t2, h2, _, d2, r2⟩ := S2
  rw [h1] at h2
  cases h2
  rw [d1] at d2
  cases d2
  have gen : ∀ {l : List (Int × Value)} {m n : List κ}, EachIs (Ent knd) l m → EachIs (Ent knd) l n → m = n := fun {l m n} p q => by
    induction p generalizing n with
    | nil => cases q; rfl
    | cons p1 _ ih =>
      cases q with
      | cons q1 q2 => rw [ih q2, knd.inj _ _ _ p1.1 q1.1]
  exact gen r1.ent r2.ent
theorem nd_len : ∀ {l m : List κ}, l.Nodup → (∀ x ∈ l, x ∈ m) → l.length ≤ m.length
  | [], _, _, _ => Nat.zero_le _
  | x :: l, m, n, h => by
    obtain ⟨n1, n2⟩ := List.nodup_cons.mp n
    have hx := h x (by simp)
    have := nd_len (l := l) (m := m.erase x) n2 fun y hy => (List.mem_erase_of_ne (fun e : y = x => n1 (by rw [← e]; exact hy))).mpr (h y (by simp [hy]))
    rw [List.length_erase_of_mem hx] at this
    have pos : 0 < m.length := List.length_pos_of_mem hx
    rw [List.length_cons]
    omega
/-- a | b -/
theorem or_k {Q : Value → Shared → Prop} (Sa : SK knd s.heap a ksA) (Sb : SK knd s.heap b ksB) (few : ksA.length + ksB.length ≤ 30)
    (hQ : ∀ h' ks', (∀ c o, s.heap.get? c = some o → h'.get? c = some o) → SK knd h' s.heap.objs.size ks' → (∀ x, x ∈ ks' ↔ x ∈ ksA ∨ x ∈ ksB) → Q (.ref s.heap.objs.size) { s with heap := h' }) :
    wpAny (model P w) A (call (.builtin "set.__or__") [.ref a, .ref b]) Q E s := by
  obtain ⟨esA, epA, tA, Ka⟩ := SetK.of Sa
  obtain ⟨esB, epB, tB, Kb⟩ := SetK.of Sb
  refine wpAny_call_entry F.slot_set_or Sa.setOf.typeIs (b := Builtin.«frozenset.__or__») (entryFor_alias (id' := "frozenset.__or__") (by kernel_rfl) rfl (by decide +kernel) (by kernel_rfl)) ?_ (F.args_set_or_2 _ _)
  rw [or_eq]
  refine wpAny_bind (m := Builtin.Frozenset.slot1 "__or__" _) (wpAny_pure ?_)
  dsimp only
  refine wpAny_bind ?_
  unfold andM
  refine wpAny_bind (any_set Ka ?_)
  show wpAny _ _ (Builtin.Frozenset.isAnySet (.ref b)) _ _ s
  refine any_set Kb ?_
  refine wp_if_neg (by simp) ?_
  try refine wpAny_bind (wpAny_pure ?_)
  refine wpAny_bind ?_
  have la := Sa.lt
  have lb := Sb.lt
  refine wpAny_bind (copy_k Ka (by omega) fun h1 ks1 es1 ep1 t1 old1 S1 m1 mem1 => ?_)
  by_cases e : b = a
  · subst e
    have ek := keys_same Sa Sb
    refine wp_if_neg (by simp) ?_
    try refine wpAny_bind (wpAny_pure ?_)
    refine wpAny_pure (wpAny_pure ⟨_, rfl, hQ h1 ks1 old1 S1.sk fun x => ?_⟩)
    rw [mem1 x, ← ek]
    simp
  · refine wpAny_ite ?_
    rw [if_pos (by simp [e])]
    refine wpAny_bind (addr_k ?_)
    have Kb1 : SetK knd h1 b ksB esB epB tB := Kb.keep fun o z => old1 b o z
    refine wpAny_bind (wpAny_holding ?_)
    unfold Builtin.Frozenset.updateFrom
    refine wpAny_bind (any_set (s := { s with heap := h1 }) Kb1 ?_)
    rw [if_pos rfl]
    refine wpAny_bind (addr_k ?_)
    unfold Builtin.Frozenset.merge
    have Kb10 := Kb1
    obtain ⟨⟨o1, ho1, hx1, hd1⟩, r1⟩ := Kb1
    have ep : ∀ (s1 : Shared) (Q1 : Nat → Shared → Prop), SetK knd s1.heap b ksB esB epB tB → Q1 epB s1 → wpAny (model P w) A.in1 (setEpoch b) Q1 E s1 := fun s1 Q1 S q => by
      obtain ⟨⟨o, ho, hx, hd⟩, r⟩ := S
      unfold setEpoch
      exact wpAny_bind (wpAny_setState_of ho hd r.fit (wpAny_pure q))
    refine wpAny_bind (ep _ _ Kb10 ?_)
    have z1 := S1.size
    have zb := Kb10.size
    have lk : ks1.length ≤ ksA.length := by
      exact nd_len S1.rw.nd fun x => (mem1 x).mp
    refine merge_k (s := { s with heap := h1 }) S1 Kb10 (Nat.ne_of_gt lb) (by omega) m1 (fun s1 Q1 S q => ?_) fun h' ks' es' ep' t' sb S' _ mem => ?_
    · unfold Builtin.Frozenset.unchanged
      refine wpAny_bind (ep _ _ S ?_)
      exact wp_if_neg (by simp) (wpAny_pure q)
    · refine wpAny_pure (wpAny_pure ⟨_, rfl, hQ h' ks' (fun c o z => ?_) S'.sk fun x => ?_⟩)
      · have hc := Heap.lt_size z
        rw [sb.2 c (Nat.ne_of_lt hc)]
        exact old1 c o z
      · rw [mem x, mem1 x]
end
end DL
end
section
set_option maxRecDepth 100000
set_option maxHeartbeats 4000000
/-! The functional layer: s | t of sets of texts. -/
namespace DL
open PySem PySem.Spec PyProof.Rows L2 PySem.W
section
variable {X : Cx} {c : Ct} {e1 e2 : Expr} {pos : Pos} {p1 p2 : Bool} {m1 m2 : M (List Str)}
theorem sk_or (hc : X.calm = true) (ha : PSk X e1 (tkO X.prog X.w X.K c p1 m1)) (hb : PSk X e2 (tkO X.prog X.w X.K c p2 m2)) (hp2 : p2 = true := by rfl) : PSk X (.BinOp e1 .BitOr e2 pos) (tkO X.prog X.w X.K c p1 (mSetOr m1 m2)) := ⟨fun pins s σ H Q I ⟨F, ρ, O, ev, h⟩ => by
  subst hp2
  refine wpAny_BinOp ?_
  refine thn (ha.run pins s σ H (fun a1 ks1 H1 => ∃ l ρ1 F1 O1, EnvR X.K c F1 H1 σ ρ1 O1 ∧ Same F F1 ∧ (p1 = true → Same H H1) ∧ ks1.Nodup ∧ (∀ x, x ∈ ks1 ↔ x ∈ l) ∧ ((m2 ρ1).bind fun m ρ2 => if l.length + m.length ≤ 30 then .ok (l ++ m) ρ2 else .bad).post (fun l ρ' => ∀ F' H' O' a ks, EnvR X.K c F' H' σ ρ' O' → Same F F' → (p1 = true → Same H H') → H' a = some (SKO X.prog X.w a ks) → F' a = none → a ∉ O' → (a ∈ c.O ∨ c.H a = none) → ks.Nodup → (∀ x, x ∈ ks ↔ x ∈ l) → Q a ks H') (PX X.K c σ)) I
    ⟨F, ρ, O, ev, Res.post_imp (Res.post_bind h) (fun l ρ1 h1 F' H' O' a ks q1 q2 q3 q4 q5 q6 q7 q8 q9 => ⟨l, ρ1, F', O', q1, q2, q3, q8, q9, h1⟩) fun _ _ z => z⟩) fun v s1 ⟨a1, ks1, H1, e1, g1, I1, l, ρ1, F1, O1, ev1, sF1, sH1, n1, k1, h1⟩ => ?_
  subst e1
  refine thn (hb.run pins s1 σ H1 (fun a2 ks2 H2 => ∃ m ρ2 F2 O2, EnvR X.K c F2 H2 σ ρ2 O2 ∧ Same F1 F2 ∧ Same H1 H2 ∧ ks2.Nodup ∧ (∀ x, x ∈ ks2 ↔ x ∈ m) ∧ (if l.length + m.length ≤ 30 then Res.ok (l ++ m) ρ2 else .bad).post (fun l ρ' => ∀ F' H' O' a ks, EnvR X.K c F' H' σ ρ' O' → Same F F' → (p1 = true → Same H H') → H' a = some (SKO X.prog X.w a ks) → F' a = none → a ∉ O' → (a ∈ c.O ∨ c.H a = none) → ks.Nodup → (∀ x, x ∈ ks ↔ x ∈ l) → Q a ks H') (PX X.K c σ)) I1
    ⟨F1, ρ1, O1, ev1, Res.post_imp (Res.post_bind h1) (fun m ρ2 h2 F' H' O' a ks q1 q2 q3 q4 q5 q6 q7 q8 q9 => ⟨m, ρ2, F', O', q1, q2, q3 rfl, q8, q9, h2⟩) fun _ _ z => z⟩) fun v2 s2 ⟨a2, ks2, H2, e2, g2, I2, m, ρ2, F2, O2, ev2, sF2, sH2, n2, k2, h2⟩ => ?_
  subst e2
  by_cases few : l.length + m.length ≤ 30
  · rw [if_pos few] at h2
    have S1 := sko_get I2 (sH2 _ _ g1)
    have S2 := sko_get I2 g2
    have L1 := nd_len n1 fun x => (k1 x).mp
    have L2 := nd_len n2 fun x => (k2 x).mp
    refine wpAny_binaryOp_same (op := .BitOr) (T := "set") S1.setOf.typeIs S2.setOf.typeIs PySem.F.fills_set_or PySem.F.slot_set_or ?_
    refine or_k S1 S2 (by omega) fun h' ks' old S' mem => ⟨(by intro z; cases z), ?_⟩
    have hp : H2 s2.heap.objs.size = none := I2.hok.fresh (Nat.le_refl _)
    have I3 := I2.laid (a := s2.heap.objs.size) (o := SKO X.prog X.w s2.heap.objs.size ks') (t' := s2.toks) (h' := h') old (Nat.le_refl _) (sko_ok S')
    have n := New.own ev2.sub hp (SKO X.prog X.w s2.heap.objs.size ks')
    refine ⟨s2.heap.objs.size, ks', _, rfl, upd_same, I3, h2 F2 _ O2 _ ks' (ev2.new n) (sF1.trans sF2) (fun z => (sH1 z).trans (sH2.trans n.hH)) upd_same (ev2.sub.free hp) (fun z => ev2.sl.there _ z hp) ((ev2.apart hp).ow _ (by simp)).2 ?_ fun x => ?_⟩
    · obtain ⟨_, _, _, _, _, _, _, r⟩ := S'
      exact r.nd
    · rw [mem x, k1 x, k2 x, List.mem_append]
  · rw [if_neg few] at h2
    exact h2.elim⟩
end
end DL
end
section
set_option maxRecDepth 100000
set_option maxHeartbeats 4000000
/-! The functional layer: xs[::k], range(i, j, k). -/
namespace DL
open PySem PySem.Spec PyProof.Rows L2 PySem.W
theorem pick_one (items : Array Value) : slicePick items none none (some 1) = items := by
  have : slicePick items none none (some 1) = slicePick items none none none := rfl
  rw [this]
  exact slicePick_all items
theorem st_case {x y z : D} (h : slStep x y = some z) : ∃ xs i, x = .list xs ∧ y = .int i ∧ ((i = -1 ∧ z = .list xs.reverse) ∨ (i = 1 ∧ z = .list xs)) := by
  cases x with
  | list xs =>
    cases y with
    | int i =>
      refine ⟨xs, i, rfl, rfl, ?_⟩
      have h : (if i = -1 then some (PyData.list xs.reverse) else if i = 1 then some (.list xs) else none) = some z := h
      by_cases a : i = -1
      · rw [if_pos a] at h; cases h; exact .inl ⟨a, rfl⟩
      · rw [if_neg a] at h
        by_cases b : i = 1
        · rw [if_pos b] at h; cases h; exact .inr ⟨b, rfl⟩
        · rw [if_neg b] at h; cases h
    | _ => cases h
  | _ => cases h
section
variable {X : Cx} {c : Ct} {a b : Expr} {p2 pos : Pos} {ka kb pa pb : Bool} {ma mb : M D} {tg e1 e2 e3 : Expr} {q1 q2 q3 : Bool} {m1 m2 m3 : M D}
theorem rpAll_rev {K : Frag} {F : Hp} {vs : List V} {xs : List D} (h : RpAll K F vs xs) : RpAll K F vs.reverse xs.reverse := by
  induction vs generalizing xs with
  | nil => cases h; exact .nil
  | cons v vs ih =>
    cases h with
    | cons h r =>
      rw [List.reverse_cons, List.reverse_cons]
      have app : ∀ {us ws : List V} {ys zs : List D}, RpAll K F us ys → RpAll K F ws zs → RpAll K F (us ++ ws) (ys ++ zs) := fun {us ws ys zs} p q => by
        induction us generalizing ys with
        | nil => cases p; exact q
        | cons u us ih => cases p with | cons p1 p2 => exact .cons p1 (ih p2)
      exact app (ih r) (.cons h .nil)
theorem se_slS (ha : PE X a (te X.K c ka pa ma)) (hb : PE X b (te X.K c kb pb mb)) (hk : ka = true → pb = true := by decide) : PE X (.Subscript a (.Slice none none (some b) p2) pos) (te X.K c false (pa && pb) (mBin slStep ma mb)) := ⟨fun pins s σ H Q I ⟨F, ρ, O, ev, h⟩ => by
  refine Subscript_ (thn (ha.run pins s σ H (fun v1 H1 => ∃ x ρ1 F1 O1, EnvR X.K c F1 H1 σ ρ1 O1 ∧ Same F F1 ∧ (pa = true → Same H H1) ∧ Val X.K ka F1 H1 v1 x ∧ ((mb ρ1).bind fun y ρ2 => ofO (slStep x y) ρ2).post (PV X.K c false (pa && pb) F H σ Q) (PX X.K c σ)) I
    ⟨F, ρ, O, ev, Res.post_imp (Res.post_bind h) (fun x ρ1 h1 F1 H1 O1 v e1 s1 p1 r1 => ⟨x, ρ1, F1, O1, e1, s1, p1, r1, h1⟩) fun _ _ z => z⟩) fun v s1 ⟨vv, H1, I1, r1, x, ρ1, F1, O1, ev1, sF, sH, vx, h1⟩ => ?_)
  have hst : L2.PO X (some b) (tPart (te X.K c kb pb mb)) := po_some hb
  refine wpAny_Slice (thn (po_none.run pins s1 σ H1 (fun o H2 => o = none ∧ H2 = H1) I1 ⟨rfl, rfl⟩) fun vl s2 ⟨l, H2, I2, pl, el, e2⟩ => ?_)
  subst el e2
  refine thn (po_none.run pins s2 σ H2 (fun o H3 => o = none ∧ H3 = H2) I2 ⟨rfl, rfl⟩) fun vu s3 ⟨u, H3, I3, pu, eu, e3⟩ => ?_
  subst eu e3
  refine thn (hst.run pins s3 σ H3 (fun o H4 => ∃ i xs z ρ2 F2 O2, o = some i ∧ x = .list xs ∧ ((i = -1 ∧ z = PyData.list xs.reverse) ∨ (i = 1 ∧ z = .list xs)) ∧ EnvR X.K c F2 H4 σ ρ2 O2 ∧ Same F1 F2 ∧ (pb = true → Same H3 H4) ∧ PV X.K c false (pa && pb) F H σ Q z ρ2) I3 ?_) fun vs s4 ⟨o, H4, I4, ps, i, xs, z, ρ2, F2, O2, eo, ex, cs, ev2, sF2, sH2, fin⟩ => ?_
  · refine ⟨F1, ρ1, O1, ev1, Res.post_imp (Res.post_bind h1) (fun y ρ2 h2 F2 H4 O2 v2 e2 s2 p2 r2 => ?_) fun _ _ z => z⟩
    obtain ⟨z, hz, h3⟩ := post_ofO h2
    obtain ⟨xs, i, k1, k2, k3⟩ := st_case hz
    subst k2
    exact ⟨i, inv_int r2.up0, i, xs, z, ρ2, F2, O2, rfl, k1, k3, e2, s2, p2, h3⟩
  subst eo ex
  have I5 : L2.Inv X pins σ H4 { s4 with heap := s4.heap.push { cls := .type "slice", data := .fields #[vl, vu, vs] } } := I4.kept (t' := s4.toks) fun b ob q => Heap.get?_push_of_some _ q
  have vx2 : RpB X.K F2 H4 vv (.list xs) := Val.up vx sF2 sH2 hk
  obtain ⟨p, ws, ev', hx, rr⟩ : ∃ p ws, vv = .ref p ∧ SqL X.K H4 p ws ∧ RpAll X.K F2 ws xs := by
    cases vx2 with
    | d r =>
      cases r with
      | lst h r => exact ⟨_, _, rfl, sq_l ev2.sub (.of h), r⟩
    | lst h r => exact ⟨_, _, rfl, .of h, r⟩
  subst ev'
  cases r1
  obtain ⟨its, r, ht, hz⟩ := I5.list hx
  have hlen := r.length
  show wpAny (model X.prog X.w) X.A (subscriptTail a (.Slice none none (some b) p2) (.ref p) (.ref s4.heap.objs.size)) (L2.EP X pins σ Q) X.xe { s4 with heap := s4.heap.push { cls := .type "slice", data := .fields #[vl, vu, vs] } }
  refine tail_any (ops := [.ref p, .ref s4.heap.objs.size]) ht.isList.typeIs (PySem.slot_list_getitem.lookup) ?_ (by with_unfolding_all rfl)
  have hp := I5.hok.fresh (Nat.le_refl _)
  have n := fun ys : List V => New.own ev2.sub hp (.lst ys)
  refine wpAny_getItem_list_slice ht.isList (Heap.IsSliceOf.new _ vl vu vs) pl pu ps (by rcases cs with ⟨q, _⟩ | ⟨q, _⟩ <;> (subst q; decide)) ?_ (by rw [List.size_toArray]; omega)
  rcases cs with ⟨q, ez⟩ | ⟨q, ez⟩
  · subst q ez
    rw [PySem.W.krv_pick]
    have n := New.one ev2.sub hp (.lst ws.reverse)
    refine ⟨.ref _, _, I5.laid (t' := s4.toks) (o := .lst ws.reverse) (fun b ob q => Heap.get?_push_of_some _ q) (Nat.le_refl _) ?_, rfl, fin _ _ O2 _ (ev2.new n) ((sF.trans sF2).trans n.fF) (fun q => ?_) (.lst upd_same ((rpAll_rev rr).mono n.fF))⟩
    · exact ⟨by rw [List.length_reverse]; exact hz, _, 0, r.reverse, Heap.get?_push_size _ rfl⟩
    · obtain ⟨q1, q2⟩ := Bool.and_eq_true_iff.mp q
      exact ((sH q1).trans (sH2 q2)).trans n.hH
  · subst q ez
    rw [pick_one]
    have n := New.one ev2.sub hp (.lst ws)
    refine ⟨.ref _, _, I5.laid (t' := s4.toks) (o := .lst ws) (fun b ob q => Heap.get?_push_of_some _ q) (Nat.le_refl _) ?_, rfl, fin _ _ O2 _ (ev2.new n) ((sF.trans sF2).trans n.fF) (fun q => ?_) (.lst upd_same (rr.mono n.fF))⟩
    · exact ⟨hz, _, 0, r, Heap.get?_push_size _ rfl⟩
    · obtain ⟨q1, q2⟩ := Bool.and_eq_true_iff.mp q
      exact ((sH q1).trans (sH2 q2)).trans n.hH⟩
theorem size_of {i j k : Int} (hk : 0 < k) : Builtin.Range.rangeSize i j k = (((j - i + k - 1) / k).toNat : Nat) := by
  unfold Builtin.Range.rangeSize
  rw [if_pos hk]
  by_cases h : i < j
  · rw [if_pos h]
    have e : (j - i + k - 1) / k = (j - i - 1) / k + 1 := by
      rw [show j - i + k - 1 = (j - i - 1) + 1 * k from by omega, Int.add_mul_ediv_right _ _ (by omega)]
    have p : 0 ≤ (j - i - 1) / k := Int.ediv_nonneg (by omega) (by omega)
    rw [e]
    omega
  · rw [if_neg h]
    have : (j - i + k - 1) / k ≤ 0 := by
      have := Int.ediv_le_ediv hk (show j - i + k - 1 ≤ k - 1 by omega)
      rw [Int.ediv_eq_zero_of_lt (a := k - 1) (by omega) (by omega)] at this
      exact this
    omega
theorem itD_rangeC {K : Frag} {F : Hp} {lo c : Int} {n : Nat} (hz : n ≤ sizeLine) : ItD K F (Itc lo c n) ((List.range n).map fun m => .int (lo + (m : Nat) * c)) where
  few := by rw [List.length_map, List.length_range]; exact hz
  go := fun F2 H2 s1 s2 i hi => by
    rw [List.length_map, List.length_range] at hi
    exact hi
  yl := fun F2 H2 s1 s2 i x H3 hi y => by
    obtain ⟨e, rfl⟩ := y
    subst e
    rw [List.length_map, List.length_range] at hi
    exact ⟨F2, _, New.refl s2, by simp [hi], .int _⟩
  st := fun F2 H2 s1 s2 i hi => by
    rw [List.length_map, List.length_range] at hi
    exact hi
theorem si_range3 {p : Pos} (hm : X.mg "range" = none) (ha : PE X e1 (te X.K c false q1 m1)) (hb : PE X e2 (te X.K c false q2 m2)) (hcc : PE X e3 (te X.K c false q3 m3)) (hg : Gl X "range" := by rfl) (hs : starEach [e1, e2, e3] X.env = (false, eval e1 X.env) :: starEach [e2, e3] X.env := by rfl)
    (hs2 : starEach [e2, e3] X.env = (false, eval e2 X.env) :: starEach [e3] X.env := by rfl) (hs3 : starEach [e3] X.env = (false, eval e3 X.env) :: starEach [] X.env := by rfl) (hpl : (backTo pos (starEach [e2, e3] X.env)).any (·.1) = false := by rfl) :
    PI X tg (.Call (.Name "range" p) [e1, e2, e3] [] pos) (ti X.K c (q1 && (q2 && q3)) (mRange3 m1 m2 m3)) :=
  PI.imp (pi_range3 hg hm (pa_cons ha (pa_cons hb (pa_cons hcc pa_nil hs3) hs2) hs) hs hpl) fun σ H R ⟨F, ρ, O, ev, h⟩ => by
    refine te_step ev h fun x ρ1 F1 H1 O1 v h1 e1 s1 q1 r1 => te_step e1 h1 fun y ρ2 F2 H2 O2 w h2 e2 s2 q2 r2 => te_step e2 h2 fun z ρ3 F3 H3 O3 u h3 e3 s3 q3 r3 => ?_
    obtain ⟨xs, hx, h4⟩ := post_ofO h3
    unfold range3 at hx
    split at hx
    · rename_i i j k
      split at hx
      · rename_i hz
        obtain ⟨z1, z2, z3, z4, z5, z6⟩ := hz
        cases hx
        have ez := size_of (i := i) (j := j) (k := k) z1
        have nb : ((j - i + k - 1) / k).toNat ≤ sizeLine := by
          have : (j - i + k - 1) / k ≤ j - i + k - 1 ∨ (j - i + k - 1) / k ≤ 0 := by
            by_cases h : 0 ≤ j - i + k - 1
            · exact .inl (Int.ediv_le_self _ h)
            · refine .inr ?_
              have := Int.ediv_le_ediv z1 (show j - i + k - 1 ≤ 0 by omega)
              rw [Int.zero_ediv] at this
              exact this
          rw [sizeLine_eq]
          omega
        refine ⟨i, j, k, ((j - i + k - 1) / k).toNat, by rw [inv_int r1.up0, inv_int r2.up0, inv_int r3.up0], ⟨by omega, by omega, ?_, ez⟩, h4 F3 H3 O3 _ e3 ((s1.trans s2).trans s3) (and_p q1 (and_p q2 q3)) (itD_rangeC nb)⟩
        unfold Builtin.Range.small
        rw [ez]
        have zz : 0 ≤ (((j - i + k - 1) / k).toNat : Int) := by omega
        have zn : (((j - i + k - 1) / k).toNat : Int) < 2 ^ 40 := by
          have : ((j - i + k - 1) / k).toNat ≤ 16777216 := by rw [← sizeLine_eq]; exact nb
          omega
        have zk : (((j - i + k - 1) / k).toNat : Int) * k < 2 ^ 60 ∧ -(2 ^ 60) < (((j - i + k - 1) / k).toNat : Int) * k := by
          by_cases h : 0 ≤ (j - i + k - 1) / k
          · rw [Int.toNat_of_nonneg h]
            have := Int.ediv_mul_le (j - i + k - 1) (b := k) (by omega)
            have := Int.mul_nonneg h (Int.le_of_lt z1)
            omega
          · rw [Int.toNat_of_nonpos (by omega)]
            simp
        clear nb h4
        generalize (((j - i + k - 1) / k).toNat : Int) = nn at *
        simp only [Builtin.Range.rangeFitsLong, Bool.and_eq_true, Bool.or_eq_true, decide_eq_true_eq, beq_iff_eq, show (k : Int) > 0 from z1, if_true]
        refine ⟨?_, ?_⟩ <;> (try split) <;> first | omega | (refine .inr ?_; omega) | skip
      · cases hx
    · cases hx
end
end DL
end
section
set_option maxRecDepth 100000
set_option maxHeartbeats 0
namespace SH
open PySem PySem.Spec PyProof.Rows L2 DL
noncomputable abbrev e1_is_called : M D := (mOrV (mBin inD (mVar 2) (mVar 1)) (mBin inD (mVar 2) (mC (.str "0123456789"))))
noncomputable def m_is_called : M Fl := (sSeq (mIf (mOr (mNot (mB (mF1 (isiD .str) (mVar 0)))) (mOr (mNot (mB (mChain leD leD (mC (.int 1)) (mF1 lenD (mVar 0)) (mC (.int 8))))) (mB (mBin ninD (mBin ixD (mVar 0) (mC (.int 0))) (mVar 1))))) (sRet (mD (mC (.bool false)))) sNil)
 (sRet (mD (mF1 allD (mLstF (mLc [2] (mItems (mVar 0)) (tName 2) mYes e1_is_called))))))
noncomputable def f_is_called : Fn := fnOf 3 2 [] m_is_called
noncomputable def m_is_name : M Fl := (sRet (mCall SH.f_is_called (gD (mVar 0) (gD (mC (.str "abcdefghijklmnopqrstuvwxyz")) gNil))))
noncomputable def f_is_name : Fn := fnOf 1 1 [] m_is_name
noncomputable abbrev e1_is_turn : M D := (mAndV (mF1 (isiD .tup) (mVar 1)) (mBin eqD (mF1 lenD (mVar 1)) (mC (.int 2))))
noncomputable abbrev e2_is_turn : M D := (mAndV (mFrz (mCall SH.f_is_name (gD (mVar 2) gNil))) (mAndV (mFrz (mCall SH.f_is_name (gD (mVar 3) gNil))) (mBin neD (mVar 2) (mVar 3))))
noncomputable def m_is_turn : M Fl := (sSeq (mIf (mOr (mNot (mB (mF1 (isiD .tup) (mVar 0)))) (mNot (mB (mF1 allD (mLstF (mLc [1] (mItems (mVar 0)) (tName 1) mYes e1_is_turn)))))) (sRet (mD (mC (.bool false)))) sNil)
 (sSeq (mIf (mNot (mB (mF1 allD (mLstF (mLc [2, 3] (mItems (mVar 0)) (tTup 2 (tsCons (tName 2) (tsCons (tName 3) tsNil))) mYes e2_is_turn))))) (sRet (mD (mC (.bool false)))) sNil)
 (sSeq (sSet 4 (mLstF (mLc [2, 3] (mItems (mVar 0)) (tTup 2 (tsCons (tName 2) (tsCons (tName 3) tsNil))) mYes (mVar 2))))
 (sRet (mD (mAndV (mBin eqD (mVar 4) (mLstF (mSortK (mSetOf (mVar 4))))) (mBin eqD (mLstF (mFN sortO (mLstF (mLc [2, 3] (mItems (mVar 0)) (tTup 2 (tsCons (tName 2) (tsCons (tName 3) tsNil))) mYes (mVar 3))))) (mVar 4))))))))
noncomputable def f_is_turn : Fn := fnOf 5 1 [] m_is_turn
noncomputable abbrev b1_sure_turns : M Fl := (mIf (mNot (mB (mFrz (mCall SH.f_is_turn (gD (mVar 1) gNil))))) (sRaise "NoTurn") sNil)
noncomputable def m_sure_turns : M Fl := (sFor (mItems (mVar 0)) (tName 1) b1_sure_turns)
noncomputable def f_sure_turns : Fn := fnOf 2 1 [] m_sure_turns
noncomputable abbrev b1_led_name : M Fl := (mIf (mB (mBin eqD (mVar 2) (mVar 1))) (sRet (mD (mVar 3))) sNil)
noncomputable def m_led_name : M Fl := (sSeq (sFor (mItems (mVar 0)) (tTup 2 (tsCons (tName 2) (tsCons (tName 3) tsNil))) b1_led_name)
 (sRet (mD (mVar 1))))
noncomputable def f_led_name : Fn := fnOf 4 2 [] m_led_name
noncomputable abbrev e1_undone : M D := (mTup (mCons (mVar 2) (mCons (mVar 1) mNil)))
noncomputable def m_undone : M Fl := (sRet (mD (mF1 tupD (mLstF (mFN sortO (mLstF (mLc [1, 2] (mItems (mVar 0)) (tTup 2 (tsCons (tName 1) (tsCons (tName 2) tsNil))) mYes e1_undone)))))))
noncomputable def f_undone : Fn := fnOf 3 1 [] m_undone
noncomputable def m_turned_name : M Fl := (sSeq (sDrop (mCall SH.f_sure_turns (gD (mLstF (mCons (mVar 0) mNil)) gNil)))
 (sSeq (mIf (mNot (mB (mFrz (mCall SH.f_is_name (gD (mVar 1) gNil))))) (sRaise "NoName") sNil)
 (sRet (mCall SH.f_led_name (gD (mVar 0) (gD (mVar 1) gNil))))))
noncomputable def f_turned_name : Fn := fnOf 2 2 [] m_turned_name
noncomputable def m_back_turn : M Fl := (sSeq (sDrop (mCall SH.f_sure_turns (gD (mLstF (mCons (mVar 0) mNil)) gNil)))
 (sRet (mCall SH.f_undone (gD (mVar 0) gNil))))
noncomputable def f_back_turn : Fn := fnOf 1 1 [] m_back_turn
noncomputable abbrev w1_rounds_of : M Bool := (mB (mBin neD (mFrz (mCall SH.f_led_name (gD (mVar 0) (gD (mBin ixD (mLook 5) (mF1 negD (mC (.int 1)))) gNil)))) (mVar 3)))
noncomputable abbrev b2_rounds_of : M Fl := (sDrop (mD (mLM 5 appendD (mCons (mFrz (mCall SH.f_led_name (gD (mVar 0) (gD (mBin ixD (mLook 5) (mF1 negD (mC (.int 1)))) gNil)))) mNil))))
noncomputable abbrev b3_rounds_of : M Fl := (mIf (mB (mBin ninD (mVar 3) (mLook 2))) (sSeq (sSetO 5 (mLst (mCons (mVar 3) mNil)))
 (sSeq (sWhile w1_rounds_of b2_rounds_of)
 (sSeq (sDrop (mD (mExtend 2 (mLook 5))))
 (sDrop (mD (mLM 1 appendD (mCons (mF1 tupD (mLook 5)) mNil))))))) sNil)
noncomputable def m_rounds_of : M Fl := (sSeq (sDrop (mCall SH.f_sure_turns (gD (mLstF (mCons (mVar 0) mNil)) gNil)))
 (sSeq (sSetO 1 (mLst mNil))
 (sSeq (sSetO 2 (mLst mNil))
 (sSeq (sFor (mItems (mVar 0)) (tTup 2 (tsCons (tName 3) (tsCons (tName 4) tsNil))) b3_rounds_of)
 (sRet (mMove 1))))))
noncomputable def f_rounds_of : Fn := fnOf 6 1 [] m_rounds_of
noncomputable abbrev e1_swaps_of : M D := (mTup (mCons (mVar 2) (mCons (mVar 4) mNil)))
noncomputable abbrev b2_swaps_of : M Fl := (sDrop (mD (mExtend 1 (mLstF (mLc [4] (mItems (mVar 3)) (tName 4) mYes e1_swaps_of)))))
noncomputable def m_swaps_of : M Fl := (sSeq (sSetO 1 (mLst mNil))
 (sSeq (sFor (mItems (mFrz (mCall SH.f_rounds_of (gD (mVar 0) gNil)))) (tStar 1 (tsCons (tName 2) (tsCons (tName 3) tsNil))) b2_swaps_of)
 (sRet (mMove 1))))
noncomputable def f_swaps_of : Fn := fnOf 5 1 [] m_swaps_of
noncomputable def m__law_mixed : M Fl := (sSeq (sSet 2 (mBin modD (mBin addD (mBin addD (mBin mulD (mVar 0) (mC (.int 48271))) (mBin mulD (mVar 1) (mC (.int 69621)))) (mC (.int 11))) (mC (.int 2147483629))))
 (sSeq (sSet 2 (mBin modD (mBin mulD (mVar 2) (mVar 2)) (mC (.int 2147483587))))
 (sRet (mD (mBin divD (mBin modD (mBin mulD (mVar 2) (mVar 2)) (mC (.int 2147483549))) (mC (.int 64)))))))
noncomputable def f__law_mixed : Fn := fnOf 3 2 [] m__law_mixed
noncomputable def m__law_pile : M Fl := (sSeq (sSet 2 (mC (.int 0)))
 (sSeq (mIf (mB (mBin ltD (mVar 1) (mF1 lenD (mVar 0)))) (sSet 2 (mBin ixD (mVar 0) (mVar 1))) sNil)
 (sSeq (sSet 3 (mBin modD (mVar 2) (mBin mulD (mBin mulD (mBin powD (mC (.int 10)) (mC (.int 60))) (mBin powD (mC (.int 10)) (mC (.int 60)))) (mBin powD (mC (.int 10)) (mC (.int 60))))))
 (sRet (mLst (mCons (mBin mulD (mVar 3) (mF1 intD (mBin geD (mF1 absD (mVar 2)) (mBin powD (mC (.int 10)) (mC (.int 18)))))) (mCons (mBin modD (mVar 2) (mC (.int 2147483629))) (mCons (mBin mulD (mC (.int 131)) (mVar 1)) mNil))))))))
noncomputable def f__law_pile : Fn := fnOf 4 2 [] m__law_pile
noncomputable def m__law_take : M Fl := (sSeq (mIf (mB (mBin eqD (mBin ixD (mLook 0) (mC (.int 0))) (mC (.int 0)))) (sSeq (sPut 0 (mC (.int 2)) (mBin addD (mBin ixD (mLook 0) (mC (.int 2))) (mC (.int 1))))
 (sRet (mD (mBin modD (mFrz (mCall SH.f__law_mixed (gD (mBin ixD (mLook 0) (mC (.int 1))) (gD (mBin ixD (mLook 0) (mC (.int 2))) gNil)))) (mVar 1))))) sNil)
 (sSeq (sSet 2 (mBin modD (mBin ixD (mLook 0) (mC (.int 0))) (mVar 1)))
 (sSeq (sPut 0 (mC (.int 0)) (mBin divD (mBin ixD (mLook 0) (mC (.int 0))) (mVar 1)))
 (sRet (mD (mVar 2))))))
noncomputable def f__law_take : Fn := fnOf 3 2 [0] m__law_take
noncomputable abbrev b1__law_name : M Fl := (sSet 3 (mBin addD (mVar 3) (mBin ixD (mBin addD (mVar 2) (mC (.str "0123456789"))) (mFrz (mCall SH.f__law_take (gO 0 (gD (mC (.int 36)) gNil)))))))
noncomputable def m__law_name : M Fl := (sSeq (sSet 1 (mFrz (mCall SH.f__law_take (gO 0 (gD (mC (.int 4)) gNil)))))
 (sSeq (sSet 2 (mC (.str "abcdefghijklmnopqrstuvwxyz")))
 (sSeq (sSet 3 (mBin ixD (mVar 2) (mFrz (mCall SH.f__law_take (gO 0 (gD (mBin ixD (mLstF (mCons (mC (.int 5)) (mCons (mC (.int 26)) mNil))) (mF1 intD (mBin gtD (mVar 1) (mC (.int 1))))) gNil))))))
 (sSeq (mIf (mB (mBin eqD (mVar 1) (mC (.int 1)))) (sSet 3 (mBin addD (mVar 3) (mF1 strD (mFrz (mCall SH.f__law_take (gO 0 (gD (mC (.int 4)) gNil))))))) sNil)
 (sSeq (mIf (mB (mBin eqD (mVar 1) (mC (.int 3)))) (sFor (mRange1 (mBin addD (mC (.int 1)) (mFrz (mCall SH.f__law_take (gO 0 (gD (mC (.int 7)) gNil)))))) (tName 4) b1__law_name) sNil)
 (sRet (mD (mVar 3))))))))
noncomputable def f__law_name : Fn := fnOf 5 1 [0] m__law_name
noncomputable abbrev p1__law_names : M Bool := (mB (mBin ninD (mVar 5) (mLook 2)))
noncomputable abbrev b2__law_names : M Fl := (sSeq (sSet 4 (mFrz (mCall SH.f__law_name (gO 0 gNil))))
 (sSeq (mIf (mB (mBin inD (mVar 4) (mLook 2))) (sSet 4 (mBin ixD (mLstF (mLc [5] (mItems (mLstF (mCons (mC (.str "a")) (mCons (mC (.str "b")) (mCons (mC (.str "c")) (mCons (mC (.str "d")) (mCons (mC (.str "e")) (mCons (mC (.str "f")) (mCons (mC (.str "g")) (mCons (mC (.str "h")) mNil)))))))))) (tName 5) p1__law_names (mVar 5))) (mC (.int 0)))) sNil)
 (sDrop (mD (mLM 2 appendD (mCons (mVar 4) mNil))))))
noncomputable def m__law_names : M Fl := (sSeq (sSetO 2 (mLst mNil))
 (sSeq (sFor (mRange1 (mVar 1)) (tName 3) b2__law_names)
 (sRet (mMove 2))))
noncomputable def f__law_names : Fn := fnOf 6 2 [0] m__law_names
noncomputable abbrev w1__law_order : M Bool := (mB (mBin neD (mLook 2) (mLstF mNil)))
noncomputable abbrev b2__law_order : M Fl := (sDrop (mD (mLM 3 appendD (mCons (mLM 2 popD (mCons (mFrz (mCall SH.f__law_take (gO 0 (gD (mF1 lenD (mLook 2)) gNil)))) mNil)) mNil))))
noncomputable def m__law_order : M Fl := (sSeq (sSetO 2 (mLst (mFN listD (mVar 1))))
 (sSeq (sSetO 3 (mLst mNil))
 (sSeq (sWhile w1__law_order b2__law_order)
 (sRet (mMove 3)))))
noncomputable def f__law_order : Fn := fnOf 4 2 [0] m__law_order
noncomputable abbrev p1__law_turn : M Bool := (mB (mBin neD (mVar 7) (mVar 8)))
noncomputable abbrev e2__law_turn : M D := (mTup (mCons (mVar 7) (mCons (mVar 8) mNil)))
noncomputable def m__law_turn : M Fl := (sSeq (sSet 2 (mFrz (mCall SH.f__law_take (gO 0 (gD (mC (.int 3)) gNil)))))
 (sSeq (sSetO 3 (mLst (mFN listD (mVar 1))))
 (sSeq (mIf (mB (mBin eqD (mVar 2) (mC (.int 1)))) (sSeq (sPar 4 5 (mCons (mFrz (mCall SH.f__law_take (gO 0 (gD (mF1 lenD (mVar 1)) gNil)))) (mCons (mFrz (mCall SH.f__law_take (gO 0 (gD (mF1 lenD (mVar 1)) gNil)))) mNil)))
 (sSeq (sSet 6 (mBin ixD (mLook 3) (mVar 4)))
 (sSeq (sPut 3 (mVar 4) (mBin ixD (mLook 3) (mVar 5)))
 (sPut 3 (mVar 5) (mVar 6))))) sNil)
 (sSeq (mIf (mB (mBin eqD (mVar 2) (mC (.int 2)))) (sSetO 3 (mCall SH.f__law_order (gO 0 (gD (mVar 1) gNil)))) sNil)
 (sRet (mD (mF1 tupD (mLstF (mFN sortO (mLstF (mLc [7, 8] (mZip (mVar 1) (mFrzV 3)) (tTup 2 (tsCons (tName 7) (tsCons (tName 8) tsNil))) p1__law_turn e2__law_turn)))))))))))
noncomputable def f__law_turn : Fn := fnOf 9 2 [0] m__law_turn
noncomputable abbrev p1__law_is_name : M Bool := (mB (mBin ninD (mVar 2) (mBin addD (mVar 1) (mC (.str "0123456789")))))
noncomputable def m__law_is_name : M Fl := (sSeq (sSet 1 (mC (.str "abcdefghijklmnopqrstuvwxyz")))
 (sSeq (mIf (mOr (mNot (mB (mF1 (isiD .str) (mVar 0)))) (mOr (mB (mBin eqD (mVar 0) (mC (.str "")))) (mOr (mB (mBin gtD (mF1 lenD (mVar 0)) (mC (.int 8)))) (mB (mBin ninD (mBin ixD (mVar 0) (mC (.int 0))) (mVar 1)))))) (sRet (mD (mC (.bool false)))) sNil)
 (sRet (mD (mBin eqD (mLstF (mLc [2] (mItems (mVar 0)) (tName 2) p1__law_is_name (mVar 2))) (mLstF mNil))))))
noncomputable def f__law_is_name : Fn := fnOf 3 1 [] m__law_is_name
noncomputable abbrev b1__law_is_turn : M Fl := (sSeq (mIf (mOr (mNot (mB (mF1 (isiD .tup) (mVar 1)))) (mB (mBin neD (mF1 lenD (mVar 1)) (mC (.int 2))))) (sRet (mD (mC (.bool false)))) sNil)
 (mIf (mOr (mNot (mB (mFrz (mCall SH.f__law_is_name (gD (mBin ixD (mVar 1) (mC (.int 0))) gNil))))) (mOr (mNot (mB (mFrz (mCall SH.f__law_is_name (gD (mBin ixD (mVar 1) (mC (.int 1))) gNil))))) (mB (mBin eqD (mBin ixD (mVar 1) (mC (.int 0))) (mBin ixD (mVar 1) (mC (.int 1))))))) (sRet (mD (mC (.bool false)))) sNil))
noncomputable abbrev e2__law_is_turn : M D := (mBin ixD (mVar 1) (mC (.int 0)))
noncomputable abbrev e3__law_is_turn : M D := (mBin ixD (mVar 1) (mC (.int 1)))
noncomputable def m__law_is_turn : M Fl := (sSeq (mIf (mNot (mB (mF1 (isiD .tup) (mVar 0)))) (sRet (mD (mC (.bool false)))) sNil)
 (sSeq (sFor (mItems (mVar 0)) (tName 1) b1__law_is_turn)
 (sSeq (sSet 2 (mLstF (mLc [1] (mItems (mVar 0)) (tName 1) mYes e2__law_is_turn)))
 (sRet (mD (mAndV (mBin eqD (mVar 2) (mLstF (mSortK (mSetOf (mVar 2))))) (mBin eqD (mLstF (mFN sortO (mLstF (mLc [1] (mItems (mVar 0)) (tName 1) mYes e3__law_is_turn)))) (mVar 2))))))))
noncomputable def f__law_is_turn : Fn := fnOf 3 1 [] m__law_is_turn
noncomputable def m__law_strange : M Fl := (sSeq (sSet 1 (mLstF (mCons (mC (.str "")) (mCons (mC (.str "Ab")) (mCons (mC (.str "1a")) (mCons (mC (.str "abcdefghi")) (mCons (mC (.str "a_b")) (mCons (mC (.str "a b")) (mCons (mC (.str "aB")) (mCons (mC (.str "-")) (mCons (mC (.str "a,b")) (mCons (mC (.str "X_1")) (mCons (mBin mulD (mC (.str "a")) (mC (.int 12))) mNil)))))))))))))
 (sSeq (sSet 2 (mLstF (mCons (mC .none) (mCons (mC (.bool true)) (mCons (mC (.int 0)) (mCons (mC (.int 7)) (mCons (mTup (mCons (mC (.str "a")) mNil)) (mCons (mLstF (mCons (mC (.str "a")) mNil)) (mCons (mDict (mConsP (mC (.str "a")) (mC (.str "b")) mNilP)) (mCons (mTup mNil) mNil))))))))))
 (sRet (mD (mBin ixD (mBin addD (mVar 1) (mVar 2)) (mFrz (mCall SH.f__law_take (gO 0 (gD (mC (.int 19)) gNil)))))))))
noncomputable def f__law_strange : Fn := fnOf 3 1 [0] m__law_strange
noncomputable abbrev e1__law_bent : M D := (mLstF (mFN listD (mVar 7)))
noncomputable abbrev e2__law_bent : M D := (mTup (mCons (mVar 8) (mCons (mVar 6) mNil)))
noncomputable abbrev e3__law_bent : M D := (mTup (mCons (mVar 9) (mCons (mVar 8) mNil)))
noncomputable def m__law_bent : M Fl := (sSeq (sSet 3 (mFrz (mCall SH.f__law_take (gO 0 (gD (mC (.int 14)) gNil)))))
 (sSeq (sSet 4 (mLstF (mFN listD (mVar 1))))
 (sSeq (sSet 5 (mFrz (mCall SH.f__law_take (gO 0 (gD (mBin addD (mF1 lenD (mVar 4)) (mC (.int 1))) gNil)))))
 (sSeq (sSet 6 (mBin ixD (mVar 2) (mFrz (mCall SH.f__law_take (gO 0 (gD (mF1 lenD (mVar 2)) gNil))))))
 (sSeq (mIf (mB (mBin eqD (mVar 3) (mC (.int 1)))) (sRet (mD (mVar 4))) sNil)
 (sSeq (mIf (mB (mBin eqD (mVar 3) (mC (.int 2)))) (sRet (mD (mF1 tupD (mLstF (mLc [7] (mItems (mVar 4)) (tName 7) mYes e1__law_bent))))) sNil)
 (sSeq (mIf (mB (mBin eqD (mVar 3) (mC (.int 3)))) (sRet (mD (mF1 tupD (mFrz (mCall SH.f__law_order (gO 0 (gD (mVar 4) gNil))))))) sNil)
 (sSeq (mIf (mB (mBin eqD (mVar 3) (mC (.int 4)))) (sRet (mD (mF1 tupD (mBin addD (mSl (mVar 4) bNo (bTo (mVar 5))) (mSl (mVar 4) (bTo (mBin addD (mVar 5) (mC (.int 1)))) bNo))))) sNil)
 (sSeq (mIf (mB (mBin eqD (mVar 3) (mC (.int 5)))) (sRet (mD (mF1 tupD (mLstF (mFN sortO (mBin addD (mVar 4) (mSl (mVar 4) (bTo (mVar 5)) (bTo (mBin addD (mVar 5) (mC (.int 1))))))))))) sNil)
 (sSeq (mIf (mB (mBin eqD (mVar 3) (mC (.int 6)))) (sRet (mD (mF1 tupD (mLstF (mFN sortO (mBin addD (mVar 4) (mLstF (mCons (mTup (mCons (mVar 6) (mCons (mVar 6) mNil))) mNil)))))))) sNil)
 (sSeq (mIf (mB (mBin eqD (mVar 3) (mC (.int 7)))) (sRet (mD (mF1 tupD (mBin addD (mBin addD (mSl (mVar 4) bNo (bTo (mVar 5))) (mLstF (mCons (mTup (mCons (mFrz (mCall SH.f__law_strange (gO 0 gNil))) (mCons (mVar 6) mNil))) mNil))) (mSl (mVar 4) (bTo (mVar 5)) bNo))))) sNil)
 (sSeq (mIf (mB (mBin eqD (mVar 3) (mC (.int 8)))) (sRet (mD (mF1 tupD (mBin addD (mBin addD (mSl (mVar 4) bNo (bTo (mVar 5))) (mLstF (mCons (mTup (mCons (mVar 6) (mCons (mFrz (mCall SH.f__law_strange (gO 0 gNil))) mNil))) mNil))) (mSl (mVar 4) (bTo (mVar 5)) bNo))))) sNil)
 (sSeq (mIf (mB (mBin eqD (mVar 3) (mC (.int 9)))) (sRet (mD (mF1 tupD (mLstF (mLc [8, 9] (mItems (mVar 4)) (tTup 2 (tsCons (tName 8) (tsCons (tName 9) tsNil))) mYes e2__law_bent))))) sNil)
 (sSeq (mIf (mB (mBin eqD (mVar 3) (mC (.int 10)))) (sRet (mD (mF1 tupD (mBin addD (mBin addD (mSl (mVar 4) bNo (bTo (mVar 5))) (mLstF (mCons (mSl (mTup (mCons (mVar 6) (mCons (mVar 6) (mCons (mVar 6) mNil)))) bNo (bTo (mBin ixD (mLstF (mCons (mC (.int 1)) (mCons (mC (.int 3)) mNil))) (mFrz (mCall SH.f__law_take (gO 0 (gD (mC (.int 2)) gNil))))))) mNil))) (mSl (mVar 4) (bTo (mVar 5)) bNo))))) sNil)
 (sSeq (mIf (mB (mBin eqD (mVar 3) (mC (.int 11)))) (sRet (mCall SH.f__law_strange (gO 0 gNil))) sNil)
 (sSeq (mIf (mB (mBin eqD (mVar 3) (mC (.int 12)))) (sRet (mD (mF1 tupD (mLstF (mLc [8, 9] (mItems (mVar 4)) (tTup 2 (tsCons (tName 8) (tsCons (tName 9) tsNil))) mYes e3__law_bent))))) sNil)
 (sRet (mD (mVar 1)))))))))))))))))))
noncomputable def f__law_bent : Fn := fnOf 10 3 [0] m__law_bent
noncomputable def m__law_said : M Fl := (sSeq (sSetO 2 (mLst mNil))
 (sSeq (sTry (sDrop (mCall SH.f_back_turn (gD (mVar 0) gNil))) [(tabIsa [("NoTurn", true)], (sDrop (mD (mLM 2 appendD (mCons (mC (.str "back")) mNil)))))])
 (sSeq (sTry (sDrop (mCall SH.f_rounds_of (gD (mVar 0) gNil))) [(tabIsa [("NoTurn", true)], (sDrop (mD (mLM 2 appendD (mCons (mC (.str "rounds")) mNil)))))])
 (sSeq (sTry (sDrop (mCall SH.f_swaps_of (gD (mVar 0) gNil))) [(tabIsa [("NoTurn", true)], (sDrop (mD (mLM 2 appendD (mCons (mC (.str "swaps")) mNil)))))])
 (sSeq (sTry (sDrop (mCall SH.f_turned_name (gD (mVar 0) (gD (mVar 1) gNil)))) [(tabIsa [("NoName", false), ("NoTurn", true)], (sDrop (mD (mLM 2 appendD (mCons (mC (.str "turned")) mNil))))), (tabIsa [("NoName", true), ("NoTurn", false)], (sDrop (mD (mLM 2 appendD (mCons (mC (.str "name")) mNil)))))])
 (sRet (mMove 2)))))))
noncomputable def f__law_said : Fn := fnOf 3 2 [] m__law_said
noncomputable abbrev p1_turn_from : M Bool := (mB (mBin neD (mVar 1) (mVar 2)))
noncomputable abbrev e2_turn_from : M D := (mTup (mCons (mVar 1) (mCons (mVar 2) mNil)))
noncomputable def m_turn_from : M Fl := (sRet (mD (mF1 tupD (mLstF (mFN sortO (mLstF (mLc [1, 2] (mItemsP (mVar 0)) (tTup 2 (tsCons (tName 1) (tsCons (tName 2) tsNil))) p1_turn_from e2_turn_from)))))))
noncomputable def f_turn_from : Fn := fnOf 3 1 [] m_turn_from
noncomputable abbrev e1_both_turns : M D := (mFrz (mCall SH.f_led_name (gD (mVar 1) (gD (mFrz (mCall SH.f_led_name (gD (mVar 0) (gD (mVar 3) gNil)))) gNil))))
noncomputable def m_both_turns : M Fl := (sSeq (sSet 2 (mBin addD (mLstF (mLc [3, 4] (mItems (mVar 0)) (tTup 2 (tsCons (tName 3) (tsCons (tName 4) tsNil))) mYes (mVar 3))) (mLstF (mLc [3, 4] (mItems (mVar 1)) (tTup 2 (tsCons (tName 3) (tsCons (tName 4) tsNil))) mYes (mVar 3)))))
 (sRet (mCall SH.f_turn_from (gD (mDcF (mDc [3] (mItems (mVar 2)) (tName 3) mYes (mVar 3) e1_both_turns)) gNil))))
noncomputable def f_both_turns : Fn := fnOf 5 2 [] m_both_turns
noncomputable def m_swap_of : M Fl := (sRet (mCall SH.f_turn_from (gD (mDict (mConsP (mVar 0) (mVar 1) (mConsP (mVar 1) (mVar 0) mNilP))) gNil)))
noncomputable def f_swap_of : Fn := fnOf 2 2 [] m_swap_of
noncomputable abbrev e1_turn_of : M D := (mFrz (mCall SH.f_is_name (gD (mVar 2) gNil)))
noncomputable abbrev b2_turn_of : M Fl := (sSet 3 (mFrz (mCall SH.f_both_turns (gD (mVar 3) (gD (mFrz (mCall SH.f_swap_of (gD (mVar 2) (gD (mVar 4) gNil)))) gNil)))))
noncomputable def m_turn_of : M Fl := (sSeq (mIf (mNot (mB (mF1 allD (mLstF (mLc2 [1, 2] (mItems (mVar 0)) (tName 1) mYes [2] (mItems (mVar 1)) (tName 2) mYes e1_turn_of))))) (sRaise "NoName") sNil)
 (sSeq (sSet 3 (mTup mNil))
 (sSeq (sFor (mItems (mVar 0)) (tTup 2 (tsCons (tName 2) (tsCons (tName 4) tsNil))) b2_turn_of)
 (sRet (mD (mVar 3))))))
noncomputable def f_turn_of : Fn := fnOf 5 1 [] m_turn_of
noncomputable abbrev b1__law_led : M Fl := (mIf (mB (mBin eqD (mVar 1) (mVar 2))) (sSet 1 (mVar 3)) (mIf (mB (mBin eqD (mVar 1) (mVar 3))) (sSet 1 (mVar 2)) sNil))
noncomputable def m__law_led : M Fl := (sSeq (sFor (mItems (mVar 0)) (tTup 2 (tsCons (tName 2) (tsCons (tName 3) tsNil))) b1__law_led)
 (sRet (mD (mVar 1))))
noncomputable def f__law_led : Fn := fnOf 4 2 [] m__law_led
noncomputable abbrev e1__law_right : M D := (mTup (mCons (mVar 5) (mCons (mFrz (mCall SH.f__law_led (gD (mVar 0) (gD (mVar 5) gNil)))) mNil)))
noncomputable abbrev p2__law_right : M Bool := (mB (mBin neD (mBin ixD (mVar 7) (mC (.int 0))) (mBin ixD (mVar 7) (mC (.int 1)))))
noncomputable abbrev p3__law_right : M Bool := (mNot (mB (mF1 (isiD .tup) (mVar 8))))
noncomputable abbrev b4__law_right : M Fl := (mIf (mB (mBin neD (mFrz (mCall SH.f_turned_name (gD (mVar 3) (gD (mVar 5) gNil)))) (mFrz (mCall SH.f__law_led (gD (mVar 0) (gD (mVar 5) gNil)))))) (sRet (mD (mC (.bool false)))) sNil)
noncomputable def m__law_right : M Fl := (sSeq (sSet 2 (mLstF (mFN listD (mVar 0))))
 (sSeq (sSet 3 (mFrz (mCall SH.f_turn_of (gD (mVar 2) gNil))))
 (sSeq (sSet 4 (mLstF (mLc [5] (mItems (mLstF (mFN sortO (mVar 1)))) (tName 5) mYes e1__law_right)))
 (sSeq (sSet 6 (mLstF (mLc [7] (mItems (mVar 4)) (tName 7) p2__law_right (mVar 7))))
 (sSeq (mIf (mOr (mB (mBin neD (mVar 3) (mF1 tupD (mVar 6)))) (mB (mBin neD (mVar 2) (mVar 0)))) (sRet (mD (mC (.bool false)))) sNil)
 (sSeq (mIf (mOr (mNot (mB (mF1 (isiD .tup) (mVar 3)))) (mB (mBin neD (mLstF (mLc [8] (mItems (mVar 3)) (tName 8) p3__law_right (mVar 8))) (mLstF mNil)))) (sRet (mD (mC (.bool false)))) sNil)
 (sSeq (sFor (mItems (mBin addD (mVar 1) (mLstF (mCons (mC (.str "a")) (mCons (mC (.str "b")) (mCons (mC (.str "q7")) (mCons (mC (.str "zzzzzzzz")) mNil))))))) (tName 5) b4__law_right)
 (sRet (mD (mC (.bool true)))))))))))
noncomputable def f__law_right : Fn := fnOf 9 2 [] m__law_right
noncomputable def m__law_refused : M Fl := (sSeq (sTry (sDrop (mCall SH.f_turn_of (gD (mVar 0) gNil))) [(tabIsa [("NoName", true)], (sRet (mD (mC (.bool true)))))])
 (sRet (mD (mC (.bool false)))))
noncomputable def f__law_refused : Fn := fnOf 1 1 [] m__law_refused
noncomputable abbrev p1_apart_in : M Bool := (mB (mBin neD (mFrz (mCall SH.f_led_name (gD (mVar 0) (gD (mVar 3) gNil)))) (mFrz (mCall SH.f_led_name (gD (mVar 1) (gD (mVar 3) gNil))))))
noncomputable def m_apart_in : M Fl := (sSeq (sSet 2 (mLstF (mSortK (mSetOr (mSetC (mLcN ⟨[3, 4], (tTup 2 (tsCons (tName 3) (tsCons (tName 4) tsNil))), mYes⟩ (mItems (mVar 0)) (cEnd (mTxt (mVar 3))))) (mSetC (mLcN ⟨[3, 4], (tTup 2 (tsCons (tName 3) (tsCons (tName 4) tsNil))), mYes⟩ (mItems (mVar 1)) (cEnd (mTxt (mVar 3)))))))))
 (sRet (mLst (mLc [3] (mItems (mVar 2)) (tName 3) p1_apart_in (mVar 3)))))
noncomputable def f_apart_in : Fn := fnOf 5 2 [] m_apart_in
noncomputable def m_then_turn : M Fl := (sSeq (sDrop (mCall SH.f_sure_turns (gD (mLstF (mCons (mVar 0) (mCons (mVar 1) mNil))) gNil)))
 (sRet (mCall SH.f_both_turns (gD (mVar 0) (gD (mVar 1) gNil)))))
noncomputable def f_then_turn : Fn := fnOf 2 2 [] m_then_turn
noncomputable def m_apart_names : M Fl := (sSeq (sDrop (mCall SH.f_sure_turns (gD (mLstF (mCons (mVar 0) (mCons (mVar 1) mNil))) gNil)))
 (sRet (mCall SH.f_apart_in (gD (mVar 0) (gD (mVar 1) gNil)))))
noncomputable def f_apart_names : Fn := fnOf 2 2 [] m_apart_names
noncomputable abbrev p1__law_turn_2 : M Bool := (mB (mBin neD (mVar 7) (mVar 8)))
noncomputable abbrev e2__law_turn_2 : M D := (mTup (mCons (mVar 7) (mCons (mVar 8) mNil)))
noncomputable def m__law_turn_2 : M Fl := (sSeq (sSet 2 (mFrz (mCall SH.f__law_take (gO 0 (gD (mC (.int 3)) gNil)))))
 (sSeq (sSetO 3 (mLst (mFN listD (mVar 1))))
 (sSeq (mIf (mB (mBin eqD (mVar 2) (mC (.int 1)))) (sSeq (sPar 4 5 (mCons (mFrz (mCall SH.f__law_take (gO 0 (gD (mF1 lenD (mVar 1)) gNil)))) (mCons (mFrz (mCall SH.f__law_take (gO 0 (gD (mF1 lenD (mVar 1)) gNil)))) mNil)))
 (sSeq (sSet 6 (mBin ixD (mLook 3) (mVar 4)))
 (sSeq (sPut 3 (mVar 4) (mBin ixD (mLook 3) (mVar 5)))
 (sPut 3 (mVar 5) (mVar 6))))) sNil)
 (sSeq (mIf (mB (mBin eqD (mVar 2) (mC (.int 2)))) (sSetO 3 (mCall SH.f__law_order (gO 0 (gD (mVar 1) gNil)))) sNil)
 (sRet (mD (mF1 tupD (mLstF (mFN sortO (mLstF (mLc [7, 8] (mZip (mVar 1) (mFrzV 3)) (tTup 2 (tsCons (tName 7) (tsCons (tName 8) tsNil))) p1__law_turn_2 e2__law_turn_2)))))))))))
noncomputable def f__law_turn_2 : Fn := fnOf 9 2 [0] m__law_turn_2
noncomputable abbrev p1__law_to : M Bool := (mB (mBin eqD (mVar 2) (mVar 1)))
noncomputable def m__law_to : M Fl := (sRet (mD (mBin ixD (mBin addD (mLstF (mLc [2, 3] (mItems (mVar 0)) (tTup 2 (tsCons (tName 2) (tsCons (tName 3) tsNil))) p1__law_to (mVar 3))) (mLstF (mCons (mVar 1) mNil))) (mC (.int 0)))))
noncomputable def f__law_to : Fn := fnOf 4 2 [] m__law_to
noncomputable abbrev e1__law_table : M D := (mFrz (mCall SH.f__law_to (gD (mVar 0) (gD (mVar 2) gNil))))
noncomputable def m__law_table : M Fl := (sRet (mLst (mLc [2] (mItems (mVar 1)) (tName 2) mYes e1__law_table)))
noncomputable def f__law_table : Fn := fnOf 3 2 [] m__law_table
noncomputable def m__law_refused_2 : M Fl := (sSeq (sSetO 2 (mLst mNil))
 (sSeq (sTry (sDrop (mCall SH.f_then_turn (gD (mVar 0) (gD (mVar 1) gNil)))) [(tabIsa [("NoTurn", true)], (sDrop (mD (mLM 2 appendD (mCons (mC (.str "then")) mNil)))))])
 (sSeq (sTry (sDrop (mCall SH.f_apart_names (gD (mVar 0) (gD (mVar 1) gNil)))) [(tabIsa [("NoTurn", true)], (sDrop (mD (mLM 2 appendD (mCons (mC (.str "apart")) mNil)))))])
 (sRet (mMove 2)))))
noncomputable def f__law_refused_2 : Fn := fnOf 3 2 [] m__law_refused_2
noncomputable abbrev p1__law_is_round : M Bool := (mB (mBin neD (mFrz (mCall SH.f__law_to (gD (mVar 0) (gD (mVar 3) gNil)))) (mBin ixD (mVar 1) (mBin modD (mBin addD (mVar 2) (mC (.int 1))) (mF1 lenD (mVar 1))))))
noncomputable def m__law_is_round : M Fl := (sSeq (mIf (mOr (mNot (mB (mF1 (isiD .tup) (mVar 1)))) (mOr (mB (mBin ltD (mF1 lenD (mVar 1)) (mC (.int 2)))) (mB (mBin neD (mF1 mnD (mVar 1)) (mBin ixD (mVar 1) (mC (.int 0))))))) (sRet (mD (mC (.bool false)))) sNil)
 (sRet (mD (mBin eqD (mLstF (mLc [2, 3] (mEnumA (mVar 1)) (tTup 2 (tsCons (tName 2) (tsCons (tName 3) tsNil))) p1__law_is_round (mVar 2))) (mLstF mNil)))))
noncomputable def f__law_is_round : Fn := fnOf 4 2 [] m__law_is_round
noncomputable abbrev b1__law_are_swaps : M Fl := (sSeq (mIf (mOr (mNot (mB (mF1 (isiD .tup) (mVar 1)))) (mOr (mB (mBin neD (mF1 lenD (mVar 1)) (mC (.int 2)))) (mB (mBin eqD (mBin ixD (mVar 1) (mC (.int 0))) (mBin ixD (mVar 1) (mC (.int 1))))))) (sRet (mD (mC (.bool false)))) sNil)
 (mIf (mOr (mNot (mB (mFrz (mCall SH.f__law_is_name (gD (mBin ixD (mVar 1) (mC (.int 0))) gNil))))) (mNot (mB (mFrz (mCall SH.f__law_is_name (gD (mBin ixD (mVar 1) (mC (.int 1))) gNil)))))) (sRet (mD (mC (.bool false)))) sNil))
noncomputable def m__law_are_swaps : M Fl := (sSeq (mIf (mNot (mB (mF1 (isiD .lst) (mVar 0)))) (sRet (mD (mC (.bool false)))) sNil)
 (sSeq (sFor (mItems (mVar 0)) (tName 1) b1__law_are_swaps)
 (sRet (mD (mC (.bool true))))))
noncomputable def f__law_are_swaps : Fn := fnOf 2 1 [] m__law_are_swaps
noncomputable abbrev e1__law_lengths : M D := (mF1 lenD (mVar 1))
noncomputable def m__law_lengths : M Fl := (sRet (mLst (mFN sortO (mLstF (mLc [1] (mItems (mFrz (mCall SH.f_rounds_of (gD (mVar 0) gNil)))) (tName 1) mYes e1__law_lengths)))))
noncomputable def f__law_lengths : Fn := fnOf 2 1 [] m__law_lengths
end SH
end
section
set_option maxRecDepth 100000
set_option maxHeartbeats 0
set_option exponentiation.threshold 3000
namespace SH
open PySem PySem.Spec PyProof.Rows L2 DL
def oD (x : D) : OV := .d x
theorem mixed (c k : Int) (hc : 0 ≤ c) (hc2 : c < 2 ^ 32) (hk : 0 ≤ k) (hk2 : k < 2 ^ 60) : ∃ r : Int, 0 ≤ r ∧ f__law_mixed [.d (.int c), .d (.int k)] = .ok (.d (.int r)) [some (.d (.int c)), some (.d (.int k))] := by
  have a1 := Int.emod_nonneg (c * 48271 + k * 69621 + 11) (b := 2147483629) (by decide)
  have a2 := Int.emod_lt_of_pos (c * 48271 + k * 69621 + 11) (b := 2147483629) (by decide)
  generalize hn : (c * 48271 + k * 69621 + 11) % 2147483629 = n at a1 a2
  have b1 := Int.emod_nonneg (n * n) (b := 2147483587) (by decide)
  have b2 := Int.emod_lt_of_pos (n * n) (b := 2147483587) (by decide)
  generalize hm : n * n % 2147483587 = m at b1 b2
  have d1 := Int.emod_nonneg (m * m) (b := 2147483549) (by decide)
  refine ⟨m * m % 2147483549 / 64, by omega, ?_⟩
  have e1 : mulD (.int c) (.int 48271) = some (.int (c * 48271)) := mul_p (by omega) (by omega)
  have e2 : mulD (.int k) (.int 69621) = some (.int (k * 69621)) := mul_p (by omega) (by omega)
  have e3 : mulD (.int n) (.int n) = some (.int (n * n)) := mul_p (by omega) (by omega)
  have e4 : mulD (.int m) (.int m) = some (.int (m * m)) := mul_p (by omega) (by omega)
  simp [f__law_mixed, m__law_mixed, fnOf, e1, e2, mod_i, hn, e3, hm, e4, div_p, outsOf]
theorem ix3 {a b c : D} : ixD (.list [a, b, c]) (.int 0) = some a ∧ ixD (.list [a, b, c]) (.int 1) = some b ∧ ixD (.list [a, b, c]) (.int 2) = some c := ⟨rfl, rfl, rfl⟩
/-- a pile of draws: what is left of the digits, the cell's rest, the draws so far (at most B) -/
structure Pile (B : Nat) (p : List D) : Prop where
  ex : ∃ d m j : Int, p = [.int d, .int m, .int j] ∧ 0 ≤ d ∧ 0 ≤ m ∧ m < 2 ^ 32 ∧ 0 ≤ j ∧ j ≤ B
theorem Pile.up {B C : Nat} {p : List D} (h : Pile B p) (hl : B ≤ C) : Pile C p := by
  obtain ⟨d, m, j, e, h1, h2, h3, h4, h5⟩ := h.ex
  exact ⟨d, m, j, e, h1, h2, h3, h4, by omega⟩
theorem take_ok {B : Nat} (hB : B < 2 ^ 50) {p : List D} (h : Pile B p) (n : Int) (hn : 0 < n) (hn2 : n < 2 ^ 60) : ∃ (r : Int) (p' : List D), 0 ≤ r ∧ r < n ∧ Pile (B + 1) p' ∧ f__law_take [.lst p, .d (.int n)] = .ok (.d (.int r)) [some (.lst p'), some (.d (.int n))] := by
  obtain ⟨d, m, j, rfl, h1, h2, h3, h4, h5⟩ := h.ex
  by_cases hd : d = 0
  · subst hd
    obtain ⟨r, hr, e⟩ := mixed m (j + 1) h2 h3 (by omega) (by omega)
    refine ⟨r % n, _, Int.emod_nonneg _ (by omega), Int.emod_lt_of_pos _ hn, ⟨0, m, j + 1, rfl, by omega, h2, h3, by omega, by omega⟩, ?_⟩
    simp [f__law_take, m__law_take, fnOf, ix3.1, ix3.2.1, ix3.2.2, eq_i, e, mod_i, hn, outsOf, ixN]
  · refine ⟨d % n, _, Int.emod_nonneg _ (by omega), Int.emod_lt_of_pos _ hn, ⟨d / n, m, j, rfl, Int.ediv_nonneg h1 (by omega), h2, h3, h4, by omega⟩, ?_⟩
    have e : divD (.int d) (.int n) = some (.int (d / n)) := div_p hn (by omega)
    simp [f__law_take, m__law_take, fnOf, ix3.1, ix3.2.1, ix3.2.2, eq_i, hd, e, mod_i, hn, outsOf, ixN]
end SH
end
section
set_option maxRecDepth 100000
set_option maxHeartbeats 0
set_option exponentiation.threshold 3000
namespace SH
open PySem PySem.Spec PyProof.Rows L2 DL
theorem pile_ok (ns : List Int) (k : Nat) (hk : k < 1000) : ∃ p, Pile (131 * k) p ∧ f__law_pile [.d (scrD ns), .d (.int k)] = .ok (.lst p) [some (.d (scrD ns)), some (.d (.int k))] := by
  have p1 : powD (.int 10) (.int 60) = some (.int (10 ^ 60)) := by rfl
  have p2 : powD (.int 10) (.int 18) = some (.int (10 ^ 18)) := by rfl
  have q1 : mulD (.int (10 ^ 60)) (.int (10 ^ 60)) = some (.int (10 ^ 60 * 10 ^ 60)) := mul_b (by decide) (by decide)
  have q2 : mulD (.int (10 ^ 60 * 10 ^ 60)) (.int (10 ^ 60)) = some (.int (10 ^ 60 * 10 ^ 60 * 10 ^ 60)) := mul_b (by decide) (by decide)
  have q3 : mulD (.int 131) (.int (k : Int)) = some (.int (131 * (k : Int))) := mul_p (by omega) (by omega)
  have main : ∀ c : Int, ∃ dg : Int, 0 ≤ dg ∧ (mulD (.int (c % (10 ^ 60 * 10 ^ 60 * 10 ^ 60))) (.int (if decide (10 ^ 18 ≤ (if c < 0 then -c else c)) = true then 1 else 0))) = some (.int dg) := fun c => by
    have a1 := Int.emod_nonneg c (b := 10 ^ 60 * 10 ^ 60 * 10 ^ 60) (by decide)
    have a2 := Int.emod_lt_of_pos c (b := 10 ^ 60 * 10 ^ 60 * 10 ^ 60) (by decide)
    have a3 : ((10 : Int) ^ 60 * 10 ^ 60 * 10 ^ 60) < 2 ^ 900 := by decide
    have a4 : ((2 : Int) ^ 900) = ((2 ^ 900 : Nat) : Int) := by norm_cast
    generalize c % (10 ^ 60 * 10 ^ 60 * 10 ^ 60) = x at a1 a2
    have a5 : x.natAbs < 2 ^ 900 := by omega
    by_cases hc : 10 ^ 18 ≤ (if c < 0 then -c else c)
    · rw [decide_eq_true hc, if_pos rfl]
      exact ⟨x * 1, by omega, mul_b (j := 1) a5 (by decide)⟩
    · rw [decide_eq_false hc, if_neg Bool.false_ne_true]
      exact ⟨x * 0, by omega, mul_b (j := 0) a5 (by decide)⟩
  have mm : ∀ c : Int, 0 ≤ c % 2147483629 ∧ c % 2147483629 < 2 ^ 32 := fun c => by
    have a1 := Int.emod_nonneg c (b := 2147483629) (by decide)
    have a2 := Int.emod_lt_of_pos c (b := 2147483629) (by decide)
    omega
  have len : lenD (scrD ns) = some (.int ns.length) := by simp [lenD, scrD, cells]
  by_cases hl : (k : Int) < ns.length
  · obtain ⟨c, hc⟩ : ∃ c : Int, ixD (scrD ns) (.int k) = some (.int c) := by
      obtain ⟨x, h1, h2⟩ := atI_nat (xs := ns.map PyData.int) (i := (k : Int)) (by omega) (by rw [List.length_map]; exact hl)
      rw [List.getElem?_map] at h2
      obtain ⟨y, _, rfl⟩ := Option.map_eq_some_iff.mp h2
      exact ⟨y, by simp [ixD, scrD, cells, h1]⟩
    obtain ⟨dg, h0, h1⟩ := main c
    refine ⟨[.int dg, .int (c % 2147483629), .int (131 * k)], ⟨dg, _, _, rfl, h0, (mm c).1, (mm c).2, by omega, by omega⟩, ?_⟩
    simp only [f__law_pile, m__law_pile, fnOf]
    simp [len, ltD, hl, hc, p1, p2, mul_b, q3, mod_i, absD, geD, DL.intD, outsOf] at h1 ⊢
    simp [q3, mod_i, h1, outsOf]
  · obtain ⟨dg, h0, h1⟩ := main 0
    refine ⟨[.int dg, .int 0, .int (131 * k)], ⟨dg, _, _, rfl, h0, by omega, by omega, by omega, by omega⟩, ?_⟩
    simp only [f__law_pile, m__law_pile, fnOf]
    simp [len, ltD, hl, p1, p2, mul_b, q3, mod_i, absD, geD, DL.intD, outsOf] at h1 ⊢
    try simp [q3, mod_i, h1, outsOf]
end SH
end
section
set_option maxRecDepth 100000
set_option maxHeartbeats 0
set_option exponentiation.threshold 3000
namespace SH
open PySem PySem.Spec PyProof.Rows L2 DL
def isSm (c : Nat) : Prop := 97 ≤ c ∧ c ≤ 122
def isFg (c : Nat) : Prop := 48 ≤ c ∧ c ≤ 57
instance (c : Nat) : Decidable (isSm c) := inferInstanceAs (Decidable (_ ∧ _))
instance (c : Nat) : Decidable (isFg c) := inferInstanceAs (Decidable (_ ∧ _))
abbrev abc : Str := "abcdefghijklmnopqrstuvwxyz"
abbrev fig : Str := "0123456789"
theorem abc_cps : abc.cps.toList = (List.range 26).map (97 + ·) := by decide +kernel
theorem fig_cps : fig.cps.toList = (List.range 10).map (48 + ·) := by decide +kernel
theorem mem_abc (c : Nat) : c ∈ abc.cps.toList ↔ isSm c := by
  rw [abc_cps, List.mem_map]
  constructor
  · rintro ⟨k, hk, rfl⟩
    have := List.mem_range.mp hk
    exact ⟨by omega, by omega⟩
  · rintro ⟨h1, h2⟩
    exact ⟨c - 97, List.mem_range.mpr (by omega), by omega⟩
theorem mem_fig (c : Nat) : c ∈ fig.cps.toList ↔ isFg c := by
  rw [fig_cps, List.mem_map]
  constructor
  · rintro ⟨k, hk, rfl⟩
    have := List.mem_range.mp hk
    exact ⟨by omega, by omega⟩
  · rintro ⟨h1, h2⟩
    exact ⟨c - 48, List.mem_range.mpr (by omega), by omega⟩
theorem abc_len : abc.length = 26 := by decide +kernel
theorem fig_len : fig.length = 10 := by decide +kernel
theorem str_len (s : Str) : s.cps.toList.length = s.length := by simp [Str.length]
theorem app_cps (a b : Str) : (a ++ b).cps.toList = a.cps.toList ++ b.cps.toList := by
  show (a.cps ++ b.cps).toList = _
  simp
theorem app_len (a b : Str) : (a ++ b).length = a.length + b.length := by
  rw [← str_len, app_cps, List.length_append, str_len, str_len]
theorem ix_str {z : Str} {r : Int} (hz : z.length ≤ sizeLine) (h0 : 0 ≤ r) (h1 : r < z.length) : ∃ c, c ∈ z.cps.toList ∧ ixD (.str z) (.int r) = some (.str ⟨#[c]⟩) := by
  obtain ⟨c, e1, e2⟩ := atI_nat (xs := z.cps.toList) h0 (by rw [str_len]; exact h1)
  refine ⟨c, List.mem_of_getElem? e2, ?_⟩
  simp [ixD, hz, e1]
theorem size_big : 1000 ≤ sizeLine := by decide +kernel
/-- a name -/
structure NmS (s : Str) : Prop where
  len : s.length ≤ 8
  hd : ∃ c r, s.cps.toList = c :: r ∧ isSm c
  all : ∀ c ∈ s.cps.toList, isSm c ∨ isFg c
theorem nm_one {c : Nat} (h : isSm c) : NmS ⟨#[c]⟩ := ⟨by simp [Str.length], ⟨c, [], rfl, h⟩, fun d hd => by simp at hd; subst hd; exact .inl h⟩
theorem nm_app {s : Str} {c : Nat} (h : NmS s) (hl : s.length < 8) (hc : isSm c ∨ isFg c) : NmS (s ++ ⟨#[c]⟩) := by
  refine ⟨by rw [app_len]; simp [Str.length] at hl ⊢; omega, ?_, fun d hd => ?_⟩
  · obtain ⟨a, r, e, h1⟩ := h.hd
    exact ⟨a, r ++ [c], by rw [app_cps, e]; rfl, h1⟩
  · rw [app_cps] at hd
    rcases List.mem_append.mp hd with hd | hd
    · exact h.all d hd
    · simp at hd
      subst hd
      exact hc
theorem add_str {a b : Str} (h : a.length + b.length ≤ 1000) : addD (.str a) (.str b) = some (.str (a ++ b)) := by
  have := size_big
  exact if_pos (by omega)
theorem one_len (c : Nat) : (⟨#[c]⟩ : Str).length = 1 := rfl
theorem dig_of {r : Int} {c : Nat} (h : r.natAbs.log2 < 1920) (e : Str.ofString (toString r) = ⟨#[c]⟩) : strD (.int r) = some (.str ⟨#[c]⟩) := by
  have z : strD (.int r) = if r.natAbs.log2 < 1920 then some (.str (Str.ofString (toString r))) else none := rfl
  rw [z, if_pos h, e]
theorem dig (r : Int) (h0 : 0 ≤ r) (h1 : r < 4) : ∃ c, isFg c ∧ strD (.int r) = some (.str ⟨#[c]⟩) := by
  have : r = 0 ∨ r = 1 ∨ r = 2 ∨ r = 3 := by omega
  rcases this with rfl | rfl | rfl | rfl
  · exact ⟨48, by decide, dig_of (by decide) (by decide +kernel)⟩
  · exact ⟨49, by decide, dig_of (by decide) (by decide +kernel)⟩
  · exact ⟨50, by decide, dig_of (by decide) (by decide +kernel)⟩
  · exact ⟨51, by decide, dig_of (by decide) (by decide +kernel)⟩
theorem name_ok {B : Nat} (hB : B < 2 ^ 49) {p : List D} (h : Pile B p) : ∃ (s : Str) (p' : List D), NmS s ∧ Pile (B + 20) p' ∧ f__law_name [.lst p] = .ok (.d (.str s)) [some (.lst p')] := by
  have big := size_big
  obtain ⟨kd, p1, h0, h1, hp1, e1⟩ := take_ok (by omega) h 4 (by omega) (by omega)
  have la : abc.length ≤ sizeLine := by rw [abc_len]; omega
  have first : ∀ n : Int, 0 < n → n ≤ 26 → ∃ (c : Nat) (r : Int) (p2 : List D), isSm c ∧ Pile (B + 2) p2 ∧ f__law_take [.lst p1, .d (.int n)] = .ok (.d (.int r)) [some (.lst p2), some (.d (.int n))] ∧ ixD (.str abc) (.int r) = some (.str ⟨#[c]⟩) := fun n a b => by
    obtain ⟨r, p2, q0, q1, hp2, e2⟩ := take_ok (by omega) hp1 n a (by omega)
    obtain ⟨c, hc, e3⟩ := ix_str la q0 (by rw [abc_len]; omega)
    exact ⟨c, r, p2, (mem_abc c).mp hc, hp2, e2, e3⟩
  have i0 : ixD (.list [.int 5, .int 26]) (.int 0) = some (.int 5) := rfl
  have i1 : ixD (.list [.int 5, .int 26]) (.int 1) = some (.int 26) := rfl
  have : kd = 0 ∨ kd = 1 ∨ kd = 2 ∨ kd = 3 := by omega
  rcases this with rfl | rfl | rfl | rfl
  · obtain ⟨c, r, p2, hc, hp2, e2, e3⟩ := first 5 (by omega) (by omega)
    refine ⟨_, p2, nm_one hc, hp2.up (by omega), ?_⟩
    simp [f__law_name, m__law_name, fnOf, e1, gtD, DL.intD, i0, e2, e3, eq_i, outsOf]
  · obtain ⟨c, r, p2, hc, hp2, e2, e3⟩ := first 5 (by omega) (by omega)
    obtain ⟨k, p3, q0, q1, hp3, e4⟩ := take_ok (by omega) hp2 4 (by omega) (by omega)
    obtain ⟨d, hd, e5⟩ := dig k q0 q1
    refine ⟨_, p3, nm_app (nm_one hc) (by simp [Str.length]) (.inr hd), hp3.up (by omega), ?_⟩
    have e6 : addD (.str ⟨#[c]⟩) (.str ⟨#[d]⟩) = some (.str (⟨#[c]⟩ ++ ⟨#[d]⟩)) := add_str (by rw [one_len, one_len]; omega)
    simp [f__law_name, m__law_name, fnOf, e1, gtD, DL.intD, i0, e2, e3, eq_i, e4, e5, e6, outsOf]
  · obtain ⟨c, r, p2, hc, hp2, e2, e3⟩ := first 26 (by omega) (by omega)
    refine ⟨_, p2, nm_one hc, hp2.up (by omega), ?_⟩
    simp [f__law_name, m__law_name, fnOf, e1, gtD, DL.intD, i1, e2, e3, eq_i, outsOf]
  · obtain ⟨c, r, p2, hc, hp2, e2, e3⟩ := first 26 (by omega) (by omega)
    obtain ⟨k, p3, q0, q1, hp3, e4⟩ := take_ok (by omega) hp2 7 (by omega) (by omega)
    have hr : range1 (.int (1 + k)) = some (rangeL 0 (1 + k).toNat) := by
      show (if _ then _ else _) = _
      rw [if_pos]
      exact ⟨by omega, by omega⟩
    have hlen : (rangeL 0 (1 + k).toNat).length = (1 + k).toNat := by unfold rangeL; simp
    have af : addD (.str abc) (.str fig) = some (.str (abc ++ fig)) := add_str (by rw [abc_len, fig_len]; omega)
    have lf : (abc ++ fig).length = 36 := by rw [app_len, abc_len, fig_len]
    obtain ⟨ρ', f1, s, q, w, rfl, f2, f3, f4⟩ := forGo_inv (t := tName 4) (b := sSet 3 (mBin addD (mVar 3) (mBin ixD (mBin addD (mVar 2) (mC (.str fig))) (mFrz (mCall f__law_take (gO 0 (gD (mC (.int 36)) gNil)))))))
      (xs := rangeL 0 (1 + k).toNat) (ρ := [some (.lst p3), some (.d (.int 3)), some (.d (.str abc)), some (.d (.str ⟨#[c]⟩)), none])
      (fun i ρ => ∃ s q w, ρ = [some (.lst q), some (.d (.int 3)), some (.d (.str abc)), some (.d (.str s)), w] ∧ NmS s ∧ s.length = 1 + i ∧ Pile (B + 3 + i) q)
      ⟨_, p3, none, rfl, nm_one hc, rfl, hp3.up (by omega)⟩ (fun i x ρ hx ⟨s, q, w, e, n1, n2, n3⟩ => by
        subst e
        have hi : i < 7 := by
          have := (List.getElem?_eq_some_iff.mp hx).1
          omega
        obtain ⟨t, q', t0, t1, hq', e5⟩ := take_ok (by omega) n3 36 (by omega) (by omega)
        obtain ⟨d, hd, e6⟩ := ix_str (z := abc ++ fig) (r := t) (by omega) t0 (by omega)
        have hd' : isSm d ∨ isFg d := by
          rw [app_cps] at hd
          rcases List.mem_append.mp hd with hd | hd
          · exact .inl ((mem_abc d).mp hd)
          · exact .inr ((mem_fig d).mp hd)
        refine ⟨_, _, rfl, ?_, s ++ ⟨#[d]⟩, q', some (.d x), rfl, nm_app n1 (by omega) hd', by rw [app_len, n2, one_len]; omega, hq'.up (by omega)⟩
        have ad : addD (.str s) (.str ⟨#[d]⟩) = some (.str (s ++ ⟨#[d]⟩)) := add_str (by rw [one_len]; omega)
        simp [e5, af, e6, ad] <;> simp [e5, af, e6, ad])
    refine ⟨s, q, f2, f4.up (by omega), ?_⟩
    simp [f__law_name, m__law_name, fnOf, e1, gtD, DL.intD, i1, e2, e3, eq_i, e4, hr]
    try simp at f1
    simp [f1, outsOf]
end SH
end
section
set_option maxRecDepth 100000
set_option maxHeartbeats 0
set_option exponentiation.threshold 3000
namespace SH
open PySem PySem.Spec PyProof.Rows L2 DL
/-! is_name -/
def okC (c : Nat) : Bool := decide (isSm c) || decide (isFg c)
def nmS (s : Str) : Bool := decide (s.length ≤ 8) && (match s.cps.toList with
  | [] => false
  | c :: _ => decide (isSm c)) && s.cps.toList.all okC
def nmB : D → Bool
  | .str s => nmS s
  | _ => false
/-- a text that sorts and compares -/
structure FitS (s : Str) : Prop where
  len : s.length ≤ 20
  ok : PyData.strOk s = true
def isStrB : D → Bool
  | .str _ => true
  | _ => false
def gCh : D → D
  | .str s => .bool (okC (s.cps.toList.headD 0))
  | _ => .none
def pCh : D → Bool
  | .str s => !okC (s.cps.toList.headD 0)
  | _ => false
def FitM : D → Prop
  | .str s => FitS s
  | .dict kvs => cells kvs = none
  | _ => True
theorem strIn_one (c : Nat) (z : Str) : strIn ⟨#[c]⟩ z = decide (c ∈ z.cps.toList) := rfl
theorem in_abc (c : Nat) : inD (.str ⟨#[c]⟩) (.str abc) = some (.bool (decide (isSm c))) := by
  have : strIn ⟨#[c]⟩ abc = decide (isSm c) := by rw [strIn_one]; exact decide_eq_decide.mpr (mem_abc c)
  show some (PyData.bool (strIn ⟨#[c]⟩ abc)) = _
  rw [this]
theorem in_fig (c : Nat) : inD (.str ⟨#[c]⟩) (.str fig) = some (.bool (decide (isFg c))) := by
  have : strIn ⟨#[c]⟩ fig = decide (isFg c) := by rw [strIn_one]; exact decide_eq_decide.mpr (mem_fig c)
  show some (PyData.bool (strIn ⟨#[c]⟩ fig)) = _
  rw [this]
theorem nin_abc (c : Nat) : ninD (.str ⟨#[c]⟩) (.str abc) = some (.bool (!decide (isSm c))) := by
  have : strIn ⟨#[c]⟩ abc = decide (isSm c) := by rw [strIn_one]; exact decide_eq_decide.mpr (mem_abc c)
  show some (PyData.bool (!strIn ⟨#[c]⟩ abc)) = _
  rw [this]
theorem mem_af (c : Nat) : decide (c ∈ (abc ++ fig).cps.toList) = okC c := by
  have h : c ∈ (abc ++ fig).cps.toList ↔ isSm c ∨ isFg c := by rw [app_cps, List.mem_append, mem_abc, mem_fig]
  unfold okC
  by_cases h1 : isSm c <;> by_cases h2 : isFg c <;> simp [h, h1, h2]
theorem nin_af (c : Nat) : ninD (.str ⟨#[c]⟩) (.str (abc ++ fig)) = some (.bool (!okC c)) := by
  show some (PyData.bool (!strIn ⟨#[c]⟩ (abc ++ fig))) = _
  rw [strIn_one, mem_af]
theorem add_af : addD (.str abc) (.str fig) = some (.str (abc ++ fig)) := add_str (by rw [abc_len, fig_len]; omega)
theorem ix_0 {s : Str} {c : Nat} {r : List Nat} (h : s.length ≤ sizeLine) (e : s.cps.toList = c :: r) : ixD (.str s) (.int 0) = some (.str ⟨#[c]⟩) := by
  have : atI s.cps.toList 0 = some c := by rw [e]; simp [atI, ixN]
  simp [ixD, h, this]
theorem isi_str (x : D) (h : FitM x) : isiD .str x = some (.bool (isStrB x)) := by
  cases x with
  | dict kvs =>
    have h : cells kvs = none := h
    simp [isiD, isT, h, isStrB]
  | _ => rfl
theorem bools_map (l : List Nat) : boolsD ((l.map fun c => PyData.str ⟨#[c]⟩).map gCh) = some (l.map okC) := by
  induction l with
  | nil => rfl
  | cons c l ih =>
    simp only [List.map_cons]
    show (boolsD ((l.map fun c => PyData.str ⟨#[c]⟩).map gCh)).map (okC c :: ·) = _
    rw [ih]
    rfl
theorem is_called_ok (x : D) (h : FitM x) : f_is_called [.d x, .d (.str abc)] = .ok (.d (.bool (nmB x))) [some (.d x), some (.d (.str abc))] := by
  have isi := isi_str x h
  cases x with
  | str s =>
    have h : FitS s := h
    have big := size_big
    have hl : s.length ≤ sizeLine := by have := h.len; omega
    have len : lenD (.str s) = some (.int s.length) := if_pos hl
    by_cases e0 : s.cps.toList = []
    · have l0 : s.length = 0 := by rw [← str_len, e0]; rfl
      have : nmB (.str s) = false := by simp [nmB, nmS, e0]
      rw [this]
      simp [f_is_called, m_is_called, fnOf, isi, isStrB, len, l0, leD, outsOf]
    · obtain ⟨c, r, e⟩ := List.exists_cons_of_ne_nil e0
      have l1 : 1 ≤ s.length := by rw [← str_len, e]; simp
      have x0 := ix_0 hl e
      have l1i : (1 : Int) ≤ (s.length : Int) := by omega
      by_cases l8 : s.length ≤ 8
      · have l8i : (s.length : Int) ≤ 8 := by omega
        by_cases hc : isSm c
        · have it : itemsD (.str s) = some (charsD s) := if_pos hl
          have nm : nmB (.str s) = s.cps.toList.all okC := by simp [nmB, nmS, l8, e, hc]
          have lc := lcGo_pure (vs := [2]) (t := tName 2) (tst := mYes) (e := mOrV (mBin inD (mVar 2) (mVar 1)) (mBin inD (mVar 2) (mC (.str fig)))) (p := fun _ => true) (g := gCh) (ρ := [some (.d (.str s)), some (.d (.str abc)), none]) (xs := charsD s) fun x hx => by
              unfold charsD at hx
              obtain ⟨d, hd, rfl⟩ := List.mem_map.mp hx
              refine ⟨_, _, rfl, ⟨rfl, fun z => absurd z (by simp), fun _ => ⟨[some (.d (.str s)), some (.d (.str abc)), some (.d (.str ⟨#[d]⟩))], ?_, rfl⟩⟩⟩
              by_cases q1 : isSm d <;> simp [in_abc, in_fig, q1, okC, gCh]
          have fi : (charsD s).filter (fun _ => true) = charsD s := List.filter_eq_self.mpr fun _ _ => rfl
          rw [fi] at lc
          have bl := bools_map s.cps.toList
          have al : allD (.list ((charsD s).map gCh)) = some (.bool (s.cps.toList.all okC)) := by
            simp only [allD, charsD, bl]
            simp
          rw [nm]
          simp [f_is_called, m_is_called, fnOf, isi, isStrB, len, l1i, l8i, leD, x0, nin_abc, hc, it, dataAt, lc, al, backE, outsOf]
        · have nm : nmB (.str s) = false := by simp [nmB, nmS, e, hc]
          rw [nm]
          simp [f_is_called, m_is_called, fnOf, isi, isStrB, len, l1i, l8i, leD, x0, nin_abc, hc, outsOf]
      · have nm : nmB (.str s) = false := by simp [nmB, nmS, l8]
        have l8i : ¬ (s.length : Int) ≤ 8 := by omega
        rw [nm]
        simp [f_is_called, m_is_called, fnOf, isi, isStrB, len, l1i, l8i, leD, outsOf]
  | _ => simp [f_is_called, m_is_called, fnOf, isi, isStrB, isStrB, nmB, outsOf]
theorem is_name_ok (x : D) (h : FitM x) : f_is_name [.d x] = .ok (.d (.bool (nmB x))) [some (.d x)] := by
  simp [f_is_name, m_is_name, fnOf, is_called_ok x h, outsOf]
/-! lists that compare -/
theorem canAll {xs : List D} (h : ∀ x ∈ xs, x.canLay0 = true) : PyData.canLayAll0 xs = true := by
  induction xs with
  | nil => rfl
  | cons x xs ih => rw [PyData.canLayAll0, h x List.mem_cons_self, ih fun y hy => h y (List.mem_cons_of_mem _ hy)]; rfl
theorem depAll {n : Nat} {xs : List D} (h : ∀ x ∈ xs, x.depth ≤ n) : PyData.depthAll xs ≤ n := by
  induction xs with
  | nil => exact Nat.zero_le _
  | cons x xs ih => rw [PyData.depthAll]; exact Nat.max_le.mpr ⟨h x List.mem_cons_self, ih fun y hy => h y (List.mem_cons_of_mem _ hy)⟩
theorem shaped_list {xs : List D} (h : ∀ x ∈ xs, x.canLay0 = true ∧ x.depth ≤ 60) : SeqAt.shaped (.list xs) = true := by
  have d := depAll fun x hx => (h x hx).2
  have c := canAll fun x hx => (h x hx).1
  have e : (PyData.list xs).canLay0 = PyData.canLayAll0 xs := by rw [PyData.canLay0]
  have e2 : (PyData.list xs).depth = PyData.depthAll xs + 1 := by rw [PyData.depth]
  rw [SeqAt.shaped, e, e2, c, Bool.true_and, decide_eq_true_eq]
  omega
theorem shaped_strs {l : List Str} (h : ∀ s ∈ l, PyData.strOk s = true) : SeqAt.shaped (.list (l.map .str)) = true := shaped_list fun x hx => by
  obtain ⟨s, hs, rfl⟩ := List.mem_map.mp hx
  exact ⟨by rw [PyData.canLay0]; exact h s hs, by rw [PyData.depth]; omega⟩
theorem eqvAll_strs : ∀ a b : List Str, PyData.eqvAll (a.map .str) (b.map .str) = decide (a = b)
  | [], [] => rfl
  | [], _ :: _ => rfl
  | _ :: _, [] => rfl
  | x :: a, y :: b => by
    rw [List.map_cons, List.map_cons, PyData.eqvAll, PyData.eqv, eqvAll_strs a b]
    by_cases h : x = y <;> simp [h]
theorem eq_lists {a b : List D} (h1 : SeqAt.shaped (.list a) = true) (h2 : SeqAt.shaped (.list b) = true) : eqD (.list a) (.list b) = some (.bool (PyData.eqvAll a b)) := by
  have h : eqD (.list a) (.list b) = if SeqAt.shaped (.list a) = true ∧ SeqAt.shaped (.list b) = true then some (.bool (PyData.eqv (.list a) (.list b))) else none := rfl
  rw [h, if_pos ⟨h1, h2⟩, PyData.eqv]
theorem ne_lists {a b : List D} (h1 : SeqAt.shaped (.list a) = true) (h2 : SeqAt.shaped (.list b) = true) : neD (.list a) (.list b) = some (.bool (!PyData.eqvAll a b)) := by
  have h : neD (.list a) (.list b) = if SeqAt.shaped (.list a) = true ∧ SeqAt.shaped (.list b) = true then some (.bool (!PyData.eqv (.list a) (.list b))) else none := rfl
  rw [h, if_pos ⟨h1, h2⟩, PyData.eqv]
theorem eq_strs {a b : List Str} (ha : ∀ s ∈ a, PyData.strOk s = true) (hb : ∀ s ∈ b, PyData.strOk s = true) : eqD (.list (a.map .str)) (.list (b.map .str)) = some (.bool (decide (a = b))) := by
  rw [eq_lists (shaped_strs ha) (shaped_strs hb), eqvAll_strs]
theorem ne_strs {a b : List Str} (ha : ∀ s ∈ a, PyData.strOk s = true) (hb : ∀ s ∈ b, PyData.strOk s = true) : neD (.list (a.map .str)) (.list (b.map .str)) = some (.bool (!decide (a = b))) := by
  rw [ne_lists (shaped_strs ha) (shaped_strs hb), eqvAll_strs]
theorem eq_s (a b : Str) : eqD (.str a) (.str b) = some (.bool (decide (a = b))) := rfl
theorem ne_s (a b : Str) : neD (.str a) (.str b) = some (.bool (!decide (a = b))) := rfl
theorem sOk_iff {s : Str} : PyData.strOk s = true ↔ ∀ c ∈ s.cps.toList, c < 0x110000 := by
  unfold PyData.strOk
  rw [Array.all_eq_true_iff_forall_mem]
  simp
theorem NmS.fit {s : Str} (h : NmS s) : FitS s := ⟨by have := h.len; omega, sOk_iff.mpr fun c hc => by
  rcases h.all c hc with h | h
  · have := h.2; omega
  · have := h.2; omega⟩
theorem nmS_iff {s : Str} : nmS s = true ↔ NmS s := by
  unfold nmS
  constructor
  · intro h
    rw [Bool.and_eq_true, Bool.and_eq_true, decide_eq_true_eq] at h
    obtain ⟨⟨h1, h2⟩, h3⟩ := h
    refine ⟨h1, ?_, fun c hc => ?_⟩
    · cases e : s.cps.toList with
      | nil => rw [e] at h2; cases h2
      | cons c r => rw [e] at h2; exact ⟨c, r, rfl, of_decide_eq_true h2⟩
    · have := List.all_eq_true.mp h3 c hc
      simpa [okC] using this
  · intro h
    obtain ⟨c, r, e, hc⟩ := h.hd
    rw [Bool.and_eq_true, Bool.and_eq_true, decide_eq_true_eq]
    refine ⟨⟨h.len, by rw [e]; exact decide_eq_true hc⟩, List.all_eq_true.mpr fun c hc => ?_⟩
    have := h.all c hc
    simpa [okC] using this
theorem law_is_name_ok (x : D) (h : FitM x) : f__law_is_name [.d x] = .ok (.d (.bool (nmB x))) [some (.d x)] := by
  have isi := isi_str x h
  cases x with
  | str s =>
    have h : FitS s := h
    have big := size_big
    have hl : s.length ≤ sizeLine := by have := h.len; omega
    have len : lenD (.str s) = some (.int s.length) := if_pos hl
    by_cases e0 : s.cps.toList = []
    · have nm : nmB (.str s) = false := by simp [nmB, nmS, e0]
      have : s = "" := cps_inj e0
      rw [nm]
      clear nm e0 len hl h
      subst this
      simp [f__law_is_name, m__law_is_name, fnOf, isi, isStrB, eq_s, outsOf]
    · obtain ⟨c, r, e⟩ := List.exists_cons_of_ne_nil e0
      have ne : ¬ s = "" := fun q => e0 (by rw [q]; rfl)
      have x0 := ix_0 hl e
      by_cases l8 : s.length ≤ 8
      · have l9 : ¬ (8 : Int) < (s.length : Int) := by omega
        by_cases hc : isSm c
        · have it : itemsD (.str s) = some (charsD s) := if_pos hl
          have nm : nmB (.str s) = s.cps.toList.all okC := by simp [nmB, nmS, l8, e, hc]
          have lc := lcGo_pure (vs := [2]) (t := tName 2) (tst := mB (mBin ninD (mVar 2) (mBin addD (mVar 1) (mC (.str fig))))) (e := mVar 2) (p := pCh) (g := id) (ρ := [some (.d (.str s)), some (.d (.str abc)), none]) (xs := charsD s) fun x hx => by
              unfold charsD at hx
              obtain ⟨d, hd, rfl⟩ := List.mem_map.mp hx
              refine ⟨_, [some (.d (.str s)), some (.d (.str abc)), some (.d (.str ⟨#[d]⟩))], rfl, ?_, fun _ => rfl, fun _ => ⟨_, rfl, rfl⟩⟩
              simp [add_af, nin_af, pCh]
          have fi : ∀ l : List Nat, (l.map fun c => PyData.str ⟨#[c]⟩).filter (pCh) = ((l.filter fun c => !okC c).map fun c => (⟨#[c]⟩ : Str)).map .str := fun l => by
            induction l with
            | nil => rfl
            | cons c l ih =>
              by_cases q : okC c = true
              · simp [List.filter_cons, pCh, q, ← ih]
              · simp [List.filter_cons, pCh, q, ← ih]
          rw [List.map_id, charsD, fi] at lc
          have ok := sOk_iff.mp h.ok
          have eq := eq_strs (a := (s.cps.toList.filter fun c => !okC c).map fun c => (⟨#[c]⟩ : Str)) (b := []) (fun z hz => by
            obtain ⟨d, hd, rfl⟩ := List.mem_map.mp hz
            refine sOk_iff.mpr fun c hc => ?_
            simp at hc
            subst hc
            exact ok _ (List.mem_filter.mp hd).1) (fun z hz => by cases hz)
          have de : decide ((s.cps.toList.filter fun c => !okC c).map (fun c => (⟨#[c]⟩ : Str)) = []) = s.cps.toList.all okC := by
            rw [Bool.eq_iff_iff, decide_eq_true_eq, List.map_eq_nil_iff, List.filter_eq_nil_iff, List.all_eq_true]
            simp
          rw [de] at eq
          have eq : eqD (.list (((s.cps.toList.filter fun c => !okC c).map fun c => (⟨#[c]⟩ : Str)).map .str)) (.list []) = _ := eq
          rw [nm]
          simp only [f__law_is_name, m__law_is_name, fnOf]
          simp [isi, isStrB, eq_s, ne, len, l9, gtD, x0, nin_abc, hc, it, dataAt, charsD]
          simp only [List.map_map] at lc eq
          simp [Function.comp_def] at lc eq ⊢
          simp [lc, eq, backE, outsOf]
        · have nm : nmB (.str s) = false := by simp [nmB, nmS, e, hc]
          rw [nm]
          simp [f__law_is_name, m__law_is_name, fnOf, isi, isStrB, eq_s, ne, len, l9, gtD, x0, nin_abc, hc, outsOf]
      · have nm : nmB (.str s) = false := by simp [nmB, nmS, l8]
        have l9 : (8 : Int) < (s.length : Int) := by omega
        rw [nm]
        simp [f__law_is_name, m__law_is_name, fnOf, isi, isStrB, eq_s, ne, len, l9, gtD, outsOf]
  | _ => simp [f__law_is_name, m__law_is_name, fnOf, isi, isStrB, nmB, outsOf]
end SH
end
section
set_option maxRecDepth 100000
set_option maxHeartbeats 0
set_option exponentiation.threshold 3000
namespace SH
open PySem PySem.Spec PyProof.Rows L2 DL
theorem while_inv {t : M Bool} {b : M Fl} (I : Nat → DL.Env → Prop) (Q : DL.Env → Prop) (hs : ∀ k ρ, I k ρ → (∃ ρ1, t ρ = .ok false ρ1 ∧ Q ρ1) ∨ (∃ ρ1 ρ2, t ρ = .ok true ρ1 ∧ b ρ1 = .ok .nx ρ2 ∧ ∃ k', k' < k ∧ I k' ρ2)) (k : Nat) (ρ : DL.Env) (h : I k ρ) : ∃ ρ', sWhile t b ρ = .ok .nx ρ' ∧ Q ρ' := by
  have key : ∀ (n k : Nat) (ρ : DL.Env), k < n → I k ρ → ∃ (m : Nat) (ρ' : DL.Env), whileGo t b m ρ = .ok .nx ρ' ∧ Q ρ' := by
    intro n
    induction n with
    | zero => intro k ρ h; omega
    | succ n ih =>
      intro k ρ hk hI
      rcases hs k ρ hI with ⟨ρ1, h1, h2⟩ | ⟨ρ1, ρ2, h1, h2, k', hk', h3⟩
      · refine ⟨1, ρ1, ?_, h2⟩
        show ((t ρ).bind _) = _
        rw [h1]
        rfl
      · obtain ⟨m, ρ', h4, h5⟩ := ih k' ρ2 (by omega) h3
        refine ⟨m + 1, ρ', ?_, h5⟩
        have e : whileGo t b (m + 1) ρ = ((t ρ).bind fun x ρ1 => if x = true then (b ρ1).bind fun f ρ2 => match f with
          | .nx => whileGo t b m ρ2
          | .ct => whileGo t b m ρ2
          | .bk => .ok .nx ρ2
          | .rt o => .ok (.rt o) ρ2
          else .ok .nx ρ1) := rfl
        rw [e, h1]
        simp [h2, h4]
  obtain ⟨m, ρ', h1, h2⟩ := key (k + 1) k ρ (Nat.lt_succ_self _) h
  have hn : whileGo t b m ρ ≠ .bad := by rw [h1]; intro z; cases z
  exact ⟨ρ', by rw [sWhile_eq hn, h1], h2⟩
theorem nodup_le {α : Type} [DecidableEq α] : ∀ {a b : List α}, a.Nodup → (∀ x ∈ a, x ∈ b) → a.length ≤ b.length
  | [], b, _, _ => Nat.zero_le _
  | x :: a, b, h, s => by
    have hx := s x List.mem_cons_self
    obtain ⟨h1, h2⟩ := List.nodup_cons.mp h
    have := nodup_le (a := a) (b := b.erase x) h2 fun y hy => by
      have hy' := s y (List.mem_cons_of_mem _ hy)
      have : y ≠ x := fun e => h1 (e ▸ hy)
      exact (List.mem_erase_of_ne this).mpr hy'
    rw [List.length_erase_of_mem hx] at this
    have hb := List.length_pos_of_mem hx
    rw [List.length_cons]
    omega
theorem allStr_map (l : List Str) : allStr (l.map .str) = some l := by
  induction l with
  | nil => rfl
  | cons x l ih => rw [List.map_cons, allStr, ih]; rfl
theorem in_strs (s : Str) (l : List Str) : inD (.str s) (.list (l.map .str)) = some (.bool (decide (s ∈ l))) := by
  show ((memD (.str s) (l.map .str)).map PyData.bool) = _
  unfold memD
  rw [allStr_map]
  rfl
theorem nin_strs (s : Str) (l : List Str) : ninD (.str s) (.list (l.map .str)) = some (.bool (!decide (s ∈ l))) := by
  show ((memD (.str s) (l.map .str)).map fun b => PyData.bool (!b)) = _
  unfold memD
  rw [allStr_map]
  rfl
def eight : List Str := ["a", "b", "c", "d", "e", "f", "g", "h"]
theorem eight_nd : eight.Nodup := by decide +kernel
theorem eight_nm : ∀ s ∈ eight, NmS s := fun s h => nmS_iff.mp (List.all_eq_true.mp (show eight.all nmS = true by decide +kernel) s h)
def freeP (l : List Str) : D → Bool
  | .str s => !decide (s ∈ l)
  | _ => false
theorem filter_free (l : List Str) : ∀ a : List Str, (a.map PyData.str).filter (freeP l) = (a.filter fun s => !decide (s ∈ l)).map .str
  | [] => rfl
  | x :: a => by
    by_cases h : x ∈ l
    · simp [List.filter_cons, freeP, h, ← filter_free l a]
    · simp [List.filter_cons, freeP, h, ← filter_free l a]
theorem names_ok {B : Nat} (hB : B < 2 ^ 48) {p : List D} (h : Pile B p) (m : Nat) (hm : m ≤ 8) : ∃ (l : List Str) (p' : List D), l.length = m ∧ l.Nodup ∧ (∀ s ∈ l, NmS s) ∧ Pile (B + 20 * m) p' ∧ f__law_names [.lst p, .d (.int m)] = .ok (.lst (l.map .str)) [some (.lst p'), some (.d (.int m))] := by
  have big := size_big
  have hr : range1 (.int (m : Int)) = some (rangeL 0 m) := by
    show (if _ then _ else _) = _
    rw [if_pos ⟨by rw [Int.toNat_natCast]; omega, by omega⟩, Int.toNat_natCast]
  have hlen : (rangeL 0 m).length = m := by unfold rangeL; simp
  obtain ⟨ρ', f1, l, q, w3, w4, rfl, f2, f3, f4, f5⟩ := forGo_inv (t := tName 3) (b := (sSeq (sSet 4 (mFrz (mCall f__law_name (gO 0 gNil))))
 (sSeq (mIf (mB (mBin inD (mVar 4) (mLook 2))) (sSet 4 (mBin ixD (mLstF (mLc [5] (mItems (mLstF (mCons (mC (.str "a")) (mCons (mC (.str "b")) (mCons (mC (.str "c")) (mCons (mC (.str "d")) (mCons (mC (.str "e")) (mCons (mC (.str "f")) (mCons (mC (.str "g")) (mCons (mC (.str "h")) mNil)))))))))) (tName 5) (mB (mBin ninD (mVar 5) (mLook 2))) (mVar 5))) (mC (.int 0)))) sNil)
 (sDrop (mD (mLM 2 appendD (mCons (mVar 4) mNil)))))))
    (xs := rangeL 0 m) (ρ := [some (.lst p), some (.d (.int m)), some (.lst []), none, none, none])
    (fun i ρ => ∃ (l : List Str), ∃ q w3 w4, ρ = [some (.lst q), some (.d (.int m)), some (.lst (l.map .str)), w3, w4, none] ∧ l.length = i ∧ l.Nodup ∧ (∀ s ∈ l, NmS s) ∧ Pile (B + 20 * i) q)
    ⟨[], p, none, none, rfl, rfl, .nil, fun _ z => (by cases z), h⟩ (fun i x ρ hx ⟨l, q, w3, w4, e, n1, n2, n3, n4⟩ => by
      subst e
      have hi : i < m := by
        have := (List.getElem?_eq_some_iff.mp hx).1
        omega
      obtain ⟨s, q', ns, hq', e5⟩ := name_ok (by omega) n4
      have app : ∀ z : Str, appendD (l.map .str) [.str z] = some ((l ++ [z]).map .str, .none) := fun z => by
        show (if _ then _ else _) = _
        rw [if_pos (by rw [List.length_map]; omega)]
        simp
      by_cases hs : s ∈ l
      · have fr : (eight.filter fun s => !decide (s ∈ l)) ≠ [] := fun z => by
          have := nodup_le eight_nd (b := l) fun x hx => by
            have := List.filter_eq_nil_iff.mp z x hx
            simpa using this
          have e8 : eight.length = 8 := rfl
          omega
        obtain ⟨z, zs, hz⟩ := List.exists_cons_of_ne_nil fr
        have hz' : z ∈ eight ∧ z ∉ l := by
          have := List.mem_filter.mp (show z ∈ (eight.filter fun s => !decide (s ∈ l)) by rw [hz]; exact List.mem_cons_self)
          simpa using this
        have lc := lcGo_pure (vs := [5]) (t := tName 5) (tst := mB (mBin ninD (mVar 5) (mLook 2))) (e := mVar 5) (p := freeP l) (g := id) (ρ := [some (.lst q'), some (.d (.int m)), some (.lst (l.map .str)), some (.d x), some (.d (.str s)), none]) (xs := eight.map .str) fun x hx => by
          obtain ⟨d, hd, rfl⟩ := List.mem_map.mp hx
          refine ⟨_, [some (.lst q'), some (.d (.int m)), some (.lst (l.map .str)), some (.d x), some (.d (.str s)), some (.d (.str d))], rfl, ?_, fun _ => rfl, fun _ => ⟨_, rfl, rfl⟩⟩
          simp [nin_strs, freeP]
        rw [List.map_id, filter_free, hz] at lc
        have lc : lcGo [5] (tName 5) (mB (mBin ninD (mVar 5) (mLook 2))) (mVar 5) [.str "a", .str "b", .str "c", .str "d", .str "e", .str "f", .str "g", .str "h"] [some (.lst q'), some (.d (.int m)), some (.lst (l.map .str)), some (.d x), some (.d (.str s)), none] = .ok (.str z :: zs.map .str) [some (.lst q'), some (.d (.int m)), some (.lst (l.map .str)), some (.d x), some (.d (.str s)), none] := lc
        have ix : ixD (.list (.str z :: zs.map .str)) (.int 0) = some (.str z) := by simp [ixD, atI, ixN]
        refine ⟨_, _, rfl, ?_, l ++ [z], q', some (.d x), some (.d (.str z)), rfl, by rw [List.length_append, n1]; rfl, ?_, ?_, hq'.up (by omega)⟩
        · simp [e5, in_strs, hs]
          simp [itemsD, dataAt, lc, backE, ix, app]
        · exact List.nodup_append.mpr ⟨n2, by simp, fun a ha b hb => by simp at hb; subst hb; exact fun e => hz'.2 (e ▸ ha)⟩
        · intro y hy
          rcases List.mem_append.mp hy with hy | hy
          · exact n3 y hy
          · simp at hy; subst hy; exact eight_nm _ hz'.1
      · refine ⟨_, _, rfl, ?_, l ++ [s], q', some (.d x), some (.d (.str s)), rfl, by rw [List.length_append, n1]; rfl, ?_, ?_, hq'.up (by omega)⟩
        · simp [e5, in_strs, hs]
          simp [app]
        · exact List.nodup_append.mpr ⟨n2, by simp, fun a ha b hb => by simp at hb; subst hb; exact fun e => hs (e ▸ ha)⟩
        · intro y hy
          rcases List.mem_append.mp hy with hy | hy
          · exact n3 y hy
          · simp at hy; subst hy; exact ns)
  refine ⟨l, q, by rw [f2, hlen], f3, f4, f5.up (by omega), ?_⟩
  simp [f__law_names, m__law_names, fnOf, hr]
  try simp at f1
  simp [f1, outsOf]
/-! _law_order -/
theorem cut_perm {α : Type} : ∀ (l : List α) (i : Nat) (h : i < l.length), (l[i] :: l.eraseIdx i).Perm l
  | x :: l, 0, h => .refl _
  | x :: l, i + 1, h => (List.Perm.swap _ _ _).trans ((cut_perm l i (by simpa using h)).cons x)
def Lay (x : D) : Prop := x.canLay0 = true ∧ x.depth ≤ 60
theorem order_ok {B : Nat} (hB : B < 2 ^ 48) {p : List D} (h : Pile B p) (xs : List D) (hx : xs.length ≤ 20) (hl : ∀ x ∈ xs, Lay x) : ∃ (ys : List D) (p' : List D), ys.Perm xs ∧ Pile (B + xs.length) p' ∧ f__law_order [.lst p, .d (.list xs)] = .ok (.lst ys) [some (.lst p'), some (.d (.list xs))] := by
  have big := size_big
  obtain ⟨ρ', f1, q, ys, rfl, f2, f3⟩ := while_inv (t := (mB (mBin neD (mLook 2) (mLstF mNil)))) (b := (sDrop (mD (mLM 3 appendD (mCons (mLM 2 popD (mCons (mFrz (mCall f__law_take (gO 0 (gD (mF1 lenD (mLook 2)) gNil)))) mNil)) mNil)))))
    (fun k ρ => ∃ q left found, ρ = [some (.lst q), some (.d (.list xs)), some (.lst left), some (.lst found)] ∧ left.length = k ∧ (found ++ left).Perm xs ∧ Pile (B + found.length) q)
    (fun ρ => ∃ q ys, ρ = [some (.lst q), some (.d (.list xs)), some (.lst []), some (.lst ys)] ∧ ys.Perm xs ∧ Pile (B + xs.length) q)
    (fun k ρ ⟨q, left, found, e, n1, n2, n3⟩ => by
      subst e
      have sub : ∀ x ∈ left, Lay x := fun x hx => hl x (n2.mem_iff.mp (List.mem_append_right _ hx))
      have ne : neD (.list left) (.list []) = some (.bool (!PyData.eqvAll left [])) := ne_lists (shaped_list sub) (shaped_list fun _ z => by cases z)
      have len := n2.length_eq
      rw [List.length_append] at len
      cases left with
      | nil =>
        refine .inl ⟨_, ?_, q, found, rfl, by simpa using n2, n3.up (by simp at len; omega)⟩
        simp [ne]
        rfl
      | cons y l =>
        right
        rw [List.length_cons] at len n1
        obtain ⟨r, q', r0, r1, hq', e5⟩ := take_ok (by omega) n3 ((y :: l).length : Nat) (by rw [List.length_cons]; omega) (by rw [List.length_cons]; omega)
        rw [List.length_cons] at r1
        have hr : r.toNat < (y :: l).length := by rw [List.length_cons]; omega
        have sq : seqIndex? r (y :: l).length = some r.toNat := by
          unfold seqIndex?
          have : ¬ r < 0 := by omega
          simp only [this, if_false]
          rw [List.length_cons]
          simp [r0, r1]
          try omega
        have pp : popD (y :: l) [.int r] = some ((y :: l).eraseIdx r.toNat, (y :: l)[r.toNat]) := by
          have hb : -(2 ^ 63) ≤ r ∧ r < 2 ^ 63 := by omega
          have g : (y :: l)[r.toNat]? = some (y :: l)[r.toNat] := List.getElem?_eq_getElem hr
          simp only [popD, hb, if_pos, sq, Option.bind_some, g, Option.map_some, and_self, if_true]
        have ap : appendD found [(y :: l)[r.toNat]] = some (found ++ [(y :: l)[r.toNat]], .none) := if_pos (by omega)
        generalize hz : (y :: l)[r.toNat] = z at pp ap
        generalize hw : (y :: l).eraseIdx r.toNat = w at pp
        have le : w.length = l.length := by rw [← hw, List.length_eraseIdx_of_lt hr, List.length_cons]; omega
        have pm : (z :: w).Perm (y :: l) := by
          rw [← hz, ← hw]
          exact cut_perm _ _ hr
        refine ⟨[some (.lst q), some (.d (.list xs)), some (.lst (y :: l)), some (.lst found)], [some (.lst q'), some (.d (.list xs)), some (.lst w), some (.lst (found ++ [z]))], ?_, ?_, l.length, by omega, q', w, found ++ [z], rfl, le, ?_, ?_⟩
        · simp [ne]
          rfl
        · have len2 : lenD (.list (y :: l)) = some (.int ((y :: l).length : Nat)) := rfl
          simp only [sDrop_d, mD_d, mLM_d, mCons_d, mFrz_d, mCall_d, gO_d, gD_d, mF1_d, mLook_d, gNil_d, mNil_d]
          simp [len2] at e5 ⊢
          simp [e5, pp, ap]
        · rw [List.append_assoc]
          exact (List.Perm.append_left found pm).trans n2
        · rw [List.length_append]
          exact hq'.up (by simp; omega))
    xs.length [some (.lst p), some (.d (.list xs)), some (.lst xs), some (.lst [])] ⟨p, xs, [], rfl, rfl, .refl _, h⟩
  refine ⟨ys, q, f2, f3, ?_⟩
  simp [f__law_order, m__law_order, fnOf, listD]
  try simp at f1
  simp [f1, outsOf]
end SH
end
section
set_option maxRecDepth 100000
set_option maxHeartbeats 0
set_option exponentiation.threshold 3000
namespace SH
open PySem PySem.Spec PyProof.Rows L2 DL
/-! is_turn -/
def FitP : D → Prop
  | .tuple xs => xs.length ≤ 3 ∧ ∀ x ∈ xs, FitM x
  | .dict kvs => cells kvs = none
  | _ => True
def Fit : D → Prop
  | .tuple xs => xs.length ≤ 20 ∧ ∀ x ∈ xs, FitP x
  | .dict kvs => cells kvs = none
  | _ => True
def isTupB : D → Bool
  | .tuple _ => true
  | _ => false
theorem isi_tup (x : D) (h : ∀ kvs, x = .dict kvs → cells kvs = none) : isiD .tup x = some (.bool (isTupB x)) := by
  cases x with
  | dict kvs => simp [isiD, isT, h kvs rfl, isTupB]
  | _ => rfl
theorem FitP.no {x : D} (h : FitP x) : ∀ kvs, x = .dict kvs → cells kvs = none := fun kvs e => by subst e; exact h
theorem Fit.no {x : D} (h : Fit x) : ∀ kvs, x = .dict kvs → cells kvs = none := fun kvs e => by subst e; exact h
def pairB : D → Bool
  | .tuple xs => decide (xs.length = 2)
  | _ => false
def neB : D → D → Bool
  | .str a, .str b => !decide (a = b)
  | _, _ => false
def okP : D → Bool
  | .tuple [a, b] => nmB a && nmB b && neB a b
  | _ => false
def keyD : D → D
  | .tuple (a :: _) => a
  | _ => .none
def toD : D → D
  | .tuple [_, b] => b
  | _ => .none
def keyS (x : D) : Str := match keyD x with
  | .str a => a
  | _ => ""
def toS (x : D) : Str := match toD x with
  | .str a => a
  | _ => ""
def turnB : D → Bool
  | .tuple xs => xs.all okP && (decide (xs.map keyS = sortS (onceS (xs.map keyS))) && decide (sortS (xs.map toS) = xs.map keyS))
  | _ => false
theorem nmB_str {a : D} (h : nmB a = true) : ∃ s, a = .str s ∧ NmS s := by
  cases a with
  | str s => exact ⟨s, rfl, nmS_iff.mp h⟩
  | _ => cases h
theorem okP_iff {x : D} (h : okP x = true) : ∃ a b, x = .tuple [.str a, .str b] ∧ NmS a ∧ NmS b ∧ a ≠ b := by
  unfold okP at h
  split at h
  · rename_i a b
    rw [Bool.and_eq_true, Bool.and_eq_true] at h
    obtain ⟨⟨h1, h2⟩, h3⟩ := h
    obtain ⟨s, rfl, hs⟩ := nmB_str h1
    obtain ⟨t, rfl, ht⟩ := nmB_str h2
    refine ⟨s, t, rfl, hs, ht, fun e => ?_⟩
    simp [neB, e] at h3
  · cases h
theorem keys_eq {xs : List D} (h : xs.all okP = true) : xs.map keyD = (xs.map keyS).map .str := by
  rw [List.map_map]
  refine List.map_congr_left fun x hx => ?_
  obtain ⟨a, b, rfl, _⟩ := okP_iff (List.all_eq_true.mp h x hx)
  rfl
theorem tos_eq {xs : List D} (h : xs.all okP = true) : xs.map toD = (xs.map toS).map .str := by
  rw [List.map_map]
  refine List.map_congr_left fun x hx => ?_
  obtain ⟨a, b, rfl, _⟩ := okP_iff (List.all_eq_true.mp h x hx)
  rfl
theorem keys_nm {xs : List D} (h : xs.all okP = true) : ∀ s ∈ xs.map keyS, NmS s := fun s hs => by
  obtain ⟨x, hx, rfl⟩ := List.mem_map.mp hs
  obtain ⟨a, b, rfl, h1, _⟩ := okP_iff (List.all_eq_true.mp h x hx)
  exact h1
theorem tos_nm {xs : List D} (h : xs.all okP = true) : ∀ s ∈ xs.map toS, NmS s := fun s hs => by
  obtain ⟨x, hx, rfl⟩ := List.mem_map.mp hs
  obtain ⟨a, b, rfl, _, h1, _⟩ := okP_iff (List.all_eq_true.mp h x hx)
  exact h1
theorem bools_q (q : D → Bool) : ∀ xs : List D, boolsD (xs.map fun x => .bool (q x)) = some (xs.map q)
  | [] => rfl
  | x :: xs => by
    show (boolsD (xs.map fun x => .bool (q x))).map (q x :: ·) = _
    rw [bools_q q xs]
    rfl
theorem all_q (q : D → Bool) (xs : List D) : allD (.list (xs.map fun x => .bool (q x))) = some (.bool (xs.all q)) := by
  simp only [allD, bools_q]
  simp [Function.comp_def]
theorem filt_all (xs : List D) : xs.filter (fun _ => true) = xs := List.filter_eq_self.mpr fun _ _ => rfl
theorem sort_strs (l : List Str) : sortL (l.map .str) = (sortS l).map .str := by
  unfold sortL sortS
  refine (PySem.W.sort_maps PyData.str fun a ha b hb => ?_).symm
  have e := congrFun (congrFun (PySem.W.dataLe_str (β := Str) id) a) b
  exact e.symm
theorem sortOk_strs {l : List Str} (h : ∀ s ∈ l, NmS s) : sortOk (l.map .str) = true := by
  unfold sortOk
  rw [shaped_strs fun s hs => (h s hs).fit.ok, Bool.and_true, Bool.and_eq_true, Bool.or_eq_true]
  refine ⟨?_, .inr ?_⟩
  · simp [PySem.W.alike]
  · simp
theorem sortO_strs {l : List Str} (h : ∀ s ∈ l, NmS s) : sortO (.list (l.map .str)) = some ((sortS l).map .str) := by
  show (if _ then _ else _) = _
  rw [if_pos (sortOk_strs h), sort_strs]
theorem sortS_perm (l : List Str) : (sortS l).Perm l := List.mergeSort_perm _ _
theorem texts_strs {l : List Str} (h : l.length ≤ 1000) : textsD (.list (l.map .str)) = some l := by
  show ((allStr (l.map .str)).bind _) = _
  rw [allStr_map]
  show (if _ then _ else _) = _
  rw [if_pos]
  show _ < 4096
  omega
theorem nmOk {l : List Str} (h : ∀ s ∈ l, NmS s) : ∀ s ∈ l, PyData.strOk s = true := fun s hs => (h s hs).fit.ok
theorem is_turn_ok (x : D) (h : Fit x) : f_is_turn [.d x] = .ok (.d (.bool (turnB x))) [some (.d x)] := by
  have isi := isi_tup x h.no
  cases x with
  | tuple xs =>
    obtain ⟨hl, hf⟩ : xs.length ≤ 20 ∧ ∀ x ∈ xs, FitP x := h
    have lc1 := lcGo_pure (vs := [1]) (t := tName 1) (tst := mYes) (e := (mAndV (mF1 (isiD .tup) (mVar 1)) (mBin eqD (mF1 lenD (mVar 1)) (mC (.int 2))))) (p := fun _ => true) (g := fun x => .bool (pairB x)) (ρ := [some (.d (.tuple xs)), none, none, none, none]) (xs := xs) fun x hx => by
      refine ⟨_, _, rfl, rfl, fun z => (by cases z), fun _ => ⟨[some (.d (.tuple xs)), some (.d x), none, none, none], ?_, rfl⟩⟩
      have is := isi_tup x (hf x hx).no
      cases x with
      | tuple ys =>
        simp [is, isTupB, pairB, lenD, eq_i]
        try omega
      | _ => simp [is, isTupB, pairB]
    rw [filt_all] at lc1
    by_cases h1 : xs.all pairB = true
    · have lc2 := lcGo_pure (vs := [2, 3]) (t := (tTup 2 (tsCons (tName 2) (tsCons (tName 3) tsNil)))) (tst := mYes) (e := (mAndV (mFrz (mCall f_is_name (gD (mVar 2) gNil))) (mAndV (mFrz (mCall f_is_name (gD (mVar 3) gNil))) (mBin neD (mVar 2) (mVar 3))))) (p := fun _ => true) (g := fun x => .bool (okP x)) (ρ := [some (.d (.tuple xs)), none, none, none, none]) (xs := xs) fun x hx => by
        have hp := List.all_eq_true.mp h1 x hx
        have hfx := hf x hx
        match x, hp, hfx with
        | .tuple [a, b], _, hfx =>
          refine ⟨[some (.d (.tuple xs)), none, some (.d a), some (.d b), none], _, by simp, rfl, fun z => (by cases z), fun _ => ⟨[some (.d (.tuple xs)), none, some (.d a), some (.d b), none], ?_, rfl⟩⟩
          have na := is_name_ok a (hfx.2 a (by simp))
          have nb := is_name_ok b (hfx.2 b (by simp))
          cases ha : nmB a with
          | false => simp [na, ha, okP]
          | true =>
            cases hb : nmB b with
            | false => simp [na, nb, ha, hb, okP]
            | true =>
              obtain ⟨s, rfl, hs⟩ := nmB_str ha
              obtain ⟨t, rfl, ht⟩ := nmB_str hb
              simp [na, nb, ha, hb, okP, ne_s, neB]
      rw [filt_all] at lc2
      by_cases h2 : xs.all okP = true
      · have lc3 : ∀ w, lcGo [2, 3] (tTup 2 (tsCons (tName 2) (tsCons (tName 3) tsNil))) mYes (mVar 2) xs [some (.d (.tuple xs)), none, none, none, w] = .ok ((xs.map keyS).map .str) [some (.d (.tuple xs)), none, none, none, w] := fun w => by
          have z := lcGo_pure (vs := [2, 3]) (t := (tTup 2 (tsCons (tName 2) (tsCons (tName 3) tsNil)))) (tst := mYes) (e := mVar 2) (p := fun _ => true) (g := keyD) (ρ := [some (.d (.tuple xs)), none, none, none, w]) (xs := xs) fun x hx => by
            obtain ⟨a, b, rfl, _⟩ := okP_iff (List.all_eq_true.mp h2 x hx)
            exact ⟨[some (.d (.tuple xs)), none, some (.d (.str a)), some (.d (.str b)), w], _, by simp, rfl, fun z => (by cases z), fun _ => ⟨[some (.d (.tuple xs)), none, some (.d (.str a)), some (.d (.str b)), w], rfl, rfl⟩⟩
          rw [filt_all, keys_eq h2] at z
          exact z
        have lc4 : ∀ w, lcGo [2, 3] (tTup 2 (tsCons (tName 2) (tsCons (tName 3) tsNil))) mYes (mVar 3) xs [some (.d (.tuple xs)), none, none, none, w] = .ok ((xs.map toS).map .str) [some (.d (.tuple xs)), none, none, none, w] := fun w => by
          have z := lcGo_pure (vs := [2, 3]) (t := (tTup 2 (tsCons (tName 2) (tsCons (tName 3) tsNil)))) (tst := mYes) (e := mVar 3) (p := fun _ => true) (g := toD) (ρ := [some (.d (.tuple xs)), none, none, none, w]) (xs := xs) fun x hx => by
            obtain ⟨a, b, rfl, _⟩ := okP_iff (List.all_eq_true.mp h2 x hx)
            exact ⟨[some (.d (.tuple xs)), none, some (.d (.str a)), some (.d (.str b)), w], _, by simp, rfl, fun z => (by cases z), fun _ => ⟨[some (.d (.tuple xs)), none, some (.d (.str a)), some (.d (.str b)), w], rfl, rfl⟩⟩
          rw [filt_all, tos_eq h2] at z
          exact z
        have tx := texts_strs (l := xs.map keyS) (by rw [List.length_map]; omega)
        have so := sortO_strs (tos_nm h2)
        have kn := keys_nm h2
        have e1 := eq_strs (a := xs.map keyS) (b := sortS (onceS (xs.map keyS))) (nmOk kn) (nmOk fun s hs => kn s (once_mem.mp ((sortS_perm _).mem_iff.mp hs)))
        have e2 := eq_strs (a := sortS (xs.map toS)) (b := xs.map keyS) (nmOk fun s hs => tos_nm h2 s ((sortS_perm _).mem_iff.mp hs)) (nmOk kn)
        have tb : turnB (.tuple xs) = (decide (xs.map keyS = sortS (onceS (xs.map keyS))) && decide (sortS (xs.map toS) = xs.map keyS)) := by simp only [turnB, h2, Bool.true_and]
        rw [tb]
        generalize hks : xs.map keyS = ks at lc3 tx e1 e2 ⊢
        generalize hts : xs.map toS = tz at lc4 so e2 ⊢
        have a1 := all_q pairB xs
        have a2 := all_q okP xs
        rw [h1] at a1
        rw [h2] at a2
        simp only [f_is_turn, m_is_turn, fnOf]
        simp [isi, isTupB, itemsD, dataAt, lc1, a1, backE]
        simp [lc2, a2, backE]
        simp [lc3, backE]
        cases hd : decide (ks = sortS (onceS ks)) with
        | false =>
          rw [hd] at e1
          simp [tx, e1, outsOf]
        | true =>
          rw [hd] at e1
          simp [tx, e1, dataAt, lc4, backE, so, e2, outsOf]
      · have h2 : xs.all okP = false := by simpa using h2
        have tb : turnB (.tuple xs) = false := by simp only [turnB, h2, Bool.false_and]
        have a1 := all_q pairB xs
        have a2 := all_q okP xs
        rw [h1] at a1
        rw [h2] at a2
        rw [tb]
        simp only [f_is_turn, m_is_turn, fnOf]
        simp [isi, isTupB, itemsD, dataAt, lc1, a1, backE]
        simp [lc2, a2, backE, outsOf]
    · have h2 : xs.all okP = false := by
        cases q : xs.all okP with
        | false => rfl
        | true =>
          exact absurd (List.all_eq_true.mpr fun x hx => by
            obtain ⟨a, b, rfl, _⟩ := okP_iff (List.all_eq_true.mp q x hx)
            rfl) h1
      have h1 : xs.all pairB = false := by simpa using h1
      have tb : turnB (.tuple xs) = false := by simp only [turnB, h2, Bool.false_and]
      have a1 := all_q pairB xs
      rw [h1] at a1
      rw [tb]
      simp only [f_is_turn, m_is_turn, fnOf]
      simp [isi, isTupB, itemsD, dataAt, lc1, a1, backE, outsOf]
  | _ => simp [f_is_turn, m_is_turn, fnOf, isi, isTupB, turnB, outsOf]
end SH
end
section
set_option maxRecDepth 100000
set_option maxHeartbeats 0
set_option exponentiation.threshold 3000
namespace SH
open PySem PySem.Spec PyProof.Rows L2 DL
theorem forGo_test {t : D → DL.Env → Option DL.Env} {b : M Fl} {q : D → Bool} {r : OV} (Pv : DL.Env → Prop) : ∀ {xs : List D} {ρ : DL.Env}, Pv ρ → (∀ x ∈ xs, ∀ ρ, Pv ρ → ∃ ρ1 ρ2, t x ρ = some ρ1 ∧ b ρ1 = .ok (if q x = true then .nx else .rt r) ρ2 ∧ Pv ρ2) → ∃ ρ', forGo t b xs ρ = .ok (if xs.all q = true then .nx else .rt r) ρ' ∧ Pv ρ'
  | [], ρ, h, _ => ⟨ρ, rfl, h⟩
  | x :: xs, ρ, h, hs => by
    obtain ⟨ρ1, ρ2, h1, h2, h3⟩ := hs x List.mem_cons_self ρ h
    rw [forGo_cons, h1, List.all_cons]
    cases hq : q x with
    | false =>
      rw [hq] at h2
      exact ⟨ρ2, by simp only [h2]; rfl, h3⟩
    | true =>
      rw [hq] at h2
      obtain ⟨ρ', h4, h5⟩ := forGo_test Pv (xs := xs) h3 fun y hy => hs y (List.mem_cons_of_mem _ hy)
      exact ⟨ρ', by simp only [h2, Bool.true_and]; exact h4, h5⟩
theorem law_is_turn_ok (x : D) (h : Fit x) : f__law_is_turn [.d x] = .ok (.d (.bool (turnB x))) [some (.d x)] := by
  have isi := isi_tup x h.no
  cases x with
  | tuple xs =>
    obtain ⟨hl, hf⟩ : xs.length ≤ 20 ∧ ∀ x ∈ xs, FitP x := h
    obtain ⟨ρ', f1, f2⟩ := forGo_test (t := tName 1) (b := (sSeq (mIf (mOr (mNot (mB (mF1 (isiD .tup) (mVar 1)))) (mB (mBin neD (mF1 lenD (mVar 1)) (mC (.int 2))))) (sRet (mD (mC (.bool false)))) sNil)
 (mIf (mOr (mNot (mB (mFrz (mCall f__law_is_name (gD (mBin ixD (mVar 1) (mC (.int 0))) gNil))))) (mOr (mNot (mB (mFrz (mCall f__law_is_name (gD (mBin ixD (mVar 1) (mC (.int 1))) gNil))))) (mB (mBin eqD (mBin ixD (mVar 1) (mC (.int 0))) (mBin ixD (mVar 1) (mC (.int 1))))))) (sRet (mD (mC (.bool false)))) sNil))) (q := okP) (r := .d (.bool false)) (xs := xs) (ρ := [some (.d (.tuple xs)), none, none])
      (fun ρ => ρ = [some (.d (.tuple xs)), none, none] ∨ ∃ y, ρ = [some (.d (.tuple xs)), some (.d y), none]) (.inl rfl) (fun x hx ρ hρ => by
        have st : tName 1 x ρ = some [some (.d (.tuple xs)), some (.d x), none] := by
          rcases hρ with rfl | ⟨y, rfl⟩ <;> rfl
        refine ⟨_, [some (.d (.tuple xs)), some (.d x), none], st, ?_, .inr ⟨x, rfl⟩⟩
        have is := isi_tup x (hf x hx).no
        have hfx := hf x hx
        cases x with
        | tuple ys =>
          match ys, is, hfx with
          | [a, b], is, hfx =>
            have na := law_is_name_ok a (hfx.2 a (by simp))
            have nb := law_is_name_ok b (hfx.2 b (by simp))
            have i0 : ixD (.tuple [a, b]) (.int 0) = some a := rfl
            have i1 : ixD (.tuple [a, b]) (.int 1) = some b := rfl
            have len : lenD (.tuple [a, b]) = some (.int 2) := rfl
            cases ha : nmB a with
            | false => simp [is, isTupB, len, ne_i, i0, na, ha, okP]
            | true =>
              cases hb : nmB b with
              | false => simp [is, isTupB, len, ne_i, i0, i1, na, nb, ha, hb, okP]
              | true =>
                obtain ⟨s, rfl, hs⟩ := nmB_str ha
                obtain ⟨t, rfl, ht⟩ := nmB_str hb
                by_cases e : s = t
                · subst e
                  simp [is, isTupB, len, ne_i, i0, i1, na, nb, ha, hb, okP, eq_s, neB]
                · simp [is, isTupB, len, ne_i, i0, i1, na, nb, ha, hb, okP, eq_s, neB, e]
          | [], is, _ => simp [is, isTupB, lenD, ne_i, okP]
          | [a], is, _ => simp [is, isTupB, lenD, ne_i, okP]
          | a :: b :: c :: ys, is, _ =>
            have : ¬ (ys.length : Int) + 1 + 1 + 1 = 2 := by omega
            simp [is, isTupB, lenD, ne_i, okP, this]
        | _ => simp [is, isTupB, okP])
    by_cases h2 : xs.all okP = true
    · rw [if_pos h2] at f1
      have lc3 : ∀ w, lcGo [1] (tName 1) mYes (mBin ixD (mVar 1) (mC (.int 0))) xs [some (.d (.tuple xs)), none, w] = .ok ((xs.map keyS).map .str) [some (.d (.tuple xs)), none, w] := fun w => by
        have z := lcGo_pure (vs := [1]) (t := tName 1) (tst := mYes) (e := (mBin ixD (mVar 1) (mC (.int 0)))) (p := fun _ => true) (g := keyD) (ρ := [some (.d (.tuple xs)), none, w]) (xs := xs) fun x hx => by
          obtain ⟨a, b, rfl, _⟩ := okP_iff (List.all_eq_true.mp h2 x hx)
          exact ⟨_, [some (.d (.tuple xs)), some (.d (.tuple [.str a, .str b])), w], rfl, rfl, fun z => (by cases z), fun _ => ⟨_, rfl, rfl⟩⟩
        rw [filt_all, keys_eq h2] at z
        exact z
      have lc4 : ∀ w, lcGo [1] (tName 1) mYes (mBin ixD (mVar 1) (mC (.int 1))) xs [some (.d (.tuple xs)), none, w] = .ok ((xs.map toS).map .str) [some (.d (.tuple xs)), none, w] := fun w => by
        have z := lcGo_pure (vs := [1]) (t := tName 1) (tst := mYes) (e := (mBin ixD (mVar 1) (mC (.int 1)))) (p := fun _ => true) (g := toD) (ρ := [some (.d (.tuple xs)), none, w]) (xs := xs) fun x hx => by
          obtain ⟨a, b, rfl, _⟩ := okP_iff (List.all_eq_true.mp h2 x hx)
          exact ⟨_, [some (.d (.tuple xs)), some (.d (.tuple [.str a, .str b])), w], rfl, rfl, fun z => (by cases z), fun _ => ⟨_, rfl, rfl⟩⟩
        rw [filt_all, tos_eq h2] at z
        exact z
      have tx := texts_strs (l := xs.map keyS) (by rw [List.length_map]; omega)
      have so := sortO_strs (tos_nm h2)
      have kn := keys_nm h2
      have e1 := eq_strs (a := xs.map keyS) (b := sortS (onceS (xs.map keyS))) (nmOk kn) (nmOk fun s hs => kn s (once_mem.mp ((sortS_perm _).mem_iff.mp hs)))
      have e2 := eq_strs (a := sortS (xs.map toS)) (b := xs.map keyS) (nmOk fun s hs => tos_nm h2 s ((sortS_perm _).mem_iff.mp hs)) (nmOk kn)
      have tb : turnB (.tuple xs) = (decide (xs.map keyS = sortS (onceS (xs.map keyS))) && decide (sortS (xs.map toS) = xs.map keyS)) := by simp only [turnB, h2, Bool.true_and]
      rw [tb]
      generalize hks : xs.map keyS = ks at lc3 tx e1 e2 ⊢
      generalize hts : xs.map toS = tz at lc4 so e2 ⊢
      simp only [f__law_is_turn, m__law_is_turn, fnOf]
      try simp at f1
      rcases f2 with rfl | ⟨y, rfl⟩
      all_goals
        simp [isi, isTupB, itemsD, f1]
        simp [dataAt, lc3, backE]
        cases hd : decide (ks = sortS (onceS ks)) with
        | false =>
          rw [hd] at e1
          simp [tx, e1, outsOf]
        | true =>
          rw [hd] at e1
          simp [tx, e1, dataAt, lc4, backE, so, e2, outsOf]
    · rw [if_neg h2] at f1
      have h2 : xs.all okP = false := by simpa using h2
      have tb : turnB (.tuple xs) = false := by simp only [turnB, h2, Bool.false_and]
      rw [tb]
      simp only [f__law_is_turn, m__law_is_turn, fnOf]
      try simp at f1
      simp [isi, isTupB, itemsD, f1, outsOf]
  | _ => simp [f__law_is_turn, m__law_is_turn, fnOf, isi, isTupB, turnB, outsOf]
end SH
end
section
set_option maxRecDepth 100000
set_option maxHeartbeats 0
set_option exponentiation.threshold 3000
namespace SH
open PySem PySem.Spec PyProof.Rows L2 DL
def Nms (xs : List D) : Prop := ∀ x ∈ xs, ∃ s, x = .str s ∧ NmS s
def PrD (x : D) : Prop := ∃ a b, x = .tuple [.str a, .str b] ∧ NmS a ∧ NmS b
structure Prs (n : Nat) (xs : List D) : Prop where
  len : xs.length ≤ n
  all : ∀ x ∈ xs, PrD x
theorem NmS.lay {s : Str} (h : NmS s) : Lay (.str s) := ⟨by rw [PyData.canLay0]; exact h.fit.ok, by rw [PyData.depth]; omega⟩
theorem PrD.lay {x : D} (h : PrD x) : Lay x := by
  obtain ⟨a, b, rfl, ha, hb⟩ := h
  refine ⟨?_, ?_⟩
  · rw [PyData.canLay0]
    refine canAll fun x hx => ?_
    simp at hx
    rcases hx with rfl | rfl
    · exact ha.lay.1
    · exact hb.lay.1
  · have := depAll (n := 0) (xs := [.str a, .str b]) fun x hx => by
      simp at hx
      rcases hx with rfl | rfl <;> (rw [PyData.depth]; exact Nat.le_refl _)
    rw [PyData.depth]
    omega
theorem sortOk_prs {xs : List D} (h : ∀ x ∈ xs, PrD x) : sortOk xs = true := by
  unfold sortOk
  rw [shaped_list fun x hx => (h x hx).lay, Bool.and_true, Bool.and_eq_true, Bool.or_eq_true]
  refine ⟨?_, .inl ?_⟩
  · refine List.all_eq_true.mpr fun x hx => List.all_eq_true.mpr fun y hy => ?_
    obtain ⟨a, b, rfl, _⟩ := h x hx
    obtain ⟨c, d, rfl, _⟩ := h y hy
    simp [PySem.W.alike, PySem.W.alikeAll]
  · refine List.all_eq_true.mpr fun x hx => ?_
    obtain ⟨a, b, rfl, _⟩ := h x hx
    rfl
theorem sort_prs {n : Nat} {xs : List D} (h : Prs n xs) : ∃ ys, sortO (.list xs) = some ys ∧ Prs n ys ∧ ys.Perm xs := by
  have p : (sortL xs).Perm xs := List.mergeSort_perm _ _
  exact ⟨sortL xs, if_pos (sortOk_prs h.all), ⟨by rw [p.length_eq]; exact h.len, fun x hx => h.all x (p.mem_iff.mp hx)⟩, p⟩
/-! _law_turn -/
def neP : D → Bool
  | .tuple [.str a, .str b] => !decide (a = b)
  | _ => false
theorem turn_tail {q names others : List D} {k w4 w5 w6 : Option OV} (hn : Nms names) (ho : Nms others) (hl : names.length ≤ 6) : ∃ ps, Prs 6 ps ∧ (sRet (mD (mF1 tupD (mLstF (mFN sortO (mLstF (mLc [7, 8] (mZip (mVar 1) (mFrzV 3)) (tTup 2 (tsCons (tName 7) (tsCons (tName 8) tsNil))) (mB (mBin neD (mVar 7) (mVar 8))) (mTup (mCons (mVar 7) (mCons (mVar 8) mNil))))))))))
    [some (.lst q), some (.d (.list names)), k, some (.lst others), w4, w5, w6, none, none] = .ok (.rt (.d (.tuple ps))) [some (.lst q), some (.d (.list names)), k, some (.d (.list others)), w4, w5, w6, none, none] := by
  have zp : ∀ x ∈ (names.zip others).map (fun p => PyData.tuple [p.1, p.2]), PrD x := fun x hx => by
    obtain ⟨⟨a, b⟩, hp, rfl⟩ := List.mem_map.mp hx
    obtain ⟨h1, h2⟩ := List.of_mem_zip hp
    obtain ⟨s, e1, hs⟩ := hn a h1
    obtain ⟨t, e2, ht⟩ := ho b h2
    subst e1 e2
    exact ⟨s, t, rfl, hs, ht⟩
  have hz : ((names.zip others).map (fun p => PyData.tuple [p.1, p.2])).length ≤ 6 := by
    rw [List.length_map, List.length_zip]
    omega
  have zd : zipD (.list names) (.list others) = some ((names.zip others).map (fun p => PyData.tuple [p.1, p.2])) := rfl
  generalize (names.zip others).map (fun p => PyData.tuple [p.1, p.2]) = xs at zp hz zd
  have lc := lcGo_pure (vs := [7, 8]) (t := (tTup 2 (tsCons (tName 7) (tsCons (tName 8) tsNil)))) (tst := (mB (mBin neD (mVar 7) (mVar 8)))) (e := (mTup (mCons (mVar 7) (mCons (mVar 8) mNil)))) (p := neP) (g := id) (ρ := [some (.lst q), some (.d (.list names)), k, some (.d (.list others)), w4, w5, w6, none, none]) (xs := xs) fun x hx => by
    obtain ⟨a, b, rfl, _⟩ := zp x hx
    refine ⟨[some (.lst q), some (.d (.list names)), k, some (.d (.list others)), w4, w5, w6, some (.d (.str a)), some (.d (.str b))], [some (.lst q), some (.d (.list names)), k, some (.d (.list others)), w4, w5, w6, some (.d (.str a)), some (.d (.str b))], by simp, ?_, fun _ => rfl, fun _ => ⟨_, rfl, rfl⟩⟩
    simp [ne_s, neP]
  rw [List.map_id] at lc
  have fp : Prs 6 (xs.filter neP) := ⟨Nat.le_trans (List.length_filter_le _ _) hz, fun x hx => zp x (List.mem_filter.mp hx).1⟩
  obtain ⟨ys, h1, h2, h3⟩ := sort_prs fp
  refine ⟨ys, h2, ?_⟩
  simp [zd, dataAt, lc, backE, h1, tupD]
theorem mem_ix {xs : List D} {i : Int} (h0 : 0 ≤ i) (h1 : i < xs.length) : ∃ x, ixD (.list xs) (.int i) = some x ∧ x ∈ xs := by
  obtain ⟨x, e1, e2⟩ := atI_nat h0 h1
  exact ⟨x, e1, List.mem_of_getElem? e2⟩
theorem turn_ok {B : Nat} (hB : B < 2 ^ 47) {p : List D} (h : Pile B p) (xs : List D) (hn : Nms xs) (h1 : 1 ≤ xs.length) (h6 : xs.length ≤ 6) : ∃ (ps : List D) (p' : List D), Prs 6 ps ∧ Pile (B + 10) p' ∧ f__law_turn [.lst p, .d (.list xs)] = .ok (.d (.tuple ps)) [some (.lst p'), some (.d (.list xs))] := by
  obtain ⟨kd, p1, q0, q1, hp1, e1⟩ := take_ok (by omega) h 3 (by omega) (by omega)
  have len : lenD (.list xs) = some (.int (xs.length : Nat)) := rfl
  have ls : listD (.list xs) = some xs := rfl
  have : kd = 0 ∨ kd = 1 ∨ kd = 2 := by omega
  rcases this with rfl | rfl | rfl
  · obtain ⟨ps, hps, et⟩ := turn_tail (q := p1) (k := some (.d (.int 0))) (w4 := none) (w5 := none) (w6 := none) hn hn h6
    refine ⟨ps, p1, hps, hp1.up (by omega), ?_⟩
    simp only [f__law_turn, m__law_turn, fnOf]
    simp only [sSeq_d]
    simp [e1, eq_i, ls, -sRet_d]
    rw [et]
    simp [outsOf]
  · obtain ⟨i, p2, i0, i1, hp2, e2⟩ := take_ok (by omega) hp1 (xs.length : Nat) (by omega) (by omega)
    obtain ⟨j, p3, j0, j1, hp3, e3⟩ := take_ok (by omega) hp2 (xs.length : Nat) (by omega) (by omega)
    obtain ⟨x, x1, hx⟩ := mem_ix i0 i1
    obtain ⟨y, y1, hy⟩ := mem_ix j0 j1
    have ni : ixN xs.length i = some i.toNat := by
      unfold ixN
      rw [if_pos i0, if_pos i1]
    have nj : ixN xs.length j = some j.toNat := by
      unfold ixN
      rw [if_pos j0, if_pos j1]
    have ho : Nms ((xs.set i.toNat y).set j.toNat x) := fun z hz => by
      rcases List.mem_or_eq_of_mem_set hz with hz | rfl
      · rcases List.mem_or_eq_of_mem_set hz with hz | rfl
        · exact hn z hz
        · exact hn _ hy
      · exact hn _ hx
    obtain ⟨ps, hps, et⟩ := turn_tail (q := p3) (k := some (.d (.int 1))) (w4 := some (.d (.int i))) (w5 := some (.d (.int j))) (w6 := some (.d x)) hn ho h6
    refine ⟨ps, p3, hps, hp3.up (by omega), ?_⟩
    simp only [f__law_turn, m__law_turn, fnOf]
    simp only [sSeq_d]
    simp [e1, eq_i, ls, len, e2, e3, x1, y1, ni, nj, -sRet_d]
    rw [et]
    simp [outsOf]
  · obtain ⟨ys, p2, pm, hp2, e2⟩ := order_ok (by omega) hp1 xs (by omega) fun x hx => by
      obtain ⟨s, rfl, hs⟩ := hn x hx
      exact hs.lay
    have ho : Nms ys := fun z hz => hn z (pm.mem_iff.mp hz)
    obtain ⟨ps, hps, et⟩ := turn_tail (q := p2) (k := some (.d (.int 2))) (w4 := none) (w5 := none) (w6 := none) hn ho h6
    refine ⟨ps, p2, hps, hp2.up (by omega), ?_⟩
    simp only [f__law_turn, m__law_turn, fnOf]
    simp only [sSeq_d]
    simp [e1, eq_i, ls, e2, -sRet_d]
    rw [et]
    simp [outsOf]
end SH
end
section
set_option maxRecDepth 100000
set_option maxHeartbeats 0
set_option exponentiation.threshold 3000
namespace SH
open PySem PySem.Spec PyProof.Rows L2 DL
structure FitA (x : D) : Prop where
  m : FitM x
  p : FitP x
  t : Fit x
theorem fitS_of {s : Str} (h : (decide (s.length ≤ 20) && PyData.strOk s) = true) : FitS s := by
  rw [Bool.and_eq_true, decide_eq_true_eq] at h
  exact ⟨h.1, h.2⟩
theorem fitA_str {s : Str} (h : (decide (s.length ≤ 20) && PyData.strOk s) = true) : FitA (.str s) := ⟨fitS_of h, trivial, trivial⟩
def words : List Str := ["", "Ab", "1a", "abcdefghi", "a_b", "a b", "aB", "-", "a,b", "X_1", repS "a" 12]
def others : List D := [.none, .bool true, .int 0, .int 7, .tuple [.str "a"], .list [.str "a"], .dict [(.str "a", .str "b")], .tuple []]
theorem words_fit : ∀ s ∈ words, FitA (.str s) := fun s h => fitA_str (List.all_eq_true.mp (show words.all (fun s => decide (s.length ≤ 20) && PyData.strOk s) = true by decide +kernel) s h)
theorem others_fit : ∀ x ∈ others, FitA x := fun x h => by
  have fa : FitA (.str "a") := fitA_str (by decide +kernel)
  simp only [others, List.mem_cons, List.not_mem_nil, or_false] at h
  rcases h with rfl | rfl | rfl | rfl | rfl | rfl | rfl | rfl
  · exact ⟨trivial, trivial, trivial⟩
  · exact ⟨trivial, trivial, trivial⟩
  · exact ⟨trivial, trivial, trivial⟩
  · exact ⟨trivial, trivial, trivial⟩
  · exact ⟨trivial, ⟨by simp, fun y hy => by simp at hy; subst hy; exact fa.m⟩, ⟨by simp, fun y hy => by simp at hy; subst hy; exact fa.p⟩⟩
  · exact ⟨trivial, trivial, trivial⟩
  · exact ⟨rfl, rfl, rfl⟩
  · exact ⟨trivial, ⟨by simp, fun y hy => by cases hy⟩, ⟨by simp, fun y hy => by cases hy⟩⟩
theorem add_l {a b : List D} (h : a.length + b.length ≤ 1000) : addD (.list a) (.list b) = some (.list (a ++ b)) := if_pos (by have := size_big; omega)
theorem mul_s {z : Str} {n : Int} (h : 1 < n ∧ n < 2 ^ 20 ∧ 0 < z.length ∧ z.length * n.toNat ≤ 4096) : mulD (.str z) (.int n) = some (.str (repS z n.toNat)) := if_pos h
theorem strange_in {B : Nat} (hB : B < 2 ^ 47) {p : List D} (h : Pile B p) : ∃ (x : D) (p' : List D), x ∈ words.map PyData.str ++ others ∧ Pile (B + 1) p' ∧ f__law_strange [.lst p] = .ok (.d x) [some (.lst p')] := by
  have big := size_big
  obtain ⟨r, p1, q0, q1, hp1, e1⟩ := take_ok (by omega) h 19 (by omega) (by omega)
  have hlen : (words.map PyData.str ++ others).length = 19 := rfl
  have aa : addD (.list (words.map .str)) (.list others) = some (.list (words.map .str ++ others)) := add_l (by
    rw [← List.length_append, hlen]; omega)
  have mu : mulD (.str "a") (.int 12) = some (.str (repS "a" 12)) := mul_s (z := "a") (n := 12) ⟨by decide, by decide, by decide +kernel, by decide +kernel⟩
  obtain ⟨x, x1, x2⟩ := mem_ix (xs := words.map .str ++ others) (i := r) q0 (by rw [hlen]; exact q1)
  refine ⟨x, p1, x2, hp1, ?_⟩
  · have md : ∀ ρ, mDict (mConsP (mC (.str "a")) (mC (.str "b")) mNilP) ρ = .ok (.dict [(.str "a", .str "b")]) ρ := fun ρ => rfl
    have wl : words.map PyData.str = [.str "", .str "Ab", .str "1a", .str "abcdefghi", .str "a_b", .str "a b", .str "aB", .str "-", .str "a,b", .str "X_1", .str (repS "a" 12)] := rfl
    have ol : others = [.none, .bool true, .int 0, .int 7, .tuple [.str "a"], .list [.str "a"], .dict [(.str "a", .str "b")], .tuple []] := rfl
    generalize words.map PyData.str ++ others = al at aa x1
    rw [wl, ol] at aa
    generalize repS "a" 12 = tw at mu aa
    simp only [f__law_strange, m__law_strange, fnOf]
    simp [mu, md, -mul_i]
    simp [aa, e1, x1, outsOf]
theorem strange_fit {x : D} (h : x ∈ words.map PyData.str ++ others) : FitA x := by
  rcases List.mem_append.mp h with x2 | x2
  · obtain ⟨s, hs, rfl⟩ := List.mem_map.mp x2
    exact words_fit s hs
  · exact others_fit x x2
theorem strange_ok {B : Nat} (hB : B < 2 ^ 47) {p : List D} (h : Pile B p) : ∃ (x : D) (p' : List D), FitA x ∧ Pile (B + 1) p' ∧ f__law_strange [.lst p] = .ok (.d x) [some (.lst p')] := by
  obtain ⟨x, p', h1, h2, h3⟩ := strange_in hB h
  exact ⟨x, p', strange_fit h1, h2, h3⟩
theorem strange_no {x : D} (h : x ∈ words.map PyData.str ++ others) : nmB x = false := by
  have := List.all_eq_true.mp (show (words.map PyData.str ++ others).all (fun x => !nmB x) = true by decide +kernel) x h
  simpa using this
/-! _law_bent -/
theorem Prs.fit {n : Nat} {xs : List D} (h : Prs n xs) : ∀ x ∈ xs, FitP x := fun x hx => by
  obtain ⟨a, b, rfl, ha, hb⟩ := h.all x hx
  refine ⟨by simp, fun y hy => ?_⟩
  simp at hy
  rcases hy with rfl | rfl
  · exact ha.fit
  · exact hb.fit
end SH
end
section
set_option maxRecDepth 100000
set_option maxHeartbeats 0
set_option exponentiation.threshold 3000
namespace SH
open PySem PySem.Spec PyProof.Rows L2 DL
theorem cut_mem {xs : List D} {lo hi : Option Int} {x : D} (h : x ∈ cutD xs lo hi) : x ∈ xs := List.mem_of_mem_drop (List.mem_of_mem_take h)
theorem cut_len {xs : List D} {lo hi : Option Int} : (cutD xs lo hi).length ≤ xs.length := by
  unfold DL.cutD
  rw [List.length_take, List.length_drop]
  omega
def lstG : D → D
  | .tuple xs => .list xs
  | x => x
def oneG (s : Str) : D → D
  | .tuple [a, _] => .tuple [a, .str s]
  | x => x
def swpG : D → D
  | .tuple [a, b] => .tuple [b, a]
  | x => x
theorem fn_ok {n np : Nat} {fx : List Nat} {m : M Fl} {os : List OV} {o : OV} {ρ' outs : DL.Env} (hl : os.length = np) (h : m (os.map some ++ List.replicate (n - np) none) = .ok (.rt o) ρ') (ho : outsOf fx ρ' 0 os = outs) : fnOf n np fx m os = .ok o outs := by
  unfold fnOf
  rw [if_pos hl, h]
  subst ho
  rfl
theorem seq_nx {a b : M Fl} {ρ ρ1 : DL.Env} (h : a ρ = .ok .nx ρ1) : sSeq a b ρ = b ρ1 := by rw [sSeq_d, h]; rfl
theorem if_no {kd k : Int} {body rest : M Fl} {ρ : DL.Env} (h : ¬ kd = k) (h3 : ρ[3]? = some (some (.d (.int kd)))) : sSeq (mIf (mB (mBin eqD (mVar 3) (mC (.int k)))) body sNil) rest ρ = rest ρ := by
  simp [h3, eq_i, h]
theorem if_yes {kd : Int} {body rest : M Fl} {ρ : DL.Env} (h3 : ρ[3]? = some (some (.d (.int kd)))) : sSeq (mIf (mB (mBin eqD (mVar 3) (mC (.int kd)))) body sNil) rest ρ = sSeq body rest ρ := by
  have e : mIf (mB (mBin eqD (mVar 3) (mC (.int kd)))) body sNil ρ = body ρ := by simp [h3, eq_i]
  rw [sSeq_d, sSeq_d, e]
theorem bent_ok {B : Nat} (hB : B < 2 ^ 46) {p : List D} (h : Pile B p) (ps : List D) (hp : Prs 6 ps) (ns : List D) (hn : Nms ns) (h1 : 1 ≤ ns.length) (h6 : ns.length ≤ 6) : ∃ (x : D) (p' : List D), Fit x ∧ Pile (B + 40) p' ∧ f__law_bent [.lst p, .d (.tuple ps), .d (.list ns)] = .ok (.d x) [some (.lst p'), some (.d (.tuple ps)), some (.d (.list ns))] := by
  have pl := hp.len
  obtain ⟨kd, p1, k0, k1, hp1, e1⟩ := take_ok (by omega) h 14 (by omega) (by omega)
  obtain ⟨a, p2, a0, a1, hp2, e2⟩ := take_ok (by omega) hp1 ((ps.length : Int) + 1) (by omega) (by omega)
  obtain ⟨i, p3, i0, i1, hp3, e3⟩ := take_ok (by omega) hp2 (ns.length : Nat) (by omega) (by omega)
  obtain ⟨nm, x1, x2⟩ := mem_ix i0 i1
  obtain ⟨s, rfl, hs⟩ := hn nm x2
  have lp : listD (.tuple ps) = some ps := rfl
  have ln : lenD (.list ps) = some (.int (ps.length : Nat)) := rfl
  have ln2 : lenD (.list ns) = some (.int (ns.length : Nat)) := rfl
  have it : itemsD (.list ps) = some ps := rfl
  have fps := hp.fit
  have nn : PrD (.tuple [.str s, .str s]) := ⟨s, s, rfl, hs, hs⟩
  have sla : slD (.list ps) none (some a) = some (.list (cutD ps none (some a))) := rfl
  have slb : slD (.list ps) (some (a + 1)) none = some (.list (cutD ps (some (a + 1)) none)) := rfl
  have slc : slD (.list ps) (some a) (some (a + 1)) = some (.list (cutD ps (some a) (some (a + 1)))) := rfl
  have sld : slD (.list ps) (some a) none = some (.list (cutD ps (some a) none)) := rfl
  have mid : ∀ y, FitP y → ∃ zs : List D, addD (.list (cutD ps none (some a))) (.list [y]) = some (.list (cutD ps none (some a) ++ [y])) ∧ addD (.list (cutD ps none (some a) ++ [y])) (.list (cutD ps (some a) none)) = some (.list zs) ∧ Fit (.tuple zs) := fun y hy => by
    have l1 := cut_len (xs := ps) (lo := none) (hi := some a)
    have l2 := cut_len (xs := ps) (lo := some a) (hi := none)
    refine ⟨cutD ps none (some a) ++ [y] ++ cutD ps (some a) none, add_l (by simp; omega), add_l (by simp; omega), by simp; omega, fun z hz => ?_⟩
    rcases List.mem_append.mp hz with hz | hz
    · rcases List.mem_append.mp hz with hz | hz
      · exact fps z (cut_mem hz)
      · simp at hz; subst hz; exact hy
    · exact fps z (cut_mem hz)
  have : kd = 0 ∨ kd = 1 ∨ kd = 2 ∨ kd = 3 ∨ kd = 4 ∨ kd = 5 ∨ kd = 6 ∨ kd = 7 ∨ kd = 8 ∨ kd = 9 ∨ kd = 10 ∨ kd = 11 ∨ kd = 12 ∨ kd = 13 := by omega
  rcases this with rfl | rfl | rfl | rfl | rfl | rfl | rfl | rfl | rfl | rfl | rfl | rfl | rfl | rfl
  · refine ⟨.tuple ps, p3, ⟨by omega, fps⟩, hp3.up (by omega), ?_⟩
    refine fn_ok (ρ' := [some (.lst p3), some (.d (.tuple ps)), some (.d (.list ns)), some (.d (.int 0)), some (.d (.list ps)), some (.d (.int a)), some (.d (.str s)), none, none, none]) rfl ?_ rfl
    unfold m__law_bent
    rw [seq_nx (ρ1 := [some (.lst p1), some (.d (.tuple ps)), some (.d (.list ns)), some (.d (.int 0)), none, none, none, none, none, none]) (by simp [e1])]
    rw [seq_nx (ρ1 := [some (.lst p1), some (.d (.tuple ps)), some (.d (.list ns)), some (.d (.int 0)), some (.d (.list ps)), none, none, none, none, none]) (by simp [lp])]
    rw [seq_nx (ρ1 := [some (.lst p2), some (.d (.tuple ps)), some (.d (.list ns)), some (.d (.int 0)), some (.d (.list ps)), some (.d (.int a)), none, none, none, none]) (by simp [ln, e2])]
    rw [seq_nx (ρ1 := [some (.lst p3), some (.d (.tuple ps)), some (.d (.list ns)), some (.d (.int 0)), some (.d (.list ps)), some (.d (.int a)), some (.d (.str s)), none, none, none]) (by simp [ln2, e3, x1])]
    rw [if_no (kd := 0) (by decide) rfl]
    rw [if_no (kd := 0) (by decide) rfl]
    rw [if_no (kd := 0) (by decide) rfl]
    rw [if_no (kd := 0) (by decide) rfl]
    rw [if_no (kd := 0) (by decide) rfl]
    rw [if_no (kd := 0) (by decide) rfl]
    rw [if_no (kd := 0) (by decide) rfl]
    rw [if_no (kd := 0) (by decide) rfl]
    rw [if_no (kd := 0) (by decide) rfl]
    rw [if_no (kd := 0) (by decide) rfl]
    rw [if_no (kd := 0) (by decide) rfl]
    rw [if_no (kd := 0) (by decide) rfl]
    simp
  · refine ⟨.list ps, p3, trivial, hp3.up (by omega), ?_⟩
    refine fn_ok (ρ' := [some (.lst p3), some (.d (.tuple ps)), some (.d (.list ns)), some (.d (.int 1)), some (.d (.list ps)), some (.d (.int a)), some (.d (.str s)), none, none, none]) rfl ?_ rfl
    unfold m__law_bent
    rw [seq_nx (ρ1 := [some (.lst p1), some (.d (.tuple ps)), some (.d (.list ns)), some (.d (.int 1)), none, none, none, none, none, none]) (by simp [e1])]
    rw [seq_nx (ρ1 := [some (.lst p1), some (.d (.tuple ps)), some (.d (.list ns)), some (.d (.int 1)), some (.d (.list ps)), none, none, none, none, none]) (by simp [lp])]
    rw [seq_nx (ρ1 := [some (.lst p2), some (.d (.tuple ps)), some (.d (.list ns)), some (.d (.int 1)), some (.d (.list ps)), some (.d (.int a)), none, none, none, none]) (by simp [ln, e2])]
    rw [seq_nx (ρ1 := [some (.lst p3), some (.d (.tuple ps)), some (.d (.list ns)), some (.d (.int 1)), some (.d (.list ps)), some (.d (.int a)), some (.d (.str s)), none, none, none]) (by simp [ln2, e3, x1])]
    rw [if_yes (kd := 1) rfl]
    simp
  · have lc := lcGo_pure (vs := [7]) (t := tName 7) (tst := mYes) (e := (mLstF (mFN listD (mVar 7)))) (p := fun _ => true) (g := lstG) (ρ := [some (.lst p3), some (.d (.tuple ps)), some (.d (.list ns)), some (.d (.int 2)), some (.d (.list ps)), some (.d (.int a)), some (.d (.str s)), none, none, none]) (xs := ps) fun x hx => by
      obtain ⟨b, c, rfl, _⟩ := hp.all x hx
      exact ⟨_, [some (.lst p3), some (.d (.tuple ps)), some (.d (.list ns)), some (.d (.int 2)), some (.d (.list ps)), some (.d (.int a)), some (.d (.str s)), some (.d (.tuple [.str b, .str c])), none, none], rfl, rfl, fun z => (by cases z), fun _ => ⟨_, rfl, rfl⟩⟩
    rw [filt_all] at lc
    refine ⟨.tuple (ps.map lstG), p3, ⟨by rw [List.length_map]; omega, fun z hz => ?_⟩, hp3.up (by omega), ?_⟩
    · obtain ⟨y, hy, rfl⟩ := List.mem_map.mp hz
      obtain ⟨b, c, rfl, _⟩ := hp.all y hy
      trivial
    · refine fn_ok (ρ' := [some (.lst p3), some (.d (.tuple ps)), some (.d (.list ns)), some (.d (.int 2)), some (.d (.list ps)), some (.d (.int a)), some (.d (.str s)), none, none, none]) rfl ?_ rfl
      unfold m__law_bent
      rw [seq_nx (ρ1 := [some (.lst p1), some (.d (.tuple ps)), some (.d (.list ns)), some (.d (.int 2)), none, none, none, none, none, none]) (by simp [e1])]
      rw [seq_nx (ρ1 := [some (.lst p1), some (.d (.tuple ps)), some (.d (.list ns)), some (.d (.int 2)), some (.d (.list ps)), none, none, none, none, none]) (by simp [lp])]
      rw [seq_nx (ρ1 := [some (.lst p2), some (.d (.tuple ps)), some (.d (.list ns)), some (.d (.int 2)), some (.d (.list ps)), some (.d (.int a)), none, none, none, none]) (by simp [ln, e2])]
      rw [seq_nx (ρ1 := [some (.lst p3), some (.d (.tuple ps)), some (.d (.list ns)), some (.d (.int 2)), some (.d (.list ps)), some (.d (.int a)), some (.d (.str s)), none, none, none]) (by simp [ln2, e3, x1])]
      rw [if_no (kd := 2) (by decide) rfl]
      rw [if_yes (kd := 2) rfl]
      simp [it, dataAt, lc, backE, tupD]
  · obtain ⟨ys, p4, pm, hp4, e4⟩ := order_ok (by omega) hp3 ps (by omega) fun x hx => (hp.all x hx).lay
    refine ⟨.tuple ys, p4, ⟨by rw [pm.length_eq]; omega, fun z hz => fps z (pm.mem_iff.mp hz)⟩, hp4.up (by omega), ?_⟩
    refine fn_ok (ρ' := [some (.lst p4), some (.d (.tuple ps)), some (.d (.list ns)), some (.d (.int 3)), some (.d (.list ps)), some (.d (.int a)), some (.d (.str s)), none, none, none]) rfl ?_ rfl
    unfold m__law_bent
    rw [seq_nx (ρ1 := [some (.lst p1), some (.d (.tuple ps)), some (.d (.list ns)), some (.d (.int 3)), none, none, none, none, none, none]) (by simp [e1])]
    rw [seq_nx (ρ1 := [some (.lst p1), some (.d (.tuple ps)), some (.d (.list ns)), some (.d (.int 3)), some (.d (.list ps)), none, none, none, none, none]) (by simp [lp])]
    rw [seq_nx (ρ1 := [some (.lst p2), some (.d (.tuple ps)), some (.d (.list ns)), some (.d (.int 3)), some (.d (.list ps)), some (.d (.int a)), none, none, none, none]) (by simp [ln, e2])]
    rw [seq_nx (ρ1 := [some (.lst p3), some (.d (.tuple ps)), some (.d (.list ns)), some (.d (.int 3)), some (.d (.list ps)), some (.d (.int a)), some (.d (.str s)), none, none, none]) (by simp [ln2, e3, x1])]
    rw [if_no (kd := 3) (by decide) rfl]
    rw [if_no (kd := 3) (by decide) rfl]
    rw [if_yes (kd := 3) rfl]
    simp [e4, tupD]
  · have l1 := cut_len (xs := ps) (lo := none) (hi := some a)
    have l2 := cut_len (xs := ps) (lo := some (a + 1)) (hi := none)
    have ad := add_l (a := cutD ps none (some a)) (b := cutD ps (some (a + 1)) none) (by omega)
    refine ⟨.tuple (cutD ps none (some a) ++ cutD ps (some (a + 1)) none), p3, ⟨by rw [List.length_append]; omega, fun z hz => ?_⟩, hp3.up (by omega), ?_⟩
    · rcases List.mem_append.mp hz with hz | hz <;> exact fps z (cut_mem hz)
    · refine fn_ok (ρ' := [some (.lst p3), some (.d (.tuple ps)), some (.d (.list ns)), some (.d (.int 4)), some (.d (.list ps)), some (.d (.int a)), some (.d (.str s)), none, none, none]) rfl ?_ rfl
      unfold m__law_bent
      rw [seq_nx (ρ1 := [some (.lst p1), some (.d (.tuple ps)), some (.d (.list ns)), some (.d (.int 4)), none, none, none, none, none, none]) (by simp [e1])]
      rw [seq_nx (ρ1 := [some (.lst p1), some (.d (.tuple ps)), some (.d (.list ns)), some (.d (.int 4)), some (.d (.list ps)), none, none, none, none, none]) (by simp [lp])]
      rw [seq_nx (ρ1 := [some (.lst p2), some (.d (.tuple ps)), some (.d (.list ns)), some (.d (.int 4)), some (.d (.list ps)), some (.d (.int a)), none, none, none, none]) (by simp [ln, e2])]
      rw [seq_nx (ρ1 := [some (.lst p3), some (.d (.tuple ps)), some (.d (.list ns)), some (.d (.int 4)), some (.d (.list ps)), some (.d (.int a)), some (.d (.str s)), none, none, none]) (by simp [ln2, e3, x1])]
      rw [if_no (kd := 4) (by decide) rfl]
      rw [if_no (kd := 4) (by decide) rfl]
      rw [if_no (kd := 4) (by decide) rfl]
      rw [if_yes (kd := 4) rfl]
      simp [sla, slb, ad, tupD]
  · have l1 := cut_len (xs := ps) (lo := some a) (hi := some (a + 1))
    have ad := add_l (a := ps) (b := cutD ps (some a) (some (a + 1))) (by omega)
    have pr : Prs 12 (ps ++ cutD ps (some a) (some (a + 1))) := ⟨by rw [List.length_append]; omega, fun z hz => by
      rcases List.mem_append.mp hz with hz | hz
      · exact hp.all z hz
      · exact hp.all z (cut_mem hz)⟩
    obtain ⟨ys, so, hy, _⟩ := sort_prs pr
    refine ⟨.tuple ys, p3, ⟨by have := hy.len; omega, hy.fit⟩, hp3.up (by omega), ?_⟩
    refine fn_ok (ρ' := [some (.lst p3), some (.d (.tuple ps)), some (.d (.list ns)), some (.d (.int 5)), some (.d (.list ps)), some (.d (.int a)), some (.d (.str s)), none, none, none]) rfl ?_ rfl
    unfold m__law_bent
    rw [seq_nx (ρ1 := [some (.lst p1), some (.d (.tuple ps)), some (.d (.list ns)), some (.d (.int 5)), none, none, none, none, none, none]) (by simp [e1])]
    rw [seq_nx (ρ1 := [some (.lst p1), some (.d (.tuple ps)), some (.d (.list ns)), some (.d (.int 5)), some (.d (.list ps)), none, none, none, none, none]) (by simp [lp])]
    rw [seq_nx (ρ1 := [some (.lst p2), some (.d (.tuple ps)), some (.d (.list ns)), some (.d (.int 5)), some (.d (.list ps)), some (.d (.int a)), none, none, none, none]) (by simp [ln, e2])]
    rw [seq_nx (ρ1 := [some (.lst p3), some (.d (.tuple ps)), some (.d (.list ns)), some (.d (.int 5)), some (.d (.list ps)), some (.d (.int a)), some (.d (.str s)), none, none, none]) (by simp [ln2, e3, x1])]
    rw [if_no (kd := 5) (by decide) rfl]
    rw [if_no (kd := 5) (by decide) rfl]
    rw [if_no (kd := 5) (by decide) rfl]
    rw [if_no (kd := 5) (by decide) rfl]
    rw [if_yes (kd := 5) rfl]
    simp [slc, ad, so, tupD]
  · have ad := add_l (a := ps) (b := [.tuple [.str s, .str s]]) (by simp; omega)
    have pr : Prs 7 (ps ++ [.tuple [.str s, .str s]]) := ⟨by rw [List.length_append]; simp; omega, fun z hz => by
      rcases List.mem_append.mp hz with hz | hz
      · exact hp.all z hz
      · simp at hz; subst hz; exact nn⟩
    obtain ⟨ys, so, hy, _⟩ := sort_prs pr
    refine ⟨.tuple ys, p3, ⟨by have := hy.len; omega, hy.fit⟩, hp3.up (by omega), ?_⟩
    refine fn_ok (ρ' := [some (.lst p3), some (.d (.tuple ps)), some (.d (.list ns)), some (.d (.int 6)), some (.d (.list ps)), some (.d (.int a)), some (.d (.str s)), none, none, none]) rfl ?_ rfl
    unfold m__law_bent
    rw [seq_nx (ρ1 := [some (.lst p1), some (.d (.tuple ps)), some (.d (.list ns)), some (.d (.int 6)), none, none, none, none, none, none]) (by simp [e1])]
    rw [seq_nx (ρ1 := [some (.lst p1), some (.d (.tuple ps)), some (.d (.list ns)), some (.d (.int 6)), some (.d (.list ps)), none, none, none, none, none]) (by simp [lp])]
    rw [seq_nx (ρ1 := [some (.lst p2), some (.d (.tuple ps)), some (.d (.list ns)), some (.d (.int 6)), some (.d (.list ps)), some (.d (.int a)), none, none, none, none]) (by simp [ln, e2])]
    rw [seq_nx (ρ1 := [some (.lst p3), some (.d (.tuple ps)), some (.d (.list ns)), some (.d (.int 6)), some (.d (.list ps)), some (.d (.int a)), some (.d (.str s)), none, none, none]) (by simp [ln2, e3, x1])]
    rw [if_no (kd := 6) (by decide) rfl]
    rw [if_no (kd := 6) (by decide) rfl]
    rw [if_no (kd := 6) (by decide) rfl]
    rw [if_no (kd := 6) (by decide) rfl]
    rw [if_no (kd := 6) (by decide) rfl]
    rw [if_yes (kd := 6) rfl]
    simp [ad, so, tupD]
  · obtain ⟨y, p4, fy, hp4, e4⟩ := strange_ok (by omega) hp3
    obtain ⟨zs, z1, z2, z3⟩ := mid (.tuple [y, .str s]) ⟨by simp, fun z hz => by
      simp at hz
      rcases hz with rfl | rfl
      · exact fy.m
      · exact hs.fit⟩
    refine ⟨.tuple zs, p4, z3, hp4.up (by omega), ?_⟩
    refine fn_ok (ρ' := [some (.lst p4), some (.d (.tuple ps)), some (.d (.list ns)), some (.d (.int 7)), some (.d (.list ps)), some (.d (.int a)), some (.d (.str s)), none, none, none]) rfl ?_ rfl
    unfold m__law_bent
    rw [seq_nx (ρ1 := [some (.lst p1), some (.d (.tuple ps)), some (.d (.list ns)), some (.d (.int 7)), none, none, none, none, none, none]) (by simp [e1])]
    rw [seq_nx (ρ1 := [some (.lst p1), some (.d (.tuple ps)), some (.d (.list ns)), some (.d (.int 7)), some (.d (.list ps)), none, none, none, none, none]) (by simp [lp])]
    rw [seq_nx (ρ1 := [some (.lst p2), some (.d (.tuple ps)), some (.d (.list ns)), some (.d (.int 7)), some (.d (.list ps)), some (.d (.int a)), none, none, none, none]) (by simp [ln, e2])]
    rw [seq_nx (ρ1 := [some (.lst p3), some (.d (.tuple ps)), some (.d (.list ns)), some (.d (.int 7)), some (.d (.list ps)), some (.d (.int a)), some (.d (.str s)), none, none, none]) (by simp [ln2, e3, x1])]
    rw [if_no (kd := 7) (by decide) rfl]
    rw [if_no (kd := 7) (by decide) rfl]
    rw [if_no (kd := 7) (by decide) rfl]
    rw [if_no (kd := 7) (by decide) rfl]
    rw [if_no (kd := 7) (by decide) rfl]
    rw [if_no (kd := 7) (by decide) rfl]
    rw [if_yes (kd := 7) rfl]
    simp [sla, sld, e4, z1, z2, tupD]
  · obtain ⟨y, p4, fy, hp4, e4⟩ := strange_ok (by omega) hp3
    obtain ⟨zs, z1, z2, z3⟩ := mid (.tuple [.str s, y]) ⟨by simp, fun z hz => by
      simp at hz
      rcases hz with rfl | rfl
      · exact hs.fit
      · exact fy.m⟩
    refine ⟨.tuple zs, p4, z3, hp4.up (by omega), ?_⟩
    refine fn_ok (ρ' := [some (.lst p4), some (.d (.tuple ps)), some (.d (.list ns)), some (.d (.int 8)), some (.d (.list ps)), some (.d (.int a)), some (.d (.str s)), none, none, none]) rfl ?_ rfl
    unfold m__law_bent
    rw [seq_nx (ρ1 := [some (.lst p1), some (.d (.tuple ps)), some (.d (.list ns)), some (.d (.int 8)), none, none, none, none, none, none]) (by simp [e1])]
    rw [seq_nx (ρ1 := [some (.lst p1), some (.d (.tuple ps)), some (.d (.list ns)), some (.d (.int 8)), some (.d (.list ps)), none, none, none, none, none]) (by simp [lp])]
    rw [seq_nx (ρ1 := [some (.lst p2), some (.d (.tuple ps)), some (.d (.list ns)), some (.d (.int 8)), some (.d (.list ps)), some (.d (.int a)), none, none, none, none]) (by simp [ln, e2])]
    rw [seq_nx (ρ1 := [some (.lst p3), some (.d (.tuple ps)), some (.d (.list ns)), some (.d (.int 8)), some (.d (.list ps)), some (.d (.int a)), some (.d (.str s)), none, none, none]) (by simp [ln2, e3, x1])]
    rw [if_no (kd := 8) (by decide) rfl]
    rw [if_no (kd := 8) (by decide) rfl]
    rw [if_no (kd := 8) (by decide) rfl]
    rw [if_no (kd := 8) (by decide) rfl]
    rw [if_no (kd := 8) (by decide) rfl]
    rw [if_no (kd := 8) (by decide) rfl]
    rw [if_no (kd := 8) (by decide) rfl]
    rw [if_yes (kd := 8) rfl]
    simp [sla, sld, e4, z1, z2, tupD]
  · have lc := lcGo_pure (vs := [8, 9]) (t := (tTup 2 (tsCons (tName 8) (tsCons (tName 9) tsNil)))) (tst := mYes) (e := (mTup (mCons (mVar 8) (mCons (mVar 6) mNil)))) (p := fun _ => true) (g := oneG s) (ρ := [some (.lst p3), some (.d (.tuple ps)), some (.d (.list ns)), some (.d (.int 9)), some (.d (.list ps)), some (.d (.int a)), some (.d (.str s)), none, none, none]) (xs := ps) fun x hx => by
      obtain ⟨b, c, rfl, _⟩ := hp.all x hx
      exact ⟨[some (.lst p3), some (.d (.tuple ps)), some (.d (.list ns)), some (.d (.int 9)), some (.d (.list ps)), some (.d (.int a)), some (.d (.str s)), none, some (.d (.str b)), some (.d (.str c))], _, by simp, rfl, fun z => (by cases z), fun _ => ⟨_, rfl, rfl⟩⟩
    rw [filt_all] at lc
    refine ⟨.tuple (ps.map (oneG s)), p3, ⟨by rw [List.length_map]; omega, fun z hz => ?_⟩, hp3.up (by omega), ?_⟩
    · obtain ⟨y, hy, rfl⟩ := List.mem_map.mp hz
      obtain ⟨b, c, rfl, hb, hc⟩ := hp.all y hy
      refine ⟨by simp, fun z hz => ?_⟩
      simp at hz
      rcases hz with rfl | rfl
      · exact hb.fit
      · exact hs.fit
    · refine fn_ok (ρ' := [some (.lst p3), some (.d (.tuple ps)), some (.d (.list ns)), some (.d (.int 9)), some (.d (.list ps)), some (.d (.int a)), some (.d (.str s)), none, none, none]) rfl ?_ rfl
      unfold m__law_bent
      rw [seq_nx (ρ1 := [some (.lst p1), some (.d (.tuple ps)), some (.d (.list ns)), some (.d (.int 9)), none, none, none, none, none, none]) (by simp [e1])]
      rw [seq_nx (ρ1 := [some (.lst p1), some (.d (.tuple ps)), some (.d (.list ns)), some (.d (.int 9)), some (.d (.list ps)), none, none, none, none, none]) (by simp [lp])]
      rw [seq_nx (ρ1 := [some (.lst p2), some (.d (.tuple ps)), some (.d (.list ns)), some (.d (.int 9)), some (.d (.list ps)), some (.d (.int a)), none, none, none, none]) (by simp [ln, e2])]
      rw [seq_nx (ρ1 := [some (.lst p3), some (.d (.tuple ps)), some (.d (.list ns)), some (.d (.int 9)), some (.d (.list ps)), some (.d (.int a)), some (.d (.str s)), none, none, none]) (by simp [ln2, e3, x1])]
      rw [if_no (kd := 9) (by decide) rfl]
      rw [if_no (kd := 9) (by decide) rfl]
      rw [if_no (kd := 9) (by decide) rfl]
      rw [if_no (kd := 9) (by decide) rfl]
      rw [if_no (kd := 9) (by decide) rfl]
      rw [if_no (kd := 9) (by decide) rfl]
      rw [if_no (kd := 9) (by decide) rfl]
      rw [if_no (kd := 9) (by decide) rfl]
      rw [if_yes (kd := 9) rfl]
      simp [it, dataAt, lc, backE, tupD]
  · obtain ⟨w, p4, w0, w1, hp4, e4⟩ := take_ok (by omega) hp3 2 (by omega) (by omega)
    have ix : ∃ v : Int, ixD (.list [.int 1, .int 3]) (.int w) = some (.int v) := by
      have : w = 0 ∨ w = 1 := by omega
      rcases this with rfl | rfl
      · exact ⟨1, rfl⟩
      · exact ⟨3, rfl⟩
    obtain ⟨v, ix⟩ := ix
    have st : slD (.tuple [.str s, .str s, .str s]) none (some v) = some (.tuple (cutD [.str s, .str s, .str s] none (some v))) := rfl
    obtain ⟨zs, z1, z2, z3⟩ := mid (.tuple (cutD [.str s, .str s, .str s] none (some v))) ⟨cut_len, fun z hz => by
      have := cut_mem hz
      simp at this
      subst this
      exact hs.fit⟩
    refine ⟨.tuple zs, p4, z3, hp4.up (by omega), ?_⟩
    refine fn_ok (ρ' := [some (.lst p4), some (.d (.tuple ps)), some (.d (.list ns)), some (.d (.int 10)), some (.d (.list ps)), some (.d (.int a)), some (.d (.str s)), none, none, none]) rfl ?_ rfl
    unfold m__law_bent
    rw [seq_nx (ρ1 := [some (.lst p1), some (.d (.tuple ps)), some (.d (.list ns)), some (.d (.int 10)), none, none, none, none, none, none]) (by simp [e1])]
    rw [seq_nx (ρ1 := [some (.lst p1), some (.d (.tuple ps)), some (.d (.list ns)), some (.d (.int 10)), some (.d (.list ps)), none, none, none, none, none]) (by simp [lp])]
    rw [seq_nx (ρ1 := [some (.lst p2), some (.d (.tuple ps)), some (.d (.list ns)), some (.d (.int 10)), some (.d (.list ps)), some (.d (.int a)), none, none, none, none]) (by simp [ln, e2])]
    rw [seq_nx (ρ1 := [some (.lst p3), some (.d (.tuple ps)), some (.d (.list ns)), some (.d (.int 10)), some (.d (.list ps)), some (.d (.int a)), some (.d (.str s)), none, none, none]) (by simp [ln2, e3, x1])]
    rw [if_no (kd := 10) (by decide) rfl]
    rw [if_no (kd := 10) (by decide) rfl]
    rw [if_no (kd := 10) (by decide) rfl]
    rw [if_no (kd := 10) (by decide) rfl]
    rw [if_no (kd := 10) (by decide) rfl]
    rw [if_no (kd := 10) (by decide) rfl]
    rw [if_no (kd := 10) (by decide) rfl]
    rw [if_no (kd := 10) (by decide) rfl]
    rw [if_no (kd := 10) (by decide) rfl]
    rw [if_yes (kd := 10) rfl]
    simp [sla, sld, e4, ix, st, z1, z2, tupD]
  · obtain ⟨y, p4, fy, hp4, e4⟩ := strange_ok (by omega) hp3
    refine ⟨y, p4, fy.t, hp4.up (by omega), ?_⟩
    refine fn_ok (ρ' := [some (.lst p4), some (.d (.tuple ps)), some (.d (.list ns)), some (.d (.int 11)), some (.d (.list ps)), some (.d (.int a)), some (.d (.str s)), none, none, none]) rfl ?_ rfl
    unfold m__law_bent
    rw [seq_nx (ρ1 := [some (.lst p1), some (.d (.tuple ps)), some (.d (.list ns)), some (.d (.int 11)), none, none, none, none, none, none]) (by simp [e1])]
    rw [seq_nx (ρ1 := [some (.lst p1), some (.d (.tuple ps)), some (.d (.list ns)), some (.d (.int 11)), some (.d (.list ps)), none, none, none, none, none]) (by simp [lp])]
    rw [seq_nx (ρ1 := [some (.lst p2), some (.d (.tuple ps)), some (.d (.list ns)), some (.d (.int 11)), some (.d (.list ps)), some (.d (.int a)), none, none, none, none]) (by simp [ln, e2])]
    rw [seq_nx (ρ1 := [some (.lst p3), some (.d (.tuple ps)), some (.d (.list ns)), some (.d (.int 11)), some (.d (.list ps)), some (.d (.int a)), some (.d (.str s)), none, none, none]) (by simp [ln2, e3, x1])]
    rw [if_no (kd := 11) (by decide) rfl]
    rw [if_no (kd := 11) (by decide) rfl]
    rw [if_no (kd := 11) (by decide) rfl]
    rw [if_no (kd := 11) (by decide) rfl]
    rw [if_no (kd := 11) (by decide) rfl]
    rw [if_no (kd := 11) (by decide) rfl]
    rw [if_no (kd := 11) (by decide) rfl]
    rw [if_no (kd := 11) (by decide) rfl]
    rw [if_no (kd := 11) (by decide) rfl]
    rw [if_no (kd := 11) (by decide) rfl]
    rw [if_yes (kd := 11) rfl]
    simp [e4]
  · have lc := lcGo_pure (vs := [8, 9]) (t := (tTup 2 (tsCons (tName 8) (tsCons (tName 9) tsNil)))) (tst := mYes) (e := (mTup (mCons (mVar 9) (mCons (mVar 8) mNil)))) (p := fun _ => true) (g := swpG) (ρ := [some (.lst p3), some (.d (.tuple ps)), some (.d (.list ns)), some (.d (.int 12)), some (.d (.list ps)), some (.d (.int a)), some (.d (.str s)), none, none, none]) (xs := ps) fun x hx => by
      obtain ⟨b, c, rfl, _⟩ := hp.all x hx
      exact ⟨[some (.lst p3), some (.d (.tuple ps)), some (.d (.list ns)), some (.d (.int 12)), some (.d (.list ps)), some (.d (.int a)), some (.d (.str s)), none, some (.d (.str b)), some (.d (.str c))], _, by simp, rfl, fun z => (by cases z), fun _ => ⟨_, rfl, rfl⟩⟩
    rw [filt_all] at lc
    refine ⟨.tuple (ps.map swpG), p3, ⟨by rw [List.length_map]; omega, fun z hz => ?_⟩, hp3.up (by omega), ?_⟩
    · obtain ⟨y, hy, rfl⟩ := List.mem_map.mp hz
      obtain ⟨b, c, rfl, hb, hc⟩ := hp.all y hy
      refine ⟨by simp, fun z hz => ?_⟩
      simp at hz
      rcases hz with rfl | rfl
      · exact hc.fit
      · exact hb.fit
    · refine fn_ok (ρ' := [some (.lst p3), some (.d (.tuple ps)), some (.d (.list ns)), some (.d (.int 12)), some (.d (.list ps)), some (.d (.int a)), some (.d (.str s)), none, none, none]) rfl ?_ rfl
      unfold m__law_bent
      rw [seq_nx (ρ1 := [some (.lst p1), some (.d (.tuple ps)), some (.d (.list ns)), some (.d (.int 12)), none, none, none, none, none, none]) (by simp [e1])]
      rw [seq_nx (ρ1 := [some (.lst p1), some (.d (.tuple ps)), some (.d (.list ns)), some (.d (.int 12)), some (.d (.list ps)), none, none, none, none, none]) (by simp [lp])]
      rw [seq_nx (ρ1 := [some (.lst p2), some (.d (.tuple ps)), some (.d (.list ns)), some (.d (.int 12)), some (.d (.list ps)), some (.d (.int a)), none, none, none, none]) (by simp [ln, e2])]
      rw [seq_nx (ρ1 := [some (.lst p3), some (.d (.tuple ps)), some (.d (.list ns)), some (.d (.int 12)), some (.d (.list ps)), some (.d (.int a)), some (.d (.str s)), none, none, none]) (by simp [ln2, e3, x1])]
      rw [if_no (kd := 12) (by decide) rfl]
      rw [if_no (kd := 12) (by decide) rfl]
      rw [if_no (kd := 12) (by decide) rfl]
      rw [if_no (kd := 12) (by decide) rfl]
      rw [if_no (kd := 12) (by decide) rfl]
      rw [if_no (kd := 12) (by decide) rfl]
      rw [if_no (kd := 12) (by decide) rfl]
      rw [if_no (kd := 12) (by decide) rfl]
      rw [if_no (kd := 12) (by decide) rfl]
      rw [if_no (kd := 12) (by decide) rfl]
      rw [if_no (kd := 12) (by decide) rfl]
      rw [if_yes (kd := 12) rfl]
      simp [it, dataAt, lc, backE, tupD]
  · refine ⟨.tuple ps, p3, ⟨by omega, fps⟩, hp3.up (by omega), ?_⟩
    refine fn_ok (ρ' := [some (.lst p3), some (.d (.tuple ps)), some (.d (.list ns)), some (.d (.int 13)), some (.d (.list ps)), some (.d (.int a)), some (.d (.str s)), none, none, none]) rfl ?_ rfl
    unfold m__law_bent
    rw [seq_nx (ρ1 := [some (.lst p1), some (.d (.tuple ps)), some (.d (.list ns)), some (.d (.int 13)), none, none, none, none, none, none]) (by simp [e1])]
    rw [seq_nx (ρ1 := [some (.lst p1), some (.d (.tuple ps)), some (.d (.list ns)), some (.d (.int 13)), some (.d (.list ps)), none, none, none, none, none]) (by simp [lp])]
    rw [seq_nx (ρ1 := [some (.lst p2), some (.d (.tuple ps)), some (.d (.list ns)), some (.d (.int 13)), some (.d (.list ps)), some (.d (.int a)), none, none, none, none]) (by simp [ln, e2])]
    rw [seq_nx (ρ1 := [some (.lst p3), some (.d (.tuple ps)), some (.d (.list ns)), some (.d (.int 13)), some (.d (.list ps)), some (.d (.int a)), some (.d (.str s)), none, none, none]) (by simp [ln2, e3, x1])]
    rw [if_no (kd := 13) (by decide) rfl]
    rw [if_no (kd := 13) (by decide) rfl]
    rw [if_no (kd := 13) (by decide) rfl]
    rw [if_no (kd := 13) (by decide) rfl]
    rw [if_no (kd := 13) (by decide) rfl]
    rw [if_no (kd := 13) (by decide) rfl]
    rw [if_no (kd := 13) (by decide) rfl]
    rw [if_no (kd := 13) (by decide) rfl]
    rw [if_no (kd := 13) (by decide) rfl]
    rw [if_no (kd := 13) (by decide) rfl]
    rw [if_no (kd := 13) (by decide) rfl]
    rw [if_no (kd := 13) (by decide) rfl]
    simp
end SH
end
section
set_option maxRecDepth 100000
set_option maxHeartbeats 0
set_option exponentiation.threshold 3000
namespace SH
open PySem PySem.Spec PyProof.Rows L2 DL
theorem sure_no (x : D) (h : Fit x) (ht : turnB x = false) : f_sure_turns [.d (.list [x])] = .ex ⟨.own "NoTurn", []⟩ := by
  have e := is_turn_ok x h
  rw [ht] at e
  have it : itemsD (.list [x]) = some [x] := rfl
  simp [f_sure_turns, m_sure_turns, fnOf, it, forGo_cons, e]
theorem sure_yes (x : D) (h : Fit x) (ht : turnB x = true) : f_sure_turns [.d (.list [x])] = .ok (.d .none) [some (.d (.list [x]))] := by
  have e := is_turn_ok x h
  rw [ht] at e
  have it : itemsD (.list [x]) = some [x] := rfl
  simp [f_sure_turns, m_sure_turns, fnOf, it, forGo_cons, e, outsOf]
theorem back_no (x : D) (h : Fit x) (ht : turnB x = false) : f_back_turn [.d x] = .ex ⟨.own "NoTurn", []⟩ := by
  simp [f_back_turn, m_back_turn, fnOf, sure_no x h ht]
theorem rounds_no (x : D) (h : Fit x) (ht : turnB x = false) : f_rounds_of [.d x] = .ex ⟨.own "NoTurn", []⟩ := by
  simp [f_rounds_of, m_rounds_of, fnOf, sure_no x h ht]
theorem swaps_no (x : D) (h : Fit x) (ht : turnB x = false) : f_swaps_of [.d x] = .ex ⟨.own "NoTurn", []⟩ := by
  simp [f_swaps_of, m_swaps_of, fnOf, rounds_no x h ht]
theorem turned_no (x y : D) (h : Fit x) (ht : turnB x = false) : f_turned_name [.d x, .d y] = .ex ⟨.own "NoTurn", []⟩ := by
  simp [f_turned_name, m_turned_name, fnOf, sure_no x h ht]
end SH
end
section
set_option maxRecDepth 100000
set_option maxHeartbeats 0
set_option exponentiation.threshold 3000
namespace SH
open PySem PySem.Spec PyProof.Rows L2 DL
theorem app1 (xs : List D) (a : D) (h : xs.length < 1000) : appendD xs [a] = some (xs ++ [a], .none) := if_pos (by have := size_big; omega)
theorem try_ex {b : M Fl} {hs : List ((ECls → Option Bool) × M Fl)} {ρ ρ1 : DL.Env} {ξ : Exc} (h : b ρ = .ex ξ ρ1) : sTry b hs ρ = tryH hs ξ ρ1 := by unfold sTry; rw [h]
theorem try_ok {b : M Fl} {hs : List ((ECls → Option Bool) × M Fl)} {ρ ρ1 : DL.Env} {f : Fl} (h : b ρ = .ok f ρ1) : sTry b hs ρ = .ok f ρ1 := by unfold sTry; rw [h]
theorem tryH_yes {isa : ECls → Option Bool} {m : M Fl} {r : List ((ECls → Option Bool) × M Fl)} {ξ : Exc} {ρ ρ1 : DL.Env} {f : Fl} (h : isa ξ.c = some true) (e : m ρ = .ok f ρ1) : tryH ((isa, m) :: r) ξ ρ = .ok f ρ1 := by
  unfold tryH
  simp only [h, e]
  rfl
theorem tryH_no {isa : ECls → Option Bool} {m : M Fl} {r : List ((ECls → Option Bool) × M Fl)} {ξ : Exc} {ρ : DL.Env} (h : isa ξ.c = some false) : tryH ((isa, m) :: r) ξ ρ = tryH r ξ ρ := by
  rw [tryH]
  simp only [h]
theorem said_no (x y : D) (h : Fit x) (ht : turnB x = false) : f__law_said [.d x, .d y] = .ok (.lst [.str "back", .str "rounds", .str "swaps", .str "turned"]) [some (.d x), some (.d y)] := by
  refine fn_ok (ρ' := [some (.d x), some (.d y), none]) rfl ?_ rfl
  unfold m__law_said
  rw [seq_nx (ρ1 := [some (.d x), some (.d y), some (.lst [])]) (by simp)]
  rw [seq_nx (ρ1 := [some (.d x), some (.d y), some (.lst [.str "back"])]) (by
    rw [try_ex (ρ1 := [some (.d x), some (.d y), some (.lst [])]) (ξ := ⟨.own "NoTurn", []⟩) (by simp [back_no x h ht])]
    exact tryH_yes rfl (by simp [app1]))]
  rw [seq_nx (ρ1 := [some (.d x), some (.d y), some (.lst [.str "back", .str "rounds"])]) (by
    rw [try_ex (ρ1 := [some (.d x), some (.d y), some (.lst [.str "back"])]) (ξ := ⟨.own "NoTurn", []⟩) (by simp [rounds_no x h ht])]
    exact tryH_yes rfl (by simp [app1]))]
  rw [seq_nx (ρ1 := [some (.d x), some (.d y), some (.lst [.str "back", .str "rounds", .str "swaps"])]) (by
    rw [try_ex (ρ1 := [some (.d x), some (.d y), some (.lst [.str "back", .str "rounds"])]) (ξ := ⟨.own "NoTurn", []⟩) (by simp [swaps_no x h ht])]
    exact tryH_yes rfl (by simp [app1]))]
  rw [seq_nx (ρ1 := [some (.d x), some (.d y), some (.lst [.str "back", .str "rounds", .str "swaps", .str "turned"])]) (by
    rw [try_ex (ρ1 := [some (.d x), some (.d y), some (.lst [.str "back", .str "rounds", .str "swaps"])]) (ξ := ⟨.own "NoTurn", []⟩) (by simp [turned_no x y h ht])]
    exact tryH_yes rfl (by simp [app1]))]
  simp
end SH
end
section
set_option maxRecDepth 100000
set_option maxHeartbeats 0
set_option exponentiation.threshold 3000
namespace SH
open PySem PySem.Spec PyProof.Rows L2 DL
/-- a turn -/
structure Tn (xs : List D) : Prop where
  len : xs.length ≤ 20
  ok : xs.all okP = true
  srt : xs.map keyS = sortS (onceS (xs.map keyS))
  tos : sortS (xs.map toS) = xs.map keyS
theorem tn_of {x : D} (h : Fit x) (ht : turnB x = true) : ∃ xs, x = .tuple xs ∧ Tn xs := by
  cases x with
  | tuple xs =>
    refine ⟨xs, rfl, ?_⟩
    have : (xs.all okP && (decide (xs.map keyS = sortS (onceS (xs.map keyS))) && decide (sortS (xs.map toS) = xs.map keyS))) = true := ht
    rw [Bool.and_eq_true, Bool.and_eq_true, decide_eq_true_eq, decide_eq_true_eq] at this
    exact ⟨h.1, this.1, this.2.1, this.2.2⟩
  | _ => cases ht
theorem Tn.prs {xs : List D} (h : Tn xs) : Prs 20 xs := ⟨h.len, fun x hx => by
  obtain ⟨a, b, rfl, ha, hb, _⟩ := okP_iff (List.all_eq_true.mp h.ok x hx)
  exact ⟨a, b, rfl, ha, hb⟩⟩
theorem Tn.nodup {xs : List D} (h : Tn xs) : (xs.map keyS).Nodup := by
  rw [h.srt]
  exact (sortS_perm _).nodup_iff.mpr (once_nd _)
theorem Tn.perm {xs : List D} (h : Tn xs) : (xs.map toS).Perm (xs.map keyS) := by
  have := sortS_perm (xs.map toS)
  rw [h.tos] at this
  exact this.symm
theorem undone_ok {xs : List D} (h : Tn xs) : ∃ y, f_undone [.d (.tuple xs)] = .ok (.d y) [some (.d (.tuple xs))] := by
  have lc := lcGo_pure (vs := [1, 2]) (t := (tTup 2 (tsCons (tName 1) (tsCons (tName 2) tsNil)))) (tst := mYes) (e := (mTup (mCons (mVar 2) (mCons (mVar 1) mNil)))) (p := fun _ => true) (g := swpG) (ρ := [some (.d (.tuple xs)), none, none]) (xs := xs) fun x hx => by
    obtain ⟨b, c, rfl, _⟩ := h.prs.all x hx
    exact ⟨[some (.d (.tuple xs)), some (.d (.str b)), some (.d (.str c))], _, by simp, rfl, fun z => (by cases z), fun _ => ⟨_, rfl, rfl⟩⟩
  rw [filt_all] at lc
  have pr : Prs 20 (xs.map swpG) := ⟨by rw [List.length_map]; exact h.len, fun z hz => by
    obtain ⟨y, hy, rfl⟩ := List.mem_map.mp hz
    obtain ⟨b, c, rfl, hb, hc⟩ := h.prs.all y hy
    exact ⟨c, b, rfl, hc, hb⟩⟩
  obtain ⟨ys, so, _⟩ := sort_prs pr
  refine ⟨.tuple ys, ?_⟩
  have it : itemsD (.tuple xs) = some xs := rfl
  simp [f_undone, m_undone, fnOf, it, dataAt, lc, backE, so, tupD, outsOf]
theorem back_yes {xs : List D} (hf : Fit (.tuple xs)) (ht : turnB (.tuple xs) = true) (h : Tn xs) : ∃ y, f_back_turn [.d (.tuple xs)] = .ok (.d y) [some (.d (.tuple xs))] := by
  obtain ⟨y, e⟩ := undone_ok h
  refine ⟨y, ?_⟩
  simp [f_back_turn, m_back_turn, fnOf, sure_yes _ hf ht, e, outsOf]
end SH
end
section
set_option maxRecDepth 100000
set_option maxHeartbeats 0
set_option exponentiation.threshold 3000
namespace SH
open PySem PySem.Spec PyProof.Rows L2 DL
/-- where a turn leads a name -/
def led : List D → Str → Str
  | [], s => s
  | x :: xs, s => if keyS x = s then toS x else led xs s
theorem led_go {xs : List D} (hp : ∀ x ∈ xs, PrD x) (T : D) (s : Str) : ∀ w2 w3 : Option OV, ∃ f w2' w3', forGo (tTup 2 (tsCons (tName 2) (tsCons (tName 3) tsNil))) (mIf (mB (mBin eqD (mVar 2) (mVar 1))) (sRet (mD (mVar 3))) sNil) xs [some (.d T), some (.d (.str s)), w2, w3] = .ok f [some (.d T), some (.d (.str s)), w2', w3'] ∧ ((f = .nx ∧ led xs s = s) ∨ f = .rt (.d (.str (led xs s)))) := by
  induction xs with
  | nil => exact fun w2 w3 => ⟨.nx, w2, w3, rfl, .inl ⟨rfl, rfl⟩⟩
  | cons x xs ih =>
    intro w2 w3
    obtain ⟨a, b, rfl, _⟩ := hp x List.mem_cons_self
    rw [forGo_cons]
    have tg : tTup 2 (tsCons (tName 2) (tsCons (tName 3) tsNil)) (.tuple [.str a, .str b]) [some (.d T), some (.d (.str s)), w2, w3] = some [some (.d T), some (.d (.str s)), some (.d (.str a)), some (.d (.str b))] := by simp
    rw [tg]
    by_cases e : a = s
    · refine ⟨.rt (.d (.str b)), some (.d (.str a)), some (.d (.str b)), ?_, .inr ?_⟩
      · simp [eq_s, e]
      · have : led (.tuple [.str a, .str b] :: xs) s = b := if_pos e
        rw [this]
    · obtain ⟨f, v2, v3, h1, h2⟩ := ih (fun y hy => hp y (List.mem_cons_of_mem _ hy)) (some (.d (.str a))) (some (.d (.str b)))
      have : led (.tuple [.str a, .str b] :: xs) s = led xs s := if_neg e
      rw [this]
      refine ⟨f, v2, v3, ?_, h2⟩
      simp [eq_s, e, -forGo_nil]
      exact h1
theorem led_ok {xs : List D} (hp : ∀ x ∈ xs, PrD x) (s : Str) : f_led_name [.d (.tuple xs), .d (.str s)] = .ok (.d (.str (led xs s))) [some (.d (.tuple xs)), some (.d (.str s))] := by
  obtain ⟨f, v2, v3, h1, h2⟩ := led_go hp (.tuple xs) s none none
  have it : itemsD (.tuple xs) = some xs := rfl
  rcases h2 with ⟨rfl, h2⟩ | rfl
  · simp [f_led_name, m_led_name, fnOf, it, h1, h2, outsOf]
  · simp [f_led_name, m_led_name, fnOf, it, h1, outsOf]
end SH
end
section
set_option maxRecDepth 100000
set_option maxHeartbeats 0
set_option exponentiation.threshold 3000
namespace SH
open PySem PySem.Spec PyProof.Rows L2 DL
theorem turned_yes {xs : List D} (hf : Fit (.tuple xs)) (ht : turnB (.tuple xs) = true) (h : Tn xs) (y : D) (fy : FitM y) : (nmB y = false → f_turned_name [.d (.tuple xs), .d y] = .ex ⟨.own "NoName", []⟩) ∧ (nmB y = true → ∃ z, f_turned_name [.d (.tuple xs), .d y] = .ok (.d z) [some (.d (.tuple xs)), some (.d y)]) := by
  have sy := sure_yes _ hf ht
  have ny := is_name_ok y fy
  refine ⟨fun e => ?_, fun e => ?_⟩
  · rw [e] at ny
    simp [f_turned_name, m_turned_name, fnOf, sy, ny]
  · rw [e] at ny
    obtain ⟨s, rfl, hs⟩ := nmB_str e
    refine ⟨.str (led xs s), ?_⟩
    simp [f_turned_name, m_turned_name, fnOf, sy, ny, led_ok h.prs.all, outsOf]
/-! the rounds -/
theorem led_mem {xs : List D} {s : Str} (h : s ∈ xs.map keyS) : led xs s ∈ xs.map toS := by
  induction xs with
  | nil => cases h
  | cons x xs ih =>
    rw [List.map_cons, List.mem_cons] at h ⊢
    unfold led
    by_cases e : keyS x = s
    · rw [if_pos e]; exact .inl rfl
    · rw [if_neg e]
      rcases h with h | h
      · exact absurd h.symm e
      · exact .inr (ih h)
theorem led_key {xs : List D} (h : Tn xs) {s : Str} (hs : s ∈ xs.map keyS) : led xs s ∈ xs.map keyS := h.perm.mem_iff.mp (led_mem hs)
theorem led_inj_go : ∀ {xs : List D}, (xs.map keyS).Nodup → (xs.map toS).Nodup → ∀ {s t : Str}, s ∈ xs.map keyS → t ∈ xs.map keyS → led xs s = led xs t → s = t
  | [], _, _, _, _, h, _, _ => by cases h
  | x :: xs, n1, n2, s, t, hs, ht, e => by
    rw [List.map_cons] at n1 n2 hs ht
    obtain ⟨a1, a2⟩ := List.nodup_cons.mp n1
    obtain ⟨b1, b2⟩ := List.nodup_cons.mp n2
    unfold led at e
    by_cases es : keyS x = s
    · by_cases et : keyS x = t
      · rw [← es, ← et]
      · rw [if_pos es, if_neg et] at e
        have ht : t ∈ xs.map keyS := (List.mem_cons.mp ht).resolve_left fun z => et z.symm
        exact absurd (e ▸ led_mem ht) b1
    · have hs : s ∈ xs.map keyS := (List.mem_cons.mp hs).resolve_left fun z => es z.symm
      by_cases et : keyS x = t
      · rw [if_neg es, if_pos et] at e
        exact absurd (e ▸ led_mem hs) b1
      · have ht : t ∈ xs.map keyS := (List.mem_cons.mp ht).resolve_left fun z => et z.symm
        rw [if_neg es, if_neg et] at e
        exact led_inj_go a2 b2 hs ht e
theorem led_inj {xs : List D} (h : Tn xs) {s t : Str} (hs : s ∈ xs.map keyS) (ht : t ∈ xs.map keyS) (e : led xs s = led xs t) : s = t := led_inj_go h.nodup (h.perm.nodup_iff.mpr h.nodup) hs ht e
end SH
end
section
set_option maxRecDepth 100000
set_option maxHeartbeats 0
set_option exponentiation.threshold 3000
namespace SH
open PySem PySem.Spec PyProof.Rows L2 DL
theorem ix_last (pre : List D) (z : D) : ixD (.list (pre ++ [z])) (.int (-1)) = some z := by
  show atI (pre ++ [z]) (-1) = some z
  have h1 : (1 : Int) ≤ (pre.length : Int) + 1 := by omega
  have h2 : (-1 + ((pre.length : Int) + 1)).toNat = pre.length := by omega
  unfold atI ixN
  simp [h1, h2]
def Rg (z : D) : Prop := ∃ r : List Str, z = .tuple (r.map .str) ∧ r ≠ [] ∧ r.length ≤ 20
structure Ring (xs : List D) (a : Str) (pre : List Str) (z : Str) : Prop where
  nd : (pre ++ [z]).Nodup
  sub : ∀ s ∈ pre ++ [z], s ∈ xs.map keyS
  from' : ∀ t ∈ pre ++ [z], t = a ∨ ∃ s ∈ pre, led xs s = t
theorem Ring.few {xs : List D} {a z : Str} {pre : List Str} (h : Ring xs a pre z) : pre.length + 1 ≤ xs.length := by
  have := nodup_le h.nd h.sub
  simpa using this
theorem Ring.step {xs : List D} (hT : Tn xs) {a z : Str} {pre : List Str} (h : Ring xs a pre z) (hne : led xs z ≠ a) : Ring xs a (pre ++ [z]) (led xs z) := by
  have hz : z ∈ xs.map keyS := h.sub z (by simp)
  have hn : led xs z ∉ pre ++ [z] := fun hm => by
    rcases h.from' _ hm with e | ⟨s, hs, e⟩
    · exact hne e
    · have : s = z := led_inj hT (h.sub s (by simp [hs])) hz e
      subst this
      have := (List.nodup_append.mp h.nd).2.2 s hs s (by simp)
      exact this rfl
  refine ⟨?_, ?_, ?_⟩
  · exact List.nodup_append.mpr ⟨h.nd, by simp, fun x hx y hy => by simp at hy; subst hy; exact fun e => hn (e ▸ hx)⟩
  · intro s hs
    rcases List.mem_append.mp hs with hs | hs
    · exact h.sub s hs
    · simp at hs; subst hs; exact led_key hT hz
  · intro t ht
    rcases List.mem_append.mp ht with ht | ht
    · rcases h.from' t ht with e | ⟨s, hs, e⟩
      · exact .inl e
      · exact .inr ⟨s, by simp [hs], e⟩
    · simp at ht; subst ht; exact .inr ⟨z, by simp, rfl⟩
theorem ring_ok {xs : List D} (hT : Tn xs) (found seen : OV) (a : Str) (w4 : Option OV) (ha : a ∈ xs.map keyS) : ∃ r : List Str, r ≠ [] ∧ r.length ≤ 20 ∧ sWhile (mB (mBin neD (mFrz (mCall f_led_name (gD (mVar 0) (gD (mBin ixD (mLook 5) (mF1 negD (mC (.int 1)))) gNil)))) (mVar 3))) (sDrop (mD (mLM 5 appendD (mCons (mFrz (mCall f_led_name (gD (mVar 0) (gD (mBin ixD (mLook 5) (mF1 negD (mC (.int 1)))) gNil)))) mNil)))) [some (.d (.tuple xs)), some found, some seen, some (.d (.str a)), w4, some (.lst [.str a])] = .ok .nx [some (.d (.tuple xs)), some found, some seen, some (.d (.str a)), w4, some (.lst (r.map .str))] := by
  have hl := hT.len
  have ng : negD (.int 1) = some (.int (-1)) := rfl
  obtain ⟨ρ', f1, r, rfl, r1, r2⟩ := while_inv (t := (mB (mBin neD (mFrz (mCall f_led_name (gD (mVar 0) (gD (mBin ixD (mLook 5) (mF1 negD (mC (.int 1)))) gNil)))) (mVar 3)))) (b := (sDrop (mD (mLM 5 appendD (mCons (mFrz (mCall f_led_name (gD (mVar 0) (gD (mBin ixD (mLook 5) (mF1 negD (mC (.int 1)))) gNil)))) mNil)))))
    (fun k ρ => ∃ pre z, ρ = [some (.d (.tuple xs)), some found, some seen, some (.d (.str a)), w4, some (.lst (pre.map .str ++ [.str z]))] ∧ Ring xs a pre z ∧ k = xs.length - pre.length)
    (fun ρ => ∃ r : List Str, ρ = [some (.d (.tuple xs)), some found, some seen, some (.d (.str a)), w4, some (.lst (r.map .str))] ∧ r ≠ [] ∧ r.length ≤ 20)
    (fun k ρ ⟨pre, z, e, hr, hk⟩ => by
      subst e
      have few := hr.few
      have ld := led_ok hT.prs.all z
      by_cases e : led xs z = a
      · refine .inl ⟨[some (.d (.tuple xs)), some found, some seen, some (.d (.str a)), w4, some (.lst (pre.map .str ++ [.str z]))], ?_, pre ++ [z], by simp, by simp, by simp; omega⟩
        simp [ng, ix_last, ld, ne_s, e]
      · refine .inr ⟨[some (.d (.tuple xs)), some found, some seen, some (.d (.str a)), w4, some (.lst (pre.map .str ++ [.str z]))], [some (.d (.tuple xs)), some found, some seen, some (.d (.str a)), w4, some (.lst ((pre ++ [z]).map .str ++ [.str (led xs z)]))], ?_, ?_, xs.length - (pre ++ [z]).length, by simp; omega, pre ++ [z], led xs z, rfl, hr.step hT e, rfl⟩
        · simp [ng, ix_last, ld, ne_s, e]
        · have ap := app1 (pre.map .str ++ [.str z]) (.str (led xs z)) (by simp; omega)
          simp [ng, ix_last, ld, ap])
    (xs.length - 0) [some (.d (.tuple xs)), some found, some seen, some (.d (.str a)), w4, some (.lst [.str a])] ⟨[], a, rfl, ⟨by simp, fun s hs => by simp at hs; subst hs; exact ha, fun t ht => .inl (by simpa using ht)⟩, rfl⟩
  exact ⟨r, r1, r2, f1⟩
end SH
end
section
set_option maxRecDepth 100000
set_option maxHeartbeats 0
set_option exponentiation.threshold 3000
namespace SH
open PySem PySem.Spec PyProof.Rows L2 DL
theorem ext_l {a b : List D} (h : a.length + b.length ≤ 1000) : extendD a (.list b) = some (a ++ b) := if_pos (by have := size_big; omega)
theorem rounds_yes {xs : List D} (hf : Fit (.tuple xs)) (ht : turnB (.tuple xs) = true) (hT : Tn xs) : ∃ found : List D, found.length ≤ 20 ∧ (∀ z ∈ found, Rg z) ∧ f_rounds_of [.d (.tuple xs)] = .ok (.lst found) [some (.d (.tuple xs))] := by
  have sy := sure_yes _ hf ht
  have hl := hT.len
  have it : itemsD (.tuple xs) = some xs := rfl
  obtain ⟨ρ', f1, found, seen, w3, w4, w5, rfl, h1, h2, h3⟩ := forGo_inv (t := tTup 2 (tsCons (tName 3) (tsCons (tName 4) tsNil))) (b := (mIf (mB (mBin ninD (mVar 3) (mLook 2))) (sSeq (sSetO 5 (mLst (mCons (mVar 3) mNil)))
 (sSeq (sWhile (mB (mBin neD (mFrz (mCall f_led_name (gD (mVar 0) (gD (mBin ixD (mLook 5) (mF1 negD (mC (.int 1)))) gNil)))) (mVar 3))) (sDrop (mD (mLM 5 appendD (mCons (mFrz (mCall f_led_name (gD (mVar 0) (gD (mBin ixD (mLook 5) (mF1 negD (mC (.int 1)))) gNil)))) mNil)))))
 (sSeq (sDrop (mD (mExtend 2 (mLook 5))))
 (sDrop (mD (mLM 1 appendD (mCons (mF1 tupD (mLook 5)) mNil))))))) sNil)) (xs := xs) (ρ := [some (.d (.tuple xs)), some (.lst []), some (.lst []), none, none, none])
    (fun i ρ => ∃ (found : List D) (seen : List Str) (w3 w4 w5 : Option OV), ρ = [some (.d (.tuple xs)), some (.lst found), some (.lst (seen.map .str)), w3, w4, w5] ∧ found.length ≤ i ∧ seen.length ≤ 20 * i ∧ ∀ z ∈ found, Rg z)
    ⟨[], [], none, none, none, rfl, Nat.le_refl _, Nat.le_refl _, fun z hz => by cases hz⟩ (fun i x ρ hx ⟨found, seen, w3, w4, w5, e, h1, h2, h3⟩ => by
      subst e
      have hi : i < xs.length := (List.getElem?_eq_some_iff.mp hx).1
      have hm := List.mem_of_getElem? hx
      obtain ⟨a, b, rfl, ha, hb⟩ := hT.prs.all x hm
      have hk : a ∈ xs.map keyS := List.mem_map.mpr ⟨_, hm, rfl⟩
      refine ⟨[some (.d (.tuple xs)), some (.lst found), some (.lst (seen.map .str)), some (.d (.str a)), some (.d (.str b)), w5], ?_⟩
      by_cases hs : a ∈ seen
      · refine ⟨[some (.d (.tuple xs)), some (.lst found), some (.lst (seen.map .str)), some (.d (.str a)), some (.d (.str b)), w5], by simp, by simp [nin_strs, hs], found, seen, some (.d (.str a)), some (.d (.str b)), w5, rfl, by omega, by omega, h3⟩
      · obtain ⟨r, r1, r2, hw⟩ := ring_ok hT (.lst found) (.lst (seen.map .str)) a (some (.d (.str b))) hk
        have ex := ext_l (a := seen.map PyData.str) (b := r.map PyData.str) (by simp; omega)
        have ap := app1 found (.tuple (r.map .str)) (by omega)
        refine ⟨[some (.d (.tuple xs)), some (.lst (found ++ [.tuple (r.map .str)])), some (.lst ((seen ++ r).map .str)), some (.d (.str a)), some (.d (.str b)), some (.lst (r.map .str))], by simp, ?_, found ++ [.tuple (r.map .str)], seen ++ r, some (.d (.str a)), some (.d (.str b)), some (.lst (r.map .str)), rfl, by simp; omega, by simp; omega, fun z hz => ?_⟩
        · simp [nin_strs, hs, hw, ex, tupD, ap]
        · rcases List.mem_append.mp hz with hz | hz
          · exact h3 z hz
          · simp at hz; subst hz; exact ⟨r, rfl, r1, r2⟩)
  refine ⟨found, by omega, h3, ?_⟩
  simp [f_rounds_of, m_rounds_of, fnOf, sy, it]
  try simp at f1
  simp [f1, outsOf]
end SH
end
section
set_option maxRecDepth 100000
set_option maxHeartbeats 0
set_option exponentiation.threshold 3000
namespace SH
open PySem PySem.Spec PyProof.Rows L2 DL
theorem swaps_yes {xs : List D} (hf : Fit (.tuple xs)) (ht : turnB (.tuple xs) = true) (hT : Tn xs) : ∃ y, f_swaps_of [.d (.tuple xs)] = .ok (.lst y) [some (.d (.tuple xs))] := by
  obtain ⟨found, l1, rg, e⟩ := rounds_yes hf ht hT
  have it : itemsD (.list found) = some found := rfl
  obtain ⟨ρ', f1, f, w2, w3, rfl, h1⟩ := forGo_inv (t := tStar 1 (tsCons (tName 2) (tsCons (tName 3) tsNil))) (b := (sDrop (mD (mExtend 1 (mLstF (mLc [4] (mItems (mVar 3)) (tName 4) mYes (mTup (mCons (mVar 2) (mCons (mVar 4) mNil))))))))) (xs := found) (ρ := [some (.d (.tuple xs)), some (.lst []), none, none, none])
    (fun i ρ => ∃ (f : List D) (w2 w3 : Option OV), ρ = [some (.d (.tuple xs)), some (.lst f), w2, w3, none] ∧ f.length ≤ 20 * i)
    ⟨[], none, none, rfl, Nat.le_refl _⟩ (fun i x ρ hx ⟨f, w2, w3, e, h1⟩ => by
      subst e
      have hi : i < found.length := (List.getElem?_eq_some_iff.mp hx).1
      obtain ⟨r, rfl, r1, r2⟩ := rg x (List.mem_of_getElem? hx)
      obtain ⟨a, r, rfl⟩ := List.exists_cons_of_ne_nil r1
      have lc := lcGo_pure (vs := [4]) (t := tName 4) (tst := mYes) (e := (mTup (mCons (mVar 2) (mCons (mVar 4) mNil)))) (p := fun _ => true) (g := fun y => PyData.tuple [.str a, y]) (ρ := [some (.d (.tuple xs)), some (.lst f), some (.d (.str a)), some (.d (.list (r.map .str))), none]) (xs := r.map .str) fun y hy =>
        ⟨_, [some (.d (.tuple xs)), some (.lst f), some (.d (.str a)), some (.d (.list (r.map .str))), some (.d y)], rfl, rfl, fun z => (by cases z), fun _ => ⟨_, rfl, rfl⟩⟩
      rw [filt_all] at lc
      have it2 : itemsD (.list (r.map .str)) = some (r.map .str) := rfl
      rw [List.length_cons] at r2
      have ex := ext_l (a := f) (b := (r.map PyData.str).map fun y => PyData.tuple [.str a, y]) (by rw [List.length_map, List.length_map]; omega)
      refine ⟨[some (.d (.tuple xs)), some (.lst f), some (.d (.str a)), some (.d (.list (r.map .str))), none], [some (.d (.tuple xs)), some (.lst (f ++ (r.map PyData.str).map fun y => PyData.tuple [.str a, y])), some (.d (.str a)), some (.d (.list (r.map .str))), none], rfl, ?_, _, some (.d (.str a)), some (.d (.list (r.map .str))), rfl, by rw [List.length_append, List.length_map, List.length_map]; omega⟩
      generalize ((r.map PyData.str).map fun y => PyData.tuple [.str a, y]) = q at lc ex
      simp [it2, dataAt, lc, backE, ex])
  refine ⟨f, ?_⟩
  simp [f_swaps_of, m_swaps_of, fnOf, e, it]
  try simp at f1
  simp [f1, outsOf]
end SH
end
section
set_option maxRecDepth 100000
set_option maxHeartbeats 0
set_option exponentiation.threshold 3000
namespace SH
open PySem PySem.Spec PyProof.Rows L2 DL
theorem said_yes (x y : D) (hf : Fit x) (ht : turnB x = true) (fy : FitM y) : f__law_said [.d x, .d y] = .ok (.lst (if nmB y = true then [] else [.str "name"])) [some (.d x), some (.d y)] := by
  obtain ⟨xs, rfl, hT⟩ := tn_of hf ht
  obtain ⟨z1, b1⟩ := back_yes hf ht hT
  obtain ⟨z2, _, _, b2⟩ := rounds_yes hf ht hT
  obtain ⟨z3, b3⟩ := swaps_yes hf ht hT
  have b4 := turned_yes hf ht hT y fy
  refine fn_ok (ρ' := [some (.d (.tuple xs)), some (.d y), none]) rfl ?_ rfl
  unfold m__law_said
  rw [seq_nx (ρ1 := [some (.d (.tuple xs)), some (.d y), some (.lst [])]) (by simp)]
  rw [seq_nx (ρ1 := [some (.d (.tuple xs)), some (.d y), some (.lst [])]) (try_ok (by simp [b1]))]
  rw [seq_nx (ρ1 := [some (.d (.tuple xs)), some (.d y), some (.lst [])]) (try_ok (by simp [b2]))]
  rw [seq_nx (ρ1 := [some (.d (.tuple xs)), some (.d y), some (.lst [])]) (try_ok (by simp [b3]))]
  cases hn : nmB y with
  | true =>
    obtain ⟨z, e⟩ := b4.2 hn
    rw [seq_nx (ρ1 := [some (.d (.tuple xs)), some (.d y), some (.lst [])]) (try_ok (by simp [e]))]
    simp
  | false =>
    have e := b4.1 hn
    rw [seq_nx (ρ1 := [some (.d (.tuple xs)), some (.d y), some (.lst [.str "name"])]) (by
      rw [try_ex (ρ1 := [some (.d (.tuple xs)), some (.d y), some (.lst [])]) (ξ := ⟨.own "NoName", []⟩) (by simp [e])]
      rw [tryH_no rfl]
      exact tryH_yes rfl (by simp [app1]))]
    simp
end SH
end
section
set_option maxRecDepth 100000
set_option maxHeartbeats 0
set_option exponentiation.threshold 3000
namespace SH
open PySem PySem.Spec PyProof.Rows L2 DL
/-! ### pairs of names in order -/
abbrev PL := List (Str × Str)
def pd (p : Str × Str) : D := .tuple [.str p.1, .str p.2]
def tD (t : PL) : D := .tuple (t.map pd)
def le2 (p q : Str × Str) : Bool := if p.1 = q.1 then leS p.2 q.2 else leS p.1 q.1
theorem not_lt_le (a b : Str) : (!decide (b.cps.toList < a.cps.toList)) = leS a b := by
  unfold leS
  by_cases h : b.cps.toList < a.cps.toList
  · have : ¬ a.cps.toList ≤ b.cps.toList := fun z => List.not_lt.mpr z h
    simp [h, this]
  · have : a.cps.toList ≤ b.cps.toList := List.not_lt.mp h
    simp [h, this]
theorem dataLe_lt (a b : D) : PySem.W.dataLe false id a b = !PySem.W.dataLt b a := rfl
theorem eqv_str (a b : Str) : PyData.eqv (.str a) (.str b) = decide (a = b) := by
  rw [PyData.eqv]
  by_cases h : a = b
  · simp [h]
  · simp [h]
theorem le2_pd (p q : Str × Str) : le2 p q = PySem.W.dataLe false id (pd p) (pd q) := by
  obtain ⟨a, b⟩ := p
  obtain ⟨c, d⟩ := q
  rw [dataLe_lt]
  unfold pd le2
  rw [PySem.W.dataLt_pair (by simp [PySem.W.alike]) (by simp [PySem.W.alike]), eqv_str, eqv_str, PySem.W.dataLt_str, PySem.W.dataLt_str]
  by_cases h : a = c
  · subst h
    by_cases k : b = d
    · subst k
      simp [leS_refl b]
    · have k' : ¬ d = b := fun e => k e.symm
      simp [k', ← not_lt_le]
  · have h' : ¬ c = a := fun e => h e.symm
    simp [h, h', ← not_lt_le]
where leS_refl (b : Str) : leS b b = true := by unfold leS; rw [decide_eq_true_eq]; exact List.le_refl _
theorem leS_refl (b : Str) : leS b b = true := by unfold leS; rw [decide_eq_true_eq]; exact List.le_refl _
def sortP (l : PL) : PL := l.mergeSort le2
theorem sortL_pd (l : PL) : sortL (l.map pd) = (sortP l).map pd := by
  unfold sortL sortP
  exact (PySem.W.sort_maps pd fun a _ b _ => le2_pd a b).symm
def Nm2 (l : PL) : Prop := ∀ p ∈ l, NmS p.1 ∧ NmS p.2
theorem Nm2.prd {l : PL} (h : Nm2 l) : ∀ x ∈ l.map pd, PrD x := fun x hx => by
  obtain ⟨p, hp, rfl⟩ := List.mem_map.mp hx
  exact ⟨p.1, p.2, rfl, (h p hp).1, (h p hp).2⟩
theorem sortO_pd {l : PL} (h : Nm2 l) : sortO (.list (l.map pd)) = some ((sortP l).map pd) := by
  show (if _ then _ else _) = _
  rw [if_pos (sortOk_prs h.prd), sortL_pd]
theorem le2_trans (a b c : Str × Str) (h1 : le2 a b = true) (h2 : le2 b c = true) : le2 a c = true := by
  unfold le2 at *
  by_cases h : a.1 = b.1
  · rw [if_pos h] at h1
    by_cases k : b.1 = c.1
    · rw [if_pos k] at h2
      rw [if_pos (h.trans k)]
      exact leS_trans _ _ _ h1 h2
    · rw [if_neg k] at h2
      rw [if_neg (by rw [h]; exact k), h]
      exact h2
  · rw [if_neg h] at h1
    by_cases k : b.1 = c.1
    · rw [if_neg (by rw [← k]; exact h), ← k]
      exact h1
    · rw [if_neg k] at h2
      by_cases m : a.1 = c.1
      · exact absurd (leS_anti h1 (by rw [m]; exact h2)) h
      · rw [if_neg m]
        exact leS_trans _ _ _ h1 h2
theorem le2_total (a b : Str × Str) : (le2 a b || le2 b a) = true := by
  unfold le2
  by_cases h : a.1 = b.1
  · rw [if_pos h, if_pos h.symm]; exact leS_total _ _
  · rw [if_neg h, if_neg (fun e => h e.symm)]; exact leS_total _ _
theorem le2_anti {a b : Str × Str} (h1 : le2 a b = true) (h2 : le2 b a = true) : a = b := by
  unfold le2 at *
  by_cases h : a.1 = b.1
  · rw [if_pos h] at h1
    rw [if_pos h.symm] at h2
    exact Prod.ext h (leS_anti h1 h2)
  · rw [if_neg h] at h1
    rw [if_neg (fun e => h e.symm)] at h2
    exact absurd (leS_anti h1 h2) h
theorem sortP_perm (l : PL) : (sortP l).Perm l := List.mergeSort_perm _ _
theorem sortP_eq {l m : PL} (p : m.Perm l) (s : m.Pairwise fun a b => le2 a b = true) : sortP l = m :=
  ((sortP_perm l).trans p.symm).eq_of_pairwise (le := fun a b => le2 a b = true) (fun a b _ _ => le2_anti) (List.pairwise_mergeSort le2_trans le2_total l) s
/-! ### sorted names, each once -/
def ltN (a b : Str) : Prop := leS a b = true ∧ a ≠ b
theorem srt_once (l : List Str) : (sortS (onceS l)).Pairwise ltN := by
  have h1 : (sortS (onceS l)).Pairwise fun a b => leS a b = true := List.pairwise_mergeSort leS_trans leS_total _
  have h2 : (sortS (onceS l)).Nodup := (sortS_perm _).nodup_iff.mpr (once_nd l)
  exact h1.and h2
theorem mem_srt {l : List Str} {x : Str} : x ∈ sortS (onceS l) ↔ x ∈ l := (sortS_perm _).mem_iff.trans once_mem
theorem ltN_nodup {l : List Str} (h : l.Pairwise ltN) : l.Nodup := h.imp fun ⟨_, n⟩ => n
theorem ltN_uniq {l m : List Str} (hl : l.Pairwise ltN) (hm : m.Pairwise ltN) (e : ∀ x, x ∈ l ↔ x ∈ m) : l = m :=
  ((List.perm_ext_iff_of_nodup (ltN_nodup hl) (ltN_nodup hm)).mpr e).eq_of_pairwise (le := fun a b => leS a b = true) (fun a b _ _ => leS_anti) (hl.imp fun h => h.1) (hm.imp fun h => h.1)
theorem srt_eq {l m : List Str} (hm : m.Pairwise ltN) (e : ∀ x, x ∈ m ↔ x ∈ l) : sortS (onceS l) = m := ltN_uniq (srt_once l) hm fun x => mem_srt.trans (e x).symm
/-! ### the turn of a function on names -/
def mkT (f : Str → Str) (l : List Str) : PL := ((sortS (onceS l)).filter fun s => !decide (s = f s)).map fun s => (s, f s)
def keys (t : PL) : List Str := t.map (·.1)
theorem keysMk (f : Str → Str) (l : List Str) : keys (mkT f l) = (sortS (onceS l)).filter fun s => !decide (s = f s) := by
  unfold keys mkT
  rw [List.map_map]
  exact List.map_id' _
theorem mem_keysMk {f : Str → Str} {l : List Str} {s : Str} : s ∈ keys (mkT f l) ↔ s ∈ l ∧ s ≠ f s := by
  rw [keysMk, List.mem_filter, mem_srt]
  simp
theorem keysMk_srt (f : Str → Str) (l : List Str) : (keys (mkT f l)).Pairwise ltN := by
  rw [keysMk]
  exact (srt_once l).filter _
/-- where a turn leads a name -/
def ledP (t : PL) (s : Str) : Str := match t with
  | [] => s
  | p :: r => if p.1 = s then p.2 else ledP r s
theorem led_pd (t : PL) (s : Str) : led (t.map pd) s = ledP t s := by
  induction t with
  | nil => rfl
  | cons p r ih =>
    show (if p.1 = s then p.2 else led (r.map pd) s) = if p.1 = s then p.2 else ledP r s
    rw [ih]
theorem ledP_out {t : PL} {s : Str} (h : s ∉ keys t) : ledP t s = s := by
  induction t with
  | nil => rfl
  | cons p r ih =>
    have h : s ∉ p.1 :: keys r := h
    rw [List.mem_cons, not_or] at h
    show (if p.1 = s then p.2 else ledP r s) = s
    rw [if_neg fun e => h.1 e.symm]
    exact ih h.2
theorem ledP_in {t : PL} {p : Str × Str} (n : (keys t).Nodup) (h : p ∈ t) : ledP t p.1 = p.2 := by
  induction t with
  | nil => cases h
  | cons q r ih =>
    have n : (q.1 :: keys r).Nodup := n
    obtain ⟨n1, n2⟩ := List.nodup_cons.mp n
    show (if q.1 = p.1 then q.2 else ledP r p.1) = p.2
    rcases List.mem_cons.mp h with rfl | h
    · rw [if_pos rfl]
    · rw [if_neg fun e => n1 (by rw [e]; exact List.mem_map_of_mem h)]
      exact ih n2 h
theorem ledP_mk {f : Str → Str} {l : List Str} (h : ∀ s, s ∉ l → f s = s) (s : Str) : ledP (mkT f l) s = f s := by
  by_cases hs : s ∈ keys (mkT f l)
  · have hm : (s, f s) ∈ mkT f l := by
      unfold mkT
      rw [keysMk] at hs
      exact List.mem_map.mpr ⟨s, hs, rfl⟩
    exact ledP_in (ltN_nodup (keysMk_srt f l)) hm
  · rw [ledP_out hs]
    rw [mem_keysMk] at hs
    by_cases hl : s ∈ l
    · by_cases e : s = f s
      · exact e
      · exact absurd ⟨hl, e⟩ hs
    · exact (h s hl).symm
theorem mk_congr {f g : Str → Str} {l m : List Str} (e : ∀ s, f s = g s) (hl : ∀ s, s ∉ l → f s = s) (hm : ∀ s, s ∉ m → g s = s) : mkT f l = mkT g m := by
  have hfg : f = g := funext e
  subst hfg
  have : ((sortS (onceS l)).filter fun s => !decide (s = f s)) = (sortS (onceS m)).filter fun s => !decide (s = f s) := by
    refine ltN_uniq ((srt_once l).filter _) ((srt_once m).filter _) fun x => ?_
    rw [List.mem_filter, List.mem_filter, mem_srt, mem_srt]
    constructor
    · rintro ⟨h1, h2⟩
      refine ⟨?_, h2⟩
      by_cases hx : x ∈ m
      · exact hx
      · simp [hm x hx] at h2
    · rintro ⟨h1, h2⟩
      refine ⟨?_, h2⟩
      by_cases hx : x ∈ l
      · exact hx
      · simp [hl x hx] at h2
  unfold mkT
  rw [this]
/-- a turn -/
structure Turn (t : PL) : Prop where
  nm : Nm2 t
  ne : ∀ p ∈ t, p.1 ≠ p.2
  srt : (keys t).Pairwise ltN
  perm : (t.map (·.2)).Perm (keys t)
theorem Turn.self {t : PL} (h : Turn t) {l : List Str} (hl : ∀ s ∈ keys t, s ∈ l) : mkT (ledP t) l = t := by
  have e1 : keys (mkT (ledP t) l) = keys t := ltN_uniq (keysMk_srt _ _) h.srt fun x => by
    rw [mem_keysMk]
    constructor
    · rintro ⟨h1, h2⟩
      by_cases hx : x ∈ keys t
      · exact hx
      · exact absurd (ledP_out hx).symm h2
    · intro hx
      obtain ⟨p, hp, rfl⟩ := List.mem_map.mp hx
      refine ⟨hl _ hx, ?_⟩
      rw [ledP_in (ltN_nodup h.srt) hp]
      exact h.ne p hp
  rw [keysMk] at e1
  unfold mkT
  rw [e1]
  unfold keys
  rw [List.map_map]
  have : ∀ p ∈ t, ((fun s => (s, ledP t s)) ∘ fun x : Str × Str => x.1) p = p := fun p hp => Prod.ext rfl (ledP_in (ltN_nodup h.srt) hp)
  rw [List.map_congr_left this, List.map_id']
theorem Turn.ext {t u : PL} (h : Turn t) (k : Turn u) (e : ∀ s, ledP t s = ledP u s) : t = u := by
  rw [← h.self (l := keys t) fun _ h => h, ← k.self (l := keys u) fun _ h => h]
  exact mk_congr e (fun s hs => ledP_out hs) fun s hs => ledP_out hs
theorem Turn.led_key {t : PL} (h : Turn t) {s : Str} (hs : s ∈ keys t) : ledP t s ∈ keys t := by
  obtain ⟨p, hp, rfl⟩ := List.mem_map.mp hs
  rw [ledP_in (ltN_nodup h.srt) hp]
  exact h.perm.mem_iff.mp (List.mem_map_of_mem hp)
theorem Turn.inj {t : PL} (h : Turn t) {a b : Str} (e : ledP t a = ledP t b) : a = b := by
  have nd2 : (t.map (·.2)).Nodup := h.perm.nodup_iff.mpr (ltN_nodup h.srt)
  have one : ∀ {t : PL}, (t.map (·.2)).Nodup → ∀ p ∈ t, ∀ q ∈ t, p.2 = q.2 → p = q := fun {t} => by
    induction t with
    | nil => intro _ p hp; cases hp
    | cons r t ih =>
      intro n p hp q hq e
      rw [List.map_cons] at n
      obtain ⟨n1, n2⟩ := List.nodup_cons.mp n
      rcases List.mem_cons.mp hp with hp1 | hp1
      · rcases List.mem_cons.mp hq with hq1 | hq1
        · rw [hp1, hq1]
        · exact absurd (by rw [← hp1, e]; exact List.mem_map_of_mem hq1) n1
      · rcases List.mem_cons.mp hq with hq1 | hq1
        · exact absurd (by rw [← hq1, ← e]; exact List.mem_map_of_mem hp1) n1
        · exact ih n2 p hp1 q hq1 e
  by_cases ha : a ∈ keys t
  · by_cases hb : b ∈ keys t
    · obtain ⟨p, hp, rfl⟩ := List.mem_map.mp ha
      obtain ⟨q, hq, rfl⟩ := List.mem_map.mp hb
      rw [ledP_in (ltN_nodup h.srt) hp, ledP_in (ltN_nodup h.srt) hq] at e
      rw [one nd2 p hp q hq e]
    · rw [ledP_out hb] at e
      exact absurd (by rw [← e]; exact h.led_key ha) hb
  · by_cases hb : b ∈ keys t
    · rw [ledP_out ha] at e
      exact absurd (by rw [e]; exact h.led_key hb) ha
    · rw [ledP_out ha, ledP_out hb] at e
      exact e
theorem perm_of_sub {l m : List Str} (n : l.Nodup) (s : ∀ x ∈ l, x ∈ m) (hl : m.length ≤ l.length) (nm : m.Nodup) : l.Perm m := by
  refine (List.perm_ext_iff_of_nodup n nm).mpr fun x => ⟨s x, fun hx => ?_⟩
  by_cases h : x ∈ l
  · exact h
  · have h1 : (x :: l).Nodup := List.nodup_cons.mpr ⟨h, n⟩
    have h2 := nodup_le h1 (b := m) fun y hy => by
      rcases List.mem_cons.mp hy with rfl | hy
      · exact hx
      · exact s y hy
    rw [List.length_cons] at h2
    omega
theorem turn_mk {f : Str → Str} {l : List Str} (hl : ∀ s ∈ l, NmS s) (out : ∀ s, s ∉ l → f s = s) (inj : ∀ a b, f a = f b → a = b) : Turn (mkT f l) := by
  have key : ∀ s, s ∈ keys (mkT f l) → f s ∈ keys (mkT f l) := fun s hs => by
    rw [mem_keysMk] at hs ⊢
    have hne : f s ≠ f (f s) := fun e => hs.2 (inj _ _ e)
    refine ⟨?_, hne⟩
    by_cases h : f s ∈ l
    · exact h
    · exact absurd (out _ h).symm hne
  have tos : (mkT f l).map (·.2) = (keys (mkT f l)).map f := by
    rw [keysMk]
    unfold mkT
    rw [List.map_map]
    rfl
  have nd := ltN_nodup (keysMk_srt f l)
  refine ⟨fun p hp => ?_, fun p hp => ?_, keysMk_srt f l, ?_⟩
  · have h1 : p.1 ∈ keys (mkT f l) := List.mem_map_of_mem hp
    have h2 : p.2 = f p.1 := by
      rw [← ledP_in nd hp, ledP_mk out]
    have h3 := key _ h1
    rw [mem_keysMk] at h1 h3
    exact ⟨hl _ h1.1, by rw [h2]; exact hl _ h3.1⟩
  · have h1 : p.1 ∈ keys (mkT f l) := List.mem_map_of_mem hp
    rw [mem_keysMk] at h1
    rw [show p.2 = f p.1 from by rw [← ledP_in nd hp, ledP_mk out]]
    exact h1.2
  · rw [tos]
    refine perm_of_sub ?_ (fun x hx => ?_) (by rw [List.length_map]; exact Nat.le_refl _) nd
    · exact List.Nodup.map_on' inj nd
    · obtain ⟨s, hs, rfl⟩ := List.mem_map.mp hx
      exact key s hs
where List.Nodup.map_on' {f : Str → Str} (inj : ∀ a b, f a = f b → a = b) : ∀ {l : List Str}, l.Nodup → (l.map f).Nodup
  | [], _ => .nil
  | a :: l, h => by
    obtain ⟨h1, h2⟩ := List.nodup_cons.mp h
    rw [List.map_cons]
    refine List.nodup_cons.mpr ⟨fun z => ?_, List.Nodup.map_on' inj h2⟩
    obtain ⟨b, hb, e⟩ := List.mem_map.mp z
    exact h1 (by rw [inj _ _ e.symm]; exact hb)
theorem turn_nil : Turn [] := ⟨(fun _ h => by cases h), (fun _ h => by cases h), List.Pairwise.nil, List.Perm.nil⟩
end SH
end
section
set_option maxRecDepth 100000
set_option maxHeartbeats 0
set_option exponentiation.threshold 3000
namespace SH
open PySem PySem.Spec PyProof.Rows L2 DL
/-! ### a turn by is_turn -/
theorem keyS_pd (t : PL) : (t.map pd).map keyS = keys t := by
  unfold keys; rw [List.map_map]; rfl
theorem toS_pd (t : PL) : (t.map pd).map toS = t.map (·.2) := by
  rw [List.map_map]; rfl
theorem nmB_of {s : Str} (h : NmS s) : nmB (.str s) = true := nmS_iff.mpr h
theorem sortS_uniq {l m : List Str} (p : l.Perm m) (s : m.Pairwise ltN) : sortS l = m :=
  ((sortS_perm l).trans p).eq_of_pairwise (le := fun a b => leS a b = true) (fun a b _ _ => leS_anti) (List.pairwise_mergeSort leS_trans leS_total l) (s.imp fun h => h.1)
theorem Turn.isB {t : PL} (h : Turn t) : turnB (tD t) = true := by
  have a : (t.map pd).all okP = true := List.all_eq_true.mpr fun x hx => by
    obtain ⟨p, hp, rfl⟩ := List.mem_map.mp hx
    have n := h.nm p hp
    have e := h.ne p hp
    simp [okP, pd, nmB_of n.1, nmB_of n.2, neB, e]
  show ((t.map pd).all okP && (decide ((t.map pd).map keyS = sortS (onceS ((t.map pd).map keyS))) && decide (sortS ((t.map pd).map toS) = (t.map pd).map keyS))) = true
  rw [a, keyS_pd, toS_pd, srt_eq h.srt fun _ => Iff.rfl, sortS_uniq h.perm h.srt]
  simp
theorem pd_of {xs : List D} (h : xs.all okP = true) : ∃ t : PL, xs = t.map pd ∧ Nm2 t ∧ ∀ p ∈ t, p.1 ≠ p.2 := by
  induction xs with
  | nil => exact ⟨[], rfl, (fun _ h => by cases h), fun _ h => by cases h⟩
  | cons x xs ih =>
    rw [List.all_cons, Bool.and_eq_true] at h
    obtain ⟨a, b, rfl, ha, hb, hne⟩ := okP_iff h.1
    obtain ⟨t, rfl, h2, h3⟩ := ih h.2
    refine ⟨(a, b) :: t, rfl, fun p hp => ?_, fun p hp => ?_⟩
    · rcases List.mem_cons.mp hp with rfl | hp
      · exact ⟨ha, hb⟩
      · exact h2 p hp
    · rcases List.mem_cons.mp hp with rfl | hp
      · exact hne
      · exact h3 p hp
theorem turn_of_B {x : D} (h : turnB x = true) : ∃ t, x = tD t ∧ Turn t := by
  cases x with
  | tuple xs =>
    have h : (xs.all okP && (decide (xs.map keyS = sortS (onceS (xs.map keyS))) && decide (sortS (xs.map toS) = xs.map keyS))) = true := h
    rw [Bool.and_eq_true, Bool.and_eq_true, decide_eq_true_eq, decide_eq_true_eq] at h
    obtain ⟨t, rfl, h2, h3⟩ := pd_of h.1
    rw [keyS_pd, toS_pd] at h
    refine ⟨t, rfl, h2, h3, by rw [h.2.1]; exact srt_once _, ?_⟩
    rw [← h.2.2]
    exact (sortS_perm _).symm
  | _ => cases h
theorem fit_pd {t : PL} (h : Nm2 t) (hl : t.length ≤ 20) : Fit (tD t) := ⟨by rw [List.length_map]; exact hl, fun x hx => by
  obtain ⟨p, hp, rfl⟩ := List.mem_map.mp hx
  refine ⟨by simp, fun y hy => ?_⟩
  simp at hy
  rcases hy with rfl | rfl
  · exact (h p hp).1.fit
  · exact (h p hp).2.fit⟩
theorem Turn.fit {t : PL} (h : Turn t) (hl : t.length ≤ 20) : Fit (tD t) := fit_pd h.nm hl
theorem Turn.sure {t : PL} (h : Turn t) (hl : t.length ≤ 20) : f_sure_turns [.d (.list [tD t])] = .ok (.d .none) [some (.d (.list [tD t]))] := sure_yes _ (h.fit hl) h.isB
theorem Turn.isTurn {t : PL} (h : Turn t) (hl : t.length ≤ 20) : f_is_turn [.d (tD t)] = .ok (.d (.bool true)) [some (.d (tD t))] := by
  rw [is_turn_ok _ (h.fit hl), h.isB]
theorem Turn.sure2 {t u : PL} (h : Turn t) (k : Turn u) (hl : t.length ≤ 20) (kl : u.length ≤ 20) : f_sure_turns [.d (.list [tD t, tD u])] = .ok (.d .none) [some (.d (.list [tD t, tD u]))] := by
  have e := h.isTurn hl
  have e2 := k.isTurn kl
  have it : itemsD (.list [tD t, tD u]) = some [tD t, tD u] := rfl
  simp [f_sure_turns, m_sure_turns, fnOf, it, forGo_cons, e, e2, outsOf]
theorem items_t (t : PL) : itemsD (tD t) = some (t.map pd) := rfl
theorem led_t {t : PL} (h : Nm2 t) (s : Str) : f_led_name [.d (tD t), .d (.str s)] = .ok (.d (.str (ledP t s))) [some (.d (tD t)), some (.d (.str s))] := by
  have := led_ok (xs := t.map pd) h.prd s
  rw [led_pd] at this
  exact this
/-! ### turned back -/
def swpP (p : Str × Str) : Str × Str := (p.2, p.1)
def inv (t : PL) : PL := sortP (t.map swpP)
theorem swpG_pd (t : PL) : (t.map pd).map swpG = (t.map swpP).map pd := by
  rw [List.map_map, List.map_map]; rfl
theorem le2_keys {l : PL} (n : (keys l).Nodup) (s : l.Pairwise fun a b => le2 a b = true) : (keys l).Pairwise ltN := by
  unfold keys at *
  rw [List.pairwise_map]
  have n' : l.Pairwise fun a b => a.1 ≠ b.1 := by
    have := n
    unfold List.Nodup at this
    rwa [List.pairwise_map] at this
  refine (s.and n').imp fun {a b} ⟨h1, h2⟩ => ⟨?_, h2⟩
  unfold le2 at h1
  rwa [if_neg h2] at h1
theorem Turn.inv {t : PL} (h : Turn t) : Turn (inv t) := by
  have p := sortP_perm (t.map swpP)
  have pk : (keys (SH.inv t)).Perm (t.map (·.2)) := by
    have := p.map (·.1)
    rw [List.map_map] at this
    exact this
  have pt : ((SH.inv t).map (·.2)).Perm (keys t) := by
    have := p.map (·.2)
    rw [List.map_map] at this
    exact this
  have nd : (keys (SH.inv t)).Nodup := (pk.trans h.perm).nodup_iff.mpr (ltN_nodup h.srt)
  have mem : ∀ q ∈ SH.inv t, ∃ p ∈ t, swpP p = q := fun q hq => List.mem_map.mp (p.mem_iff.mp hq)
  refine ⟨fun q hq => ?_, fun q hq => ?_, le2_keys nd (List.pairwise_mergeSort le2_trans le2_total _), (pt.trans h.perm.symm).trans pk.symm⟩
  · obtain ⟨p, hp, rfl⟩ := mem q hq
    exact ⟨(h.nm p hp).2, (h.nm p hp).1⟩
  · obtain ⟨p, hp, rfl⟩ := mem q hq
    exact fun e => h.ne p hp e.symm
theorem inv_len (t : PL) : (inv t).length = t.length := by
  rw [show (inv t).length = (t.map swpP).length from (sortP_perm _).length_eq, List.length_map]
theorem Turn.inv_led {t : PL} (h : Turn t) (s : Str) : ledP (SH.inv t) (ledP t s) = s := by
  have pk : (keys (SH.inv t)).Perm (keys t) := by
    have := (sortP_perm (t.map swpP)).map (·.1)
    rw [List.map_map] at this
    exact this.trans h.perm
  by_cases hs : s ∈ keys t
  · obtain ⟨p, hp, rfl⟩ := List.mem_map.mp hs
    rw [ledP_in (ltN_nodup h.srt) hp]
    have : (p.2, p.1) ∈ SH.inv t := (sortP_perm _).mem_iff.mpr (List.mem_map.mpr ⟨p, hp, rfl⟩)
    exact ledP_in (ltN_nodup h.inv.srt) this
  · rw [ledP_out hs, ledP_out fun z => hs (pk.mem_iff.mp z)]
theorem Turn.led_inv {t : PL} (h : Turn t) (s : Str) : ledP t (ledP (SH.inv t) s) = s := h.inv.inj (h.inv_led _)
theorem undone_t {t : PL} (h : Nm2 t) : f_undone [.d (tD t)] = .ok (.d (tD (inv t))) [some (.d (tD t))] := by
  have lc := lcGo_pure (vs := [1, 2]) (t := (tTup 2 (tsCons (tName 1) (tsCons (tName 2) tsNil)))) (tst := mYes) (e := (mTup (mCons (mVar 2) (mCons (mVar 1) mNil)))) (p := fun _ => true) (g := swpG) (ρ := [some (.d (tD t)), none, none]) (xs := t.map pd) fun x hx => by
    obtain ⟨b, c, rfl, _⟩ := h.prd x hx
    exact ⟨[some (.d (tD t)), some (.d (.str b)), some (.d (.str c))], _, by simp, rfl, fun z => (by cases z), fun _ => ⟨_, rfl, rfl⟩⟩
  rw [filt_all, swpG_pd] at lc
  have so := sortO_pd (l := t.map swpP) fun q hq => by
    obtain ⟨p, hp, rfl⟩ := List.mem_map.mp hq
    exact ⟨(h p hp).2, (h p hp).1⟩
  generalize (t.map swpP).map pd = q at lc so
  simp [f_undone, m_undone, fnOf, items_t, dataAt, lc, backE, so, tupD, outsOf]
  rfl
theorem Turn.back {t : PL} (h : Turn t) (hl : t.length ≤ 20) : f_back_turn [.d (tD t)] = .ok (.d (tD (SH.inv t))) [some (.d (tD t))] := by
  simp [f_back_turn, m_back_turn, fnOf, h.sure hl, undone_t h.nm, outsOf]
/-! ### from tables -/
def mvD (f : Str → Str) (s : Str) : Key × D := (.inr s, .str (f s))
def mvP (f : Str → Str) (s : Str) : D := .tuple [.str s, .str (f s)]
def mvG (f : Str → Str) : D → List D
  | .str s => [mvP f s]
  | _ => []
theorem cells_mv (f : Str → Str) (ks : List Str) : cells ((ks.map (mvD f)).map fun p => (kD p.1, p.2)) = none := by
  match ks with
  | [] => rfl
  | [_] => rfl
  | _ :: _ :: _ => rfl
theorem items_mv (f : Str → Str) (ks : List Str) : itemsP (dK (ks.map (mvD f))) = some (ks.map (mvP f)) := by
  have : itemsP (dK (ks.map (mvD f))) = (match cells ((ks.map (mvD f)).map fun p => (kD p.1, p.2)) with
    | some _ => none
    | none => some (((ks.map (mvD f)).map fun p => (kD p.1, p.2)).map fun p => .tuple [p.1, p.2])) := rfl
  rw [this, cells_mv]
  simp only [List.map_map]
  rfl
theorem mkT_perm {f : Str → Str} {ks : List Str} (n : ks.Nodup) : ((ks.filter fun s => !decide (s = f s)).map fun s => (s, f s)).Perm (mkT f ks) := by
  unfold mkT
  refine (List.Perm.filter _ ?_).map _
  refine (List.perm_ext_iff_of_nodup n ((sortS_perm _).nodup_iff.mpr (once_nd ks))).mpr fun x => mem_srt.symm
theorem mkT_le2 (f : Str → Str) (l : List Str) : (mkT f l).Pairwise fun a b => le2 a b = true := by
  have h := keysMk_srt f l
  unfold keys at h
  rw [List.pairwise_map] at h
  refine h.imp fun {a b} ⟨h1, h2⟩ => ?_
  unfold le2
  rw [if_neg h2]
  exact h1
theorem turn_from_ok {f : Str → Str} {ks : List Str} (n : ks.Nodup) (h : ∀ s ∈ ks, NmS s ∧ NmS (f s)) : f_turn_from [.d (dK (ks.map (mvD f)))] = .ok (.d (tD (mkT f ks))) [some (.d (dK (ks.map (mvD f))))] := by
  generalize hd : dK (ks.map (mvD f)) = d
  have it : itemsP d = some (ks.map (mvP f)) := by rw [← hd]; exact items_mv f ks
  have lc := lcGo_pure (vs := [1, 2]) (t := (tTup 2 (tsCons (tName 1) (tsCons (tName 2) tsNil)))) (tst := p1_turn_from) (e := e2_turn_from) (p := fun x => !decide (keyS x = toS x)) (g := id) (ρ := [some (.d d), none, none]) (xs := ks.map (mvP f)) fun x hx => by
    obtain ⟨s, hs, rfl⟩ := List.mem_map.mp hx
    exact ⟨[some (.d d), some (.d (.str s)), some (.d (.str (f s)))], [some (.d d), some (.d (.str s)), some (.d (.str (f s)))], by simp [mvP], by simp [ne_s, keyS, keyD, toS, toD, mvP]; exact decide_eq_decide.mpr Iff.rfl, fun _ => rfl, fun _ => ⟨_, rfl, rfl⟩⟩
  have e1 : ((ks.map (mvP f)).filter fun x => !decide (keyS x = toS x)).map id = ((ks.filter fun s => !decide (s = f s)).map fun s => (s, f s)).map pd := by
    rw [List.map_id, List.filter_map, List.map_map]
    rfl
  rw [e1] at lc
  have so := sortO_pd (l := (ks.filter fun s => !decide (s = f s)).map fun s => (s, f s)) fun q hq => by
    obtain ⟨s, hs, rfl⟩ := List.mem_map.mp hq
    exact h s (List.mem_filter.mp hs).1
  rw [sortP_eq (mkT_perm n).symm (mkT_le2 f ks)] at so
  generalize ((ks.filter fun s => !decide (s = f s)).map fun s => (s, f s)).map pd = q at lc so
  simp [f_turn_from, m_turn_from, fnOf, it, dataAt, lc, backE, so, tupD, outsOf]
  rfl
/-- a table's keys, as they came -/
theorem kds_mv (f : Str → Str) (l : List Str) : ∃ ks : List Str, kdsOf (l.map (mvP f)) = ks.map (mvD f) ∧ ks.Nodup ∧ (∀ x, x ∈ ks ↔ x ∈ l) ∧ ks.length ≤ l.length := by
  have gen : ∀ (l : List Str) (ks : List Str), ks.Nodup → ∃ ks' : List Str, (l.map (mvP f)).foldl putP (ks.map (mvD f)) = ks'.map (mvD f) ∧ ks'.Nodup ∧ (∀ x, x ∈ ks' ↔ x ∈ ks ∨ x ∈ l) ∧ ks'.length ≤ ks.length + l.length := by
    intro l
    induction l with
    | nil => intro ks n; exact ⟨ks, rfl, n, fun x => by simp, by simp⟩
    | cons s l ih =>
      intro ks n
      have e : putP (ks.map (mvD f)) (mvP f s) = (if s ∈ ks then ks else ks ++ [s]).map (mvD f) := by
        show putKD (ks.map (mvD f)) (.inr s) (.str (f s)) = _
        unfold putKD
        have ea : ((ks.map (mvD f)).any fun p => decide (p.1 = .inr s)) = decide (s ∈ ks) := by
          rw [List.any_map]
          induction ks with
          | nil => rfl
          | cons k ks ihk =>
            rw [List.any_cons, ihk (List.nodup_cons.mp n).2]
            by_cases hk : k = s
            · subst hk; simp [mvD]
            · have : ¬ s = k := fun e => hk e.symm
              simp [mvD, hk, this]
        rw [ea]
        by_cases hs : s ∈ ks
        · rw [if_pos (by simpa using hs), if_pos hs, List.map_map]
          refine List.map_congr_left fun k hk => ?_
          show (if (mvD f k).1 = .inr s then ((mvD f k).1, PyData.str (f s)) else mvD f k) = mvD f k
          by_cases e : k = s
          · subst e; rw [if_pos (show (mvD f k).1 = .inr k from rfl)]; rfl
          · rw [if_neg]
            intro z
            exact e (by injection z)
        · rw [if_neg (by simpa using hs), if_neg hs, List.map_append]
          rfl
      rw [List.map_cons, List.foldl_cons, e]
      obtain ⟨ks', h1, h2, h3, h4⟩ := ih (if s ∈ ks then ks else ks ++ [s]) (by
        split
        · exact n
        · rename_i hs
          exact List.nodup_append.mpr ⟨n, by simp, fun x hx y hy => by simp at hy; subst hy; exact fun e => hs (e ▸ hx)⟩)
      refine ⟨ks', h1, h2, fun x => ?_, ?_⟩
      · rw [h3, List.mem_cons]
        split
        · rename_i hs
          exact ⟨fun z => z.elim .inl fun z => .inr (.inr z), fun z => z.elim .inl fun z => z.elim (fun z => .inl (z ▸ hs)) .inr⟩
        · rw [List.mem_append, List.mem_singleton]
          exact ⟨fun z => z.elim (fun z => z.elim .inl fun z => .inr (.inl z)) fun z => .inr (.inr z), fun z => z.elim (fun z => .inl (.inl z)) fun z => z.elim (fun z => .inl (.inr z)) .inr⟩
      · rw [List.length_cons]
        split at h4
        · omega
        · rw [List.length_append] at h4; simp at h4; omega
  obtain ⟨ks, h1, h2, h3, h4⟩ := gen l [] .nil
  exact ⟨ks, h1, h2, fun x => by rw [h3]; simp, by simpa using h4⟩
theorem mkT_mem {f : Str → Str} {l m : List Str} (e : ∀ x, x ∈ l ↔ x ∈ m) : mkT f l = mkT f m := by
  have : sortS (onceS l) = sortS (onceS m) := srt_eq (srt_once m) fun x => mem_srt.trans (e x).symm
  unfold mkT
  rw [this]
/-! ### both -/
def both (t u : PL) : PL := mkT (fun s => ledP u (ledP t s)) (keys t ++ keys u)
theorem both_out {t u : PL} {s : Str} (h : s ∉ keys t ++ keys u) : ledP u (ledP t s) = s := by
  rw [List.mem_append, not_or] at h
  rw [ledP_out h.1, ledP_out h.2]
theorem both_led (t u : PL) (s : Str) : ledP (both t u) s = ledP u (ledP t s) := ledP_mk (fun _ h => both_out h) s
theorem keys_nm2 {t : PL} (h : Nm2 t) : ∀ s ∈ keys t, NmS s := fun s hs => by
  obtain ⟨p, hp, rfl⟩ := List.mem_map.mp hs
  exact (h p hp).1
theorem led_nm2 {t : PL} (h : Nm2 t) {s : Str} (hs : NmS s) : NmS (ledP t s) := by
  induction t with
  | nil => exact hs
  | cons p r ih =>
    show NmS (if p.1 = s then p.2 else ledP r s)
    split
    · exact (h p List.mem_cons_self).2
    · exact ih fun q hq => h q (List.mem_cons_of_mem _ hq)
theorem Turn.both {t u : PL} (h : Turn t) (k : Turn u) : Turn (both t u) := turn_mk (fun s hs => (List.mem_append.mp hs).elim (keys_nm2 h.nm s) (keys_nm2 k.nm s)) (fun _ h => both_out h) fun a b e => h.inj (k.inj e)
theorem keysC {t : PL} {ρ1 ρ2 : List (Option OV)} (hρ : ∃ a b c, ρ1 = [a, b, c, none, none] ∧ ρ2 = ρ1) : lcGo [3, 4] (tTup 2 (tsCons (tName 3) (tsCons (tName 4) tsNil))) mYes (mVar 3) (t.map pd) ρ1 = .ok ((keys t).map .str) ρ2 := by
  obtain ⟨a, b, c, rfl, rfl⟩ := hρ
  have lc := lcGo_pure (vs := [3, 4]) (t := (tTup 2 (tsCons (tName 3) (tsCons (tName 4) tsNil)))) (tst := mYes) (e := mVar 3) (p := fun _ => true) (g := fun x => .str (keyS x)) (ρ := [a, b, c, none, none]) (xs := t.map pd) fun x hx => by
    obtain ⟨p, hp, rfl⟩ := List.mem_map.mp hx
    exact ⟨[a, b, c, some (.d (.str p.1)), some (.d (.str p.2))], [a, b, c, some (.d (.str p.1)), some (.d (.str p.2))], by simp [pd], rfl, fun z => (by cases z), fun _ => ⟨[a, b, c, some (.d (.str p.1)), some (.d (.str p.2))], rfl, rfl⟩⟩
  rw [filt_all] at lc
  rw [lc]
  congr 1
  rw [List.map_map]
  unfold keys
  rw [List.map_map]
  rfl
theorem both_ok {t u : PL} (h : Nm2 t) (k : Nm2 u) (hl : t.length + u.length ≤ 1000) : f_both_turns [.d (tD t), .d (tD u)] = .ok (.d (tD (both t u))) [some (.d (tD t)), some (.d (tD u))] := by
  have kt := keysC (t := t) (ρ1 := [some (.d (tD t)), some (.d (tD u)), none, none, none]) ⟨_, _, _, rfl, rfl⟩
  have ku := keysC (t := u) (ρ1 := [some (.d (tD t)), some (.d (tD u)), none, none, none]) ⟨_, _, _, rfl, rfl⟩
  have ad : addD (.list ((keys t).map .str)) (.list ((keys u).map .str)) = some (.list ((keys t ++ keys u).map .str)) := by
    rw [add_l (by unfold keys; simp; exact hl), List.map_append]
  have kl : (keys t ++ keys u).length ≤ 1000 := by unfold keys; simp; exact hl
  have hn : ∀ s ∈ keys t ++ keys u, NmS s := fun s hs => (List.mem_append.mp hs).elim (keys_nm2 h s) (keys_nm2 k s)
  obtain ⟨ks, k1, k2, k3, k4⟩ := kds_mv (fun s => ledP u (ledP t s)) (keys t ++ keys u)
  have lp := cLoop_pure (c := ⟨[3], tName 3, mYes⟩) (b := cEnd (mPairE (mVar 3) e1_both_turns)) (p := fun _ => true) (g := mvG fun s => ledP u (ledP t s)) (ρ := [some (.d (tD t)), some (.d (tD u)), some (.d (.list ((keys t ++ keys u).map .str))), none, none]) (xs := (keys t ++ keys u).map .str) fun x hx => by
    obtain ⟨s, hs, rfl⟩ := List.mem_map.mp hx
    refine ⟨[some (.d (tD t)), some (.d (tD u)), some (.d (.list ((keys t ++ keys u).map .str))), some (.d (.str s)), none], _, by simp, rfl, fun z => (by cases z), fun _ => ⟨[some (.d (tD t)), some (.d (tD u)), some (.d (.list ((keys t ++ keys u).map .str))), some (.d (.str s)), none], ?_, rfl⟩⟩
    simp [cEnd, mPairE, led_t h, led_t k, DL.keyOf, mvP, mvG]
  have fm : (((keys t ++ keys u).map PyData.str).filter fun _ => true).flatMap (mvG fun s => ledP u (ledP t s)) = (keys t ++ keys u).map (mvP fun s => ledP u (ledP t s)) := by
    rw [filt_all]
    generalize keys t ++ keys u = l
    induction l with
    | nil => rfl
    | cons s l ih => rw [List.map_cons, List.flatMap_cons, ih]; rfl
  rw [fm] at lp
  have big := size_big
  have dc := mDc_of (vs := [3]) (it := mItems (mVar 2)) (t := tName 3) (tst := mYes) (k := mVar 3) (v := e1_both_turns) (ρ := [some (.d (tD t)), some (.d (tD u)), some (.d (.list ((keys t ++ keys u).map .str))), none, none]) (ρ1 := [some (.d (tD t)), some (.d (tD u)), some (.d (.list ((keys t ++ keys u).map .str))), none, none]) (xs := (keys t ++ keys u).map .str) (ys := (keys t ++ keys u).map (mvP fun s => ledP u (ledP t s))) (by simp [itemsD]) (by rfl) lp (by rw [List.length_map]; omega)
  rw [k1] at dc
  have tf := turn_from_ok (f := fun s => ledP u (ledP t s)) k2 fun s hs => ⟨hn s ((k3 s).mp hs), led_nm2 k (led_nm2 h (hn s ((k3 s).mp hs)))⟩
  rw [mkT_mem k3] at tf
  generalize (keys t ++ keys u).map PyData.str = nl at ad dc
  generalize ks.map (mvD fun s => ledP u (ledP t s)) = kd at dc tf
  simp [f_both_turns, m_both_turns, fnOf, items_t, dataAt, kt, ku, backE, ad]
  simp [dc, backE, tf, outsOf, both]
/-! ### one exchange -/
def swN (a b s : Str) : Str := if s = a then b else if s = b then a else s
def swT (a b : Str) : PL := mkT (swN a b) [a, b]
theorem swN_inv (a b s : Str) : swN a b (swN a b s) = s := by
  unfold swN
  by_cases h : s = a
  · subst h
    by_cases k : b = s
    · simp [k]
    · simp [k]
  · by_cases k : s = b
    · subst k; simp [h]
    · simp [h, k]
theorem swN_inj {a b x y : Str} (e : swN a b x = swN a b y) : x = y := by rw [← swN_inv a b x, e, swN_inv]
theorem swN_out {a b s : Str} (h : s ∉ [a, b]) : swN a b s = s := by
  simp at h
  unfold swN
  rw [if_neg h.1, if_neg h.2]
theorem swT_turn {a b : Str} (ha : NmS a) (hb : NmS b) : Turn (swT a b) := turn_mk (fun s hs => by simp at hs; rcases hs with rfl | rfl <;> assumption) (fun _ h => swN_out h) fun _ _ => swN_inj
theorem swT_led (a b s : Str) : ledP (swT a b) s = swN a b s := ledP_mk (fun _ h => swN_out h) s
theorem swap_ok {a b : Str} (ha : NmS a) (hb : NmS b) : f_swap_of [.d (.str a), .d (.str b)] = .ok (.d (tD (swT a b))) [some (.d (.str a)), some (.d (.str b))] := by
  have nm : ∀ s ∈ [a, b], NmS s ∧ NmS (swN a b s) := fun s hs => by
    simp at hs
    rcases hs with rfl | rfl
    · refine ⟨ha, ?_⟩
      unfold swN; rw [if_pos rfl]; exact hb
    · refine ⟨hb, ?_⟩
      unfold swN
      split
      · exact hb
      · rw [if_pos rfl]; exact ha
  have ex : ∃ ks : List Str, mergeKD [] [(.inr a, .str b), (.inr b, .str a)] = ks.map (mvD (swN a b)) ∧ ks.Nodup ∧ ∀ x, x ∈ ks ↔ x ∈ [a, b] := by
    by_cases e : a = b
    · subst e
      refine ⟨[a], ?_, by simp, fun x => by simp⟩
      simp [mergeKD, putKD, mvD, swN]
    · have e' : ¬ b = a := fun z => e z.symm
      refine ⟨[a, b], ?_, by simp [e], fun x => Iff.rfl⟩
      simp [mergeKD, putKD, mvD, swN, e, e']
  obtain ⟨ks, k1, k2, k3⟩ := ex
  have tf := turn_from_ok (f := swN a b) k2 fun s hs => nm s ((k3 s).mp hs)
  rw [mkT_mem k3] at tf
  have md : ∀ ρ : DL.Env, ρ[0]? = some (some (.d (.str a))) → ρ[1]? = some (some (.d (.str b))) → mDict (mConsP (mVar 0) (mVar 1) (mConsP (mVar 1) (mVar 0) mNilP)) ρ = .ok (dK (ks.map (mvD (swN a b)))) ρ := fun ρ h0 h1 => by
    unfold mDict mConsP mNilP
    simp [h0, h1, DL.keyOf, k1]
  simp [f_swap_of, m_swap_of, fnOf, md, tf, outsOf, swT]
end SH
end
section
set_option maxRecDepth 100000
set_option maxHeartbeats 0
set_option exponentiation.threshold 3000
namespace SH
open PySem PySem.Spec PyProof.Rows L2 DL
theorem fn_ex {n np : Nat} {fx : List Nat} {m : M Fl} {os : List OV} {ξ : Exc} {ρ' : DL.Env} (hl : os.length = np) (h : m (os.map some ++ List.replicate (n - np) none) = .ex ξ ρ') : fnOf n np fx m os = .ex ξ := by
  unfold fnOf
  rw [if_pos hl, h]
theorem seq_ex {a b : M Fl} {ρ ρ1 : DL.Env} {ξ : Exc} (h : a ρ = .ex ξ ρ1) : sSeq a b ρ = .ex ξ ρ1 := by
  rw [sSeq_d, h]; rfl
theorem seq_rt {a b : M Fl} {ρ ρ1 : DL.Env} {o : OV} (h : a ρ = .ok (.rt o) ρ1) : sSeq a b ρ = .ok (.rt o) ρ1 := by
  rw [sSeq_d, h]; rfl
/-! ### exchanges one behind the other -/
def swF (sw : PL) (s : Str) : Str := sw.foldl (fun s p => swN p.1 p.2 s) s
def turnOf (sw : PL) : PL := sw.foldl (fun t p => both t (swT p.1 p.2)) []
theorem fold_both (sw : PL) : ∀ (t : PL), Turn t → Nm2 sw → Turn (sw.foldl (fun t p => both t (swT p.1 p.2)) t) ∧ ∀ s, ledP (sw.foldl (fun t p => both t (swT p.1 p.2)) t) s = swF sw (ledP t s) := by
  induction sw with
  | nil => exact fun t h _ => ⟨h, fun s => rfl⟩
  | cons p sw ih =>
    intro t h k
    have kp := k p List.mem_cons_self
    obtain ⟨h1, h2⟩ := ih (both t (swT p.1 p.2)) (h.both (swT_turn kp.1 kp.2)) fun q hq => k q (List.mem_cons_of_mem _ hq)
    refine ⟨h1, fun s => ?_⟩
    rw [List.foldl_cons, h2, both_led, swT_led]
    rfl
theorem turnOf_turn {sw : PL} (h : Nm2 sw) : Turn (turnOf sw) := (fold_both sw [] turn_nil h).1
theorem turnOf_led {sw : PL} (h : Nm2 sw) (s : Str) : ledP (turnOf sw) s = swF sw s := (fold_both sw [] turn_nil h).2 s
theorem swF_out {sw : PL} {s : Str} (h : ∀ p ∈ sw, p.1 ≠ s ∧ p.2 ≠ s) : swF sw s = s := by
  induction sw with
  | nil => rfl
  | cons p sw ih =>
    have hp := h p List.mem_cons_self
    show swF sw (swN p.1 p.2 s) = s
    rw [swN_out (by simp; exact ⟨fun e => hp.1 e.symm, fun e => hp.2 e.symm⟩)]
    exact ih fun q hq => h q (List.mem_cons_of_mem _ hq)
theorem Turn.moved {t : PL} (h : Turn t) {s : Str} : s ∈ keys t ↔ ledP t s ≠ s := by
  constructor
  · intro hs
    obtain ⟨p, hp, rfl⟩ := List.mem_map.mp hs
    rw [ledP_in (ltN_nodup h.srt) hp]
    exact fun e => h.ne p hp e.symm
  · intro hs
    by_cases k : s ∈ keys t
    · exact k
    · exact absurd (ledP_out k) hs
theorem keys_len (t : PL) : (keys t).length = t.length := by unfold keys; rw [List.length_map]
theorem Turn.few {t : PL} (h : Turn t) {l : List Str} (hl : ∀ s, s ∉ l → ledP t s = s) : t.length ≤ l.length := by
  rw [← keys_len]
  refine nodup_le (ltN_nodup h.srt) fun s hs => ?_
  by_cases k : s ∈ l
  · exact k
  · exact absurd (hl s k) (h.moved.mp hs)
theorem turnOf_few {sw : PL} (h : Nm2 sw) {l : List Str} (hl : ∀ p ∈ sw, p.1 ∈ l ∧ p.2 ∈ l) : (turnOf sw).length ≤ l.length :=
  (turnOf_turn h).few fun s hs => by
    rw [turnOf_led h]
    exact swF_out fun p hp => ⟨fun e => hs (e ▸ (hl p hp).1), fun e => hs (e ▸ (hl p hp).2)⟩
def names2 (sw : PL) : List Str := sw.map (·.1) ++ sw.map (·.2)
theorem names2_len (sw : PL) : (names2 sw).length = 2 * sw.length := by unfold names2; rw [List.length_append, List.length_map, List.length_map]; omega
theorem names2_in {sw : PL} : ∀ p ∈ sw, p.1 ∈ names2 sw ∧ p.2 ∈ names2 sw := fun p hp => ⟨List.mem_append.mpr (.inl (List.mem_map_of_mem hp)), List.mem_append.mpr (.inr (List.mem_map_of_mem hp))⟩
theorem turnOf_len {sw : PL} (h : Nm2 sw) : (turnOf sw).length ≤ 2 * sw.length := by
  rw [← names2_len]
  exact turnOf_few h names2_in
theorem swT_len {a b : Str} (ha : NmS a) (hb : NmS b) : (swT a b).length ≤ 2 := (swT_turn ha hb).few (l := [a, b]) fun s hs => by rw [swT_led]; exact swN_out hs
theorem turnOf_snoc (sw : PL) (p : Str × Str) : turnOf (sw ++ [p]) = both (turnOf sw) (swT p.1 p.2) := by
  unfold turnOf; rw [List.foldl_append]; rfl
/-- a pair of anything -/
def Pr2 (x : D) : Prop := ∃ a b, x = .tuple [a, b] ∧ FitM a ∧ FitM b
def nm2B : D → Bool
  | .tuple [a, b] => nmB a && nmB b
  | _ => false
def nm2G : D → List D
  | .tuple [a, b] => [.bool (nmB a), .bool (nmB b)]
  | _ => []
theorem names_check {xs : List D} (h : ∀ x ∈ xs, Pr2 x) (hl : xs.length ≤ 400) (w : OV) (hw : w = .d (.list xs)) : mF1 allD (mLstF (mLc2 [1, 2] (mItems (mVar 0)) (tName 1) mYes [2] (mItems (mVar 1)) (tName 2) mYes e1_turn_of)) [some w, none, none, none, none] = .ok (.bool (xs.all nm2B)) [some w, none, none, none, none] := by
  subst hw
  have lp := cLoop_pure (c := ⟨[1, 2], tName 1, mYes⟩) (b := cIn ⟨[2], tName 2, mYes⟩ (mItems (mVar 1)) (cEnd e1_turn_of)) (p := fun _ => true) (g := nm2G) (ρ := [some (.d (.list xs)), none, none, none, none]) (xs := xs) fun x hx => by
    obtain ⟨a, b, rfl, ha, hb⟩ := h x hx
    refine ⟨[some (.d (.list xs)), some (.d (.tuple [a, b])), none, none, none], [some (.d (.list xs)), some (.d (.tuple [a, b])), none, none, none], by simp, rfl, fun z => (by cases z), fun _ => ⟨[some (.d (.list xs)), some (.d (.tuple [a, b])), none, none, none], ?_, rfl⟩⟩
    have inn := cLoop_pure (c := ⟨[2], tName 2, mYes⟩) (b := cEnd e1_turn_of) (p := fun _ => true) (g := fun y => [.bool (nmB y)]) (ρ := [some (.d (.list xs)), some (.d (.tuple [a, b])), none, none, none]) (xs := [a, b]) fun y hy => by
      have fy : FitM y := by
        simp at hy
        rcases hy with rfl | rfl <;> assumption
      refine ⟨[some (.d (.list xs)), some (.d (.tuple [a, b])), some (.d y), none, none], [some (.d (.list xs)), some (.d (.tuple [a, b])), some (.d y), none, none], by simp, rfl, fun z => (by cases z), fun _ => ⟨[some (.d (.list xs)), some (.d (.tuple [a, b])), some (.d y), none, none], ?_, rfl⟩⟩
      simp [cEnd, is_name_ok y fy]
    have it : itemsD (.tuple [a, b]) = some [a, b] := rfl
    unfold cIn
    simp [it]
    exact inn
  rw [filt_all] at lp
  have big := size_big
  have hlen : (xs.flatMap nm2G).length ≤ 2 * xs.length := by
    clear lp hl
    induction xs with
    | nil => exact Nat.le_refl _
    | cons x xs ih =>
      obtain ⟨a, b, rfl, _⟩ := h x List.mem_cons_self
      have := ih fun y hy => h y (List.mem_cons_of_mem _ hy)
      rw [List.flatMap_cons, List.length_append, List.length_cons]
      show 2 + _ ≤ _
      omega
  have m1 := mLcN_of (c := ⟨[1, 2], tName 1, mYes⟩) (it := mItems (mVar 0)) (b := cIn ⟨[2], tName 2, mYes⟩ (mItems (mVar 1)) (cEnd e1_turn_of)) (ρ := [some (.d (.list xs)), none, none, none, none]) (ρ1 := [some (.d (.list xs)), none, none, none, none]) (xs := xs) (ys := xs.flatMap nm2G) (by simp [itemsD]) rfl lp
  have m2 := mLc2_of m1 (by omega)
  have al : allD (.list (xs.flatMap nm2G)) = some (.bool (xs.all nm2B)) := by
    have b1 : boolsD (xs.flatMap nm2G) = some (xs.flatMap fun x => match x with | .tuple [a, b] => [nmB a, nmB b] | _ => []) := by
      clear lp hlen m1 m2 hl
      induction xs with
      | nil => rfl
      | cons x xs ih =>
        obtain ⟨a, b, rfl, _⟩ := h x List.mem_cons_self
        have ih := ih fun y hy => h y (List.mem_cons_of_mem _ hy)
        rw [List.flatMap_cons, List.flatMap_cons]
        show ((boolsD (.bool (nmB b) :: xs.flatMap nm2G)).map _) = _
        show (((boolsD (xs.flatMap nm2G)).map _).map _) = _
        rw [ih]
        rfl
    show (boolsD _).map _ = _
    rw [b1]
    show some (PyData.bool _) = _
    congr 2
    clear b1 lp hlen m1 m2 hl
    induction xs with
    | nil => rfl
    | cons x xs ih =>
      obtain ⟨a, b, rfl, _⟩ := h x List.mem_cons_self
      have ih := ih fun y hy => h y (List.mem_cons_of_mem _ hy)
      rw [List.flatMap_cons, List.all_append, List.all_cons, ih]
      show ((nmB a && (nmB b && true)) && _) = ((nmB a && nmB b) && _)
      rw [Bool.and_true]
  simp [m2, backE, al]
theorem turn_of_no {xs : List D} (h : ∀ x ∈ xs, Pr2 x) (hl : xs.length ≤ 400) (hb : xs.all nm2B = false) : f_turn_of [.d (.list xs)] = .ex ⟨.own "NoName", []⟩ := by
  have nc := names_check h hl _ rfl
  have e : mIf (mNot (mB (mF1 allD (mLstF (mLc2 [1, 2] (mItems (mVar 0)) (tName 1) mYes [2] (mItems (mVar 1)) (tName 2) mYes e1_turn_of))))) (sRaise "NoName") sNil [some (.d (.list xs)), none, none, none, none] = .ex ⟨.own "NoName", []⟩ [some (.d (.list xs)), none, none, none, none] := by
    show (((( _ : Res D).bind _).bind _).bind _) = _
    rw [nc, hb]
    rfl
  exact fn_ex rfl (seq_ex e)
theorem pr2_pd {t : PL} (h : Nm2 t) : ∀ x ∈ t.map pd, Pr2 x := fun x hx => by
  obtain ⟨p, hp, rfl⟩ := List.mem_map.mp hx
  exact ⟨_, _, rfl, (h p hp).1.fit, (h p hp).2.fit⟩
theorem turn_of_ok {sw : PL} (h : Nm2 sw) (hl : sw.length ≤ 400) : f_turn_of [.d (.list (sw.map pd))] = .ok (.d (tD (turnOf sw))) [some (.d (.list (sw.map pd)))] := by
  have nc := names_check (pr2_pd h) (by rw [List.length_map]; exact hl) _ rfl
  have ha : (sw.map pd).all nm2B = true := List.all_eq_true.mpr fun x hx => by
    obtain ⟨p, hp, rfl⟩ := List.mem_map.mp hx
    simp [pd, nm2B, nmB_of (h p hp).1, nmB_of (h p hp).2]
  have e : mIf (mNot (mB (mF1 allD (mLstF (mLc2 [1, 2] (mItems (mVar 0)) (tName 1) mYes [2] (mItems (mVar 1)) (tName 2) mYes e1_turn_of))))) (sRaise "NoName") sNil [some (.d (.list (sw.map pd))), none, none, none, none] = .ok .nx [some (.d (.list (sw.map pd))), none, none, none, none] := by
    show (((( _ : Res D).bind _).bind _).bind _) = _
    rw [nc, ha]
    rfl
  obtain ⟨ρ', f1, w2, w4, rfl⟩ := forGo_inv (t := tTup 2 (tsCons (tName 2) (tsCons (tName 4) tsNil))) (b := b2_turn_of) (xs := sw.map pd) (ρ := [some (.d (.list (sw.map pd))), none, none, some (.d (.tuple [])), none])
    (fun i ρ => ∃ w2 w4, ρ = [some (.d (.list (sw.map pd))), none, w2, some (.d (tD (turnOf (sw.take i)))), w4]) ⟨none, none, rfl⟩ fun i x ρ hx ⟨w2, w4, e⟩ => by
      subst e
      rw [List.getElem?_map] at hx
      obtain ⟨p, hp, rfl⟩ := Option.map_eq_some_iff.mp hx
      have hm := h p (List.mem_of_getElem? hp)
      have ht : Nm2 (sw.take i) := fun q hq => h q (List.mem_of_mem_take hq)
      have l1 := turnOf_len ht
      have l2 := swT_len hm.1 hm.2
      have l3 : (sw.take i).length ≤ 400 := by rw [List.length_take]; omega
      have bo := both_ok (t := turnOf (sw.take i)) (u := swT p.1 p.2) (turnOf_turn ht).nm (swT_turn hm.1 hm.2).nm (by omega)
      have tk : sw.take (i + 1) = sw.take i ++ [p] := by
        rw [List.take_add_one, hp]; rfl
      rw [tk, turnOf_snoc]
      refine ⟨[some (.d (.list (sw.map pd))), none, some (.d (.str p.1)), some (.d (tD (turnOf (sw.take i)))), some (.d (.str p.2))], [some (.d (.list (sw.map pd))), none, some (.d (.str p.1)), some (.d (tD (both (turnOf (sw.take i)) (swT p.1 p.2)))), some (.d (.str p.2))], ?_, ?_, some (.d (.str p.1)), some (.d (.str p.2)), rfl⟩
      · simp [pd]
      · simp [swap_ok hm.1 hm.2, bo]
  rw [List.length_map, List.take_length] at f1
  have it : itemsD (.list (sw.map pd)) = some (sw.map pd) := rfl
  refine fn_ok (ρ' := [some (.d (.list (sw.map pd))), none, w2, some (.d (tD (turnOf sw))), w4]) rfl ?_ rfl
  unfold m_turn_of
  generalize sw.map pd = xs at *
  refine (seq_nx (ρ1 := [some (.d (.list xs)), none, none, none, none]) e).trans ?_
  rw [seq_nx (ρ1 := [some (.d (.list xs)), none, none, some (.d (.tuple [])), none]) (by simp)]
  rw [seq_nx (ρ1 := [some (.d (.list xs)), none, w2, some (.d (tD (turnOf sw))), w4]) (by simp [it]; exact f1)]
  simp
/-! ### the law's own walk -/
theorem law_led_ok {sw : PL} (s : Str) : f__law_led [.d (.list (sw.map pd)), .d (.str s)] = .ok (.d (.str (swF sw s))) [some (.d (.list (sw.map pd))), some (.d (.str s))] := by
  obtain ⟨ρ', f1, w2, w3, rfl⟩ := forGo_inv (t := tTup 2 (tsCons (tName 2) (tsCons (tName 3) tsNil))) (b := b1__law_led) (xs := sw.map pd) (ρ := [some (.d (.list (sw.map pd))), some (.d (.str s)), none, none])
    (fun i ρ => ∃ w2 w3, ρ = [some (.d (.list (sw.map pd))), some (.d (.str (swF (sw.take i) s))), w2, w3]) ⟨none, none, rfl⟩ fun i x ρ hx ⟨w2, w3, e⟩ => by
      subst e
      rw [List.getElem?_map] at hx
      obtain ⟨p, hp, rfl⟩ := Option.map_eq_some_iff.mp hx
      have tk : sw.take (i + 1) = sw.take i ++ [p] := by
        rw [List.take_add_one, hp]; rfl
      have e2 : swF (sw.take (i + 1)) s = swN p.1 p.2 (swF (sw.take i) s) := by
        rw [tk]
        unfold swF
        rw [List.foldl_append]
        rfl
      rw [e2]
      generalize swF (sw.take i) s = z
      refine ⟨[some (.d (.list (sw.map pd))), some (.d (.str z)), some (.d (.str p.1)), some (.d (.str p.2))], [some (.d (.list (sw.map pd))), some (.d (.str (swN p.1 p.2 z))), some (.d (.str p.1)), some (.d (.str p.2))], by simp [pd], ?_, some (.d (.str p.1)), some (.d (.str p.2)), rfl⟩
      unfold swN
      by_cases h : z = p.1
      · simp [eq_s, h]
      · by_cases k : z = p.2
        · have hk : ¬ p.2 = p.1 := fun e => h (k.trans e)
          simp [eq_s, k, hk]
        · simp [eq_s, h, k]
  rw [List.length_map, List.take_length] at f1
  have it : itemsD (.list (sw.map pd)) = some (sw.map pd) := rfl
  simp [f__law_led, m__law_led, fnOf, it]
  simp [f1, outsOf]
end SH
end
section
set_option maxRecDepth 100000
set_option maxHeartbeats 0
set_option exponentiation.threshold 3000
namespace SH
open PySem PySem.Spec PyProof.Rows L2 DL
/-! ### turns compared -/
theorem eqv_pd (p q : Str × Str) : PyData.eqv (pd p) (pd q) = decide (p = q) := by
  unfold pd
  rw [PyData.eqv, PyData.eqvAll, PyData.eqvAll, PyData.eqvAll, eqv_str, eqv_str]
  obtain ⟨a, b⟩ := p
  obtain ⟨c, d⟩ := q
  by_cases h : a = c <;> by_cases k : b = d <;> simp [h, k]
theorem eqvAll_pd : ∀ a b : PL, PyData.eqvAll (a.map pd) (b.map pd) = decide (a = b)
  | [], [] => by rw [List.map_nil, PyData.eqvAll]; rfl
  | [], q :: b => by rw [List.map_nil, List.map_cons, PyData.eqvAll]; simp
  | p :: a, [] => by rw [List.map_nil, List.map_cons, PyData.eqvAll]; simp
  | p :: a, q :: b => by
    rw [List.map_cons, List.map_cons, PyData.eqvAll, eqv_pd, eqvAll_pd a b]
    by_cases h : p = q <;> by_cases k : a = b <;> simp [h, k]
theorem shaped_pd {t : PL} (h : Nm2 t) : SeqAt.shaped (.list (t.map pd)) = true := shaped_list fun x hx => (h.prd x hx).lay
theorem shaped_tD {t : PL} (h : Nm2 t) : SeqAt.shaped (tD t) = true := shaped_pd h
theorem eq_t {t u : PL} (h : Nm2 t) (k : Nm2 u) : eqD (tD t) (tD u) = some (.bool (decide (t = u))) := by
  have : eqD (tD t) (tD u) = if SeqAt.shaped (tD t) = true ∧ SeqAt.shaped (tD u) = true then some (.bool (PyData.eqv (tD t) (tD u))) else none := rfl
  rw [this, if_pos ⟨shaped_tD h, shaped_tD k⟩]
  unfold tD
  rw [PyData.eqv, eqvAll_pd]
theorem ne_t {t u : PL} (h : Nm2 t) (k : Nm2 u) : neD (tD t) (tD u) = some (.bool (!decide (t = u))) := by
  have : neD (tD t) (tD u) = if SeqAt.shaped (tD t) = true ∧ SeqAt.shaped (tD u) = true then some (.bool (!PyData.eqv (tD t) (tD u))) else none := rfl
  rw [this, if_pos ⟨shaped_tD h, shaped_tD k⟩]
  unfold tD
  rw [PyData.eqv, eqvAll_pd]
theorem eq_pl {t u : PL} (h : Nm2 t) (k : Nm2 u) : eqD (.list (t.map pd)) (.list (u.map pd)) = some (.bool (decide (t = u))) := by
  rw [eq_lists (shaped_pd h) (shaped_pd k), eqvAll_pd]
theorem ne_pl {t u : PL} (h : Nm2 t) (k : Nm2 u) : neD (.list (t.map pd)) (.list (u.map pd)) = some (.bool (!decide (t = u))) := by
  rw [ne_lists (shaped_pd h) (shaped_pd k), eqvAll_pd]
theorem Turn.turned {t : PL} (h : Turn t) (hl : t.length ≤ 20) {s : Str} (hs : NmS s) : f_turned_name [.d (tD t), .d (.str s)] = .ok (.d (.str (ledP t s))) [some (.d (tD t)), some (.d (.str s))] := by
  have e : f_is_name [.d (.str s)] = .ok (.d (.bool true)) [some (.d (.str s))] := by rw [is_name_ok (.str s) hs.fit, nmB_of hs]
  simp [f_turned_name, m_turned_name, fnOf, h.sure hl, e, led_t h.nm, outsOf]
/-! ### k02: _law_right -/
structure Names (n : Nat) (l : List Str) : Prop where
  len : l.length ≤ n
  nd : l.Nodup
  nm : ∀ s ∈ l, NmS s
theorem sortS_nd {l : List Str} (h : l.Nodup) : sortS l = sortS (onceS l) := sort_same h fun _ => Iff.rfl
theorem swF_nm {sw : PL} (h : Nm2 sw) {s : Str} (hs : NmS s) : NmS (swF sw s) := by
  rw [← turnOf_led h]
  exact led_nm2 (turnOf_turn h).nm hs
theorem turnOf_mk {sw : PL} (h : Nm2 sw) {l : List Str} (hl : ∀ p ∈ sw, p.1 ∈ l ∧ p.2 ∈ l) : turnOf sw = mkT (swF sw) l := by
  have out : ∀ s, s ∉ l → swF sw s = s := fun s hs => swF_out fun p hp => ⟨fun e => hs (e ▸ (hl p hp).1), fun e => hs (e ▸ (hl p hp).2)⟩
  have T := turnOf_turn h
  rw [← T.self (l := l) fun s hs => by
    by_cases k : s ∈ l
    · exact k
    · exact absurd (by rw [turnOf_led h]; exact out s k) (T.moved.mp hs)]
  exact mk_congr (turnOf_led h) (fun s hs => by rw [turnOf_led h]; exact out s hs) out
def rowG (f : Str → Str) : D → D
  | .str s => pd (s, f s)
  | x => x
theorem law_right_ok {sw : PL} (h : Nm2 sw) (hs : sw.length ≤ 12) {l : List Str} (hl : Names 6 l) (hi : ∀ p ∈ sw, p.1 ∈ l ∧ p.2 ∈ l) : f__law_right [.d (.list (sw.map pd)), .d (.list (l.map .str))] = .ok (.d (.bool true)) [some (.d (.list (sw.map pd))), some (.d (.list (l.map .str)))] := by
  have T := turnOf_turn h
  have lt : (turnOf sw).length ≤ 20 := by have := turnOf_few h hi; have := hl.len; omega
  have to := turn_of_ok h (by omega)
  let A := fun (c d e f g i j : Option OV) => [some (OV.d (.list (sw.map pd))), some (OV.d (.list (l.map .str))), c, d, e, f, g, i, j]
  -- the rows of every name
  have so := sortO_strs (l := l) hl.nm
  have lc1 := lcGo_pure (vs := [5]) (t := tName 5) (tst := mYes) (e := e1__law_right) (p := fun _ => true) (g := rowG (swF sw)) (ρ := A (some (.d (.list (sw.map pd)))) (some (.d (tD (turnOf sw)))) none none none none none) (xs := (sortS l).map .str) fun x hx => by
    obtain ⟨s, _, rfl⟩ := List.mem_map.mp hx
    refine ⟨A (some (.d (.list (sw.map pd)))) (some (.d (tD (turnOf sw)))) none (some (.d (.str s))) none none none, A (some (.d (.list (sw.map pd)))) (some (.d (tD (turnOf sw)))) none (some (.d (.str s))) none none none, by simp [A], rfl, fun z => (by cases z), fun _ => ⟨A (some (.d (.list (sw.map pd)))) (some (.d (tD (turnOf sw)))) none (some (.d (.str s))) none none none, ?_, rfl⟩⟩
    simp [A, law_led_ok, pd, rowG]
  rw [filt_all, List.map_map] at lc1
  have ev : (sortS l).map (rowG (swF sw) ∘ PyData.str) = ((sortS l).map fun s => (s, swF sw s)).map pd := by
    rw [List.map_map]; rfl
  rw [show ((sortS l).map (rowG (swF sw) ∘ PyData.str)) = ((sortS l).map fun s => (s, swF sw s)).map pd from ev] at lc1
  have lc2 := lcGo_pure (vs := [7]) (t := tName 7) (tst := p2__law_right) (e := mVar 7) (p := fun x => !decide (keyS x = toS x)) (g := id) (ρ := A (some (.d (.list (sw.map pd)))) (some (.d (tD (turnOf sw)))) (some (.d (.list (((sortS l).map fun s => (s, swF sw s)).map pd)))) none none none none) (xs := ((sortS l).map fun s => (s, swF sw s)).map pd) fun x hx => by
    obtain ⟨q, _, rfl⟩ := List.mem_map.mp hx
    refine ⟨A (some (.d (.list (sw.map pd)))) (some (.d (tD (turnOf sw)))) (some (.d (.list (((sortS l).map fun s => (s, swF sw s)).map pd)))) none none (some (.d (pd q))) none, A (some (.d (.list (sw.map pd)))) (some (.d (tD (turnOf sw)))) (some (.d (.list (((sortS l).map fun s => (s, swF sw s)).map pd)))) none none (some (.d (pd q))) none, by simp [A], ?_, fun _ => rfl, fun _ => ⟨A (some (.d (.list (sw.map pd)))) (some (.d (tD (turnOf sw)))) (some (.d (.list (((sortS l).map fun s => (s, swF sw s)).map pd)))) none none (some (.d (pd q))) none, rfl, rfl⟩⟩
    have i0 : ixD (pd q) (.int 0) = some (.str q.1) := rfl
    have i1 : ixD (pd q) (.int 1) = some (.str q.2) := rfl
    simp [A, i0, i1, ne_s]
    exact Iff.rfl
  rw [List.map_id] at lc2
  have e2 : (((sortS l).map fun s => (s, swF sw s)).map pd).filter (fun x => !decide (keyS x = toS x)) = (turnOf sw).map pd := by
    rw [turnOf_mk h hi, sortS_nd hl.nd]
    unfold mkT
    rw [List.filter_map, List.filter_map]
    rfl
  rw [e2] at lc2
  have nt := ne_t T.nm T.nm
  have np := ne_pl h h
  rw [decide_eq_true rfl] at nt np
  have it : isiD .tup (tD (turnOf sw)) = some (.bool true) := rfl
  have lc3 := lcGo_pure (vs := [8]) (t := tName 8) (tst := p3__law_right) (e := mVar 8) (p := fun _ => false) (g := id) (ρ := A (some (.d (.list (sw.map pd)))) (some (.d (tD (turnOf sw)))) (some (.d (.list (((sortS l).map fun s => (s, swF sw s)).map pd)))) none (some (.d (.list ((turnOf sw).map pd)))) none none) (xs := (turnOf sw).map pd) fun x hx => by
    obtain ⟨q, _, rfl⟩ := List.mem_map.mp hx
    refine ⟨A (some (.d (.list (sw.map pd)))) (some (.d (tD (turnOf sw)))) (some (.d (.list (((sortS l).map fun s => (s, swF sw s)).map pd)))) none (some (.d (.list ((turnOf sw).map pd)))) none (some (.d (pd q))), A (some (.d (.list (sw.map pd)))) (some (.d (tD (turnOf sw)))) (some (.d (.list (((sortS l).map fun s => (s, swF sw s)).map pd)))) none (some (.d (.list ((turnOf sw).map pd)))) none (some (.d (pd q))), by simp [A], ?_, fun _ => rfl, fun z => (by cases z)⟩
    have : isiD .tup (pd q) = some (.bool true) := rfl
    simp [A, this]
  rw [List.filter_eq_nil_iff.mpr (fun _ _ => Bool.false_ne_true), List.map_nil] at lc3
  have n0 : neD (.list []) (.list []) = some (.bool false) := by
    have := ne_strs (a := []) (b := []) (by decide +kernel) (by decide +kernel)
    rw [decide_eq_true rfl] at this
    exact this
  -- the loop over names
  let more : List Str := l ++ (["a", "b", "q7", "zzzzzzzz"] : List Str)
  have mn : ∀ s ∈ more, NmS s := fun s hs => by
    rcases List.mem_append.mp hs with hs | hs
    · exact hl.nm s hs
    · exact nmS_iff.mp (List.all_eq_true.mp (show (["a", "b", "q7", "zzzzzzzz"] : List Str).all nmS = true by decide +kernel) s hs)
  obtain ⟨ρ', f1, w5, rfl⟩ := forGo_inv (t := tName 5) (b := b4__law_right) (xs := more.map .str) (ρ := A (some (.d (.list (sw.map pd)))) (some (.d (tD (turnOf sw)))) (some (.d (.list (((sortS l).map fun s => (s, swF sw s)).map pd)))) none (some (.d (.list ((turnOf sw).map pd)))) none none)
    (fun i ρ => ∃ w5, ρ = A (some (.d (.list (sw.map pd)))) (some (.d (tD (turnOf sw)))) (some (.d (.list (((sortS l).map fun s => (s, swF sw s)).map pd)))) w5 (some (.d (.list ((turnOf sw).map pd)))) none none) ⟨none, rfl⟩ fun i x ρ hx ⟨w5, e⟩ => by
      subst e
      rw [List.getElem?_map] at hx
      obtain ⟨s, hs, rfl⟩ := Option.map_eq_some_iff.mp hx
      have ns := mn s (List.mem_of_getElem? hs)
      refine ⟨A (some (.d (.list (sw.map pd)))) (some (.d (tD (turnOf sw)))) (some (.d (.list (((sortS l).map fun s => (s, swF sw s)).map pd)))) (some (.d (.str s))) (some (.d (.list ((turnOf sw).map pd)))) none none, A (some (.d (.list (sw.map pd)))) (some (.d (tD (turnOf sw)))) (some (.d (.list (((sortS l).map fun s => (s, swF sw s)).map pd)))) (some (.d (.str s))) (some (.d (.list ((turnOf sw).map pd)))) none none, by simp [A], ?_, _, rfl⟩
      simp [A, T.turned lt ns, law_led_ok, turnOf_led h, ne_s]
  have ad : addD (.list (l.map .str)) (.list [.str "a", .str "b", .str "q7", .str "zzzzzzzz"]) = some (.list (more.map .str)) := by
    rw [add_l (by have := hl.len; simp; omega)]
    simp [more]
  have im : itemsD (.list (more.map .str)) = some (more.map .str) := rfl
  have is : itemsD (.list ((sortS l).map .str)) = some ((sortS l).map .str) := rfl
  have a0 : ∀ c d e f g i j, A c d e f g i j = [some (OV.d (.list (sw.map pd))), some (OV.d (.list (l.map .str))), c, d, e, f, g, i, j] := fun _ _ _ _ _ _ _ => rfl
  refine fn_ok (ρ' := A (some (.d (.list (sw.map pd)))) (some (.d (tD (turnOf sw)))) (some (.d (.list (((sortS l).map fun s => (s, swF sw s)).map pd)))) w5 (some (.d (.list ((turnOf sw).map pd)))) none none) rfl ?_ rfl
  unfold m__law_right
  have it2 : itemsD (tD (turnOf sw)) = some ((turnOf sw).map pd) := rfl
  have tt : tupD (.list ((turnOf sw).map pd)) = some (tD (turnOf sw)) := rfl
  have il : ∀ ys : List D, itemsD (.list ys) = some ys := fun _ => rfl
  have ll : ∀ ys : List D, listD (.list ys) = some ys := fun _ => rfl
  clear ev
  generalize (((sortS l).map fun s => (s, swF sw s)).map pd) = ev at *
  generalize ((sortS l).map PyData.str) = sl at *
  generalize (more.map PyData.str) = ml at *
  generalize (l.map PyData.str) = nl at *
  generalize (sw.map pd) = ps at *
  generalize tD (turnOf sw) = td at *
  generalize (turnOf sw).map pd = tl at *
  clear_value A
  refine (seq_nx (ρ1 := A (some (.d (.list ps))) none none none none none none) (by simp [a0, ll])).trans ?_
  refine (seq_nx (ρ1 := A (some (.d (.list ps))) (some (.d td)) none none none none none) (by simp [a0, to])).trans ?_
  refine (seq_nx (ρ1 := A (some (.d (.list ps))) (some (.d td)) (some (.d (.list ev))) none none none none) (by simp only [a0] at lc1 ⊢; simp [so, il, dataAt, lc1, backE])).trans ?_
  refine (seq_nx (ρ1 := A (some (.d (.list ps))) (some (.d td)) (some (.d (.list ev))) none (some (.d (.list tl))) none none) (by simp only [a0] at lc2 ⊢; simp [il, dataAt, lc2, backE])).trans ?_
  refine (seq_nx (ρ1 := A (some (.d (.list ps))) (some (.d td)) (some (.d (.list ev))) none (some (.d (.list tl))) none none) (by simp [a0, tt, nt, np])).trans ?_
  refine (seq_nx (ρ1 := A (some (.d (.list ps))) (some (.d td)) (some (.d (.list ev))) none (some (.d (.list tl))) none none) (by simp only [a0] at lc3 ⊢; simp [it, it2, dataAt, lc3, backE, n0])).trans ?_
  refine (seq_nx (ρ1 := A (some (.d (.list ps))) (some (.d td)) (some (.d (.list ev))) w5 (some (.d (.list tl))) none none) (by simp only [a0] at f1 ⊢; simp [ad, im]; exact f1)).trans ?_
  simp
end SH
end
section
set_option maxRecDepth 100000
set_option maxHeartbeats 0
set_option exponentiation.threshold 3000
namespace SH
open PySem PySem.Spec PyProof.Rows L2 DL
/-! ### rounds, in plain lists -/
def rot1 : List Str → List Str
  | [] => []
  | a :: q => q ++ [a]
structure Cyc (f : Str → Str) (r : List Str) : Prop where
  ne : r ≠ []
  go : r.map f = rot1 r
theorem rot1_perm : ∀ r : List Str, (rot1 r).Perm r
  | [] => .nil
  | a :: q => List.perm_append_comm
theorem Cyc.rot {f : Str → Str} : ∀ (u v : List Str), Cyc f (u ++ v) → Cyc f (v ++ u)
  | [], v, h => by simpa using h
  | x :: u, v, h => by
    have k : Cyc f (u ++ (v ++ [x])) := by
      refine ⟨by simp, ?_⟩
      have g : f x :: (u ++ v).map f = (u ++ v) ++ [x] := h.go
      rw [← List.append_assoc]
      generalize u ++ v = w at g ⊢
      cases w with
      | nil => simp at g; simp [rot1, g]
      | cons b w =>
        rw [List.cons_append] at g
        injection g with g1 g2
        show (b :: w ++ [x]).map f = w ++ [x] ++ [b]
        rw [List.map_append, g2]
        simp [g1]
    have := Cyc.rot u (v ++ [x]) k
    rw [List.append_assoc] at this
    exact this
theorem Cyc.mem {f : Str → Str} {r : List Str} (h : Cyc f r) {s : Str} (hs : s ∈ r) : f s ∈ r := (rot1_perm r).mem_iff.mp (by rw [← h.go]; exact List.mem_map_of_mem hs)
theorem path_sub {f : Str → Str} {S : List Str} (hS : ∀ s ∈ S, f s ∈ S) : ∀ (q : List Str) (a z : Str), f a :: q.map f = q ++ [z] → a ∈ S → ∀ x ∈ q, x ∈ S
  | [], _, _, _, _, x, hx => by cases hx
  | b :: q, a, z, g, ha, x, hx => by
    rw [List.map_cons, List.cons_append] at g
    injection g with g1 g2
    have hb : b ∈ S := g1 ▸ hS a ha
    rcases List.mem_cons.mp hx with rfl | hx
    · exact hb
    · exact path_sub hS q b z g2 hb x hx
theorem Cyc.sub {f : Str → Str} {r S : List Str} {a : Str} (h : Cyc f r) (ha : a ∈ r) (hS : ∀ s ∈ S, f s ∈ S) (hA : a ∈ S) : ∀ x ∈ r, x ∈ S := by
  obtain ⟨u, v, rfl⟩ := List.append_of_mem ha
  have k := h.rot u (a :: v)
  intro x hx
  have hx : x ∈ (a :: v) ++ u := by simp at hx ⊢; rcases hx with h | h | h <;> simp [h]
  rcases List.mem_cons.mp hx with rfl | hx
  · exact hA
  · exact path_sub hS (v ++ u) a a k.go hA x hx
/-- rounds that part a list of names -/
structure Part (f : Str → Str) (N : List Str) (rs : List (List Str)) : Prop where
  cyc : ∀ r ∈ rs, Cyc f r
  perm : rs.flatten.Perm N
theorem Part.of_perm {f : Str → Str} {N : List Str} {rs qs : List (List Str)} (h : Part f N rs) (p : qs.Perm rs) : Part f N qs := ⟨fun r hr => h.cyc r (p.mem_iff.mp hr), p.flatten.trans h.perm⟩
theorem bring1 {f : Str → Str} {rs : List (List Str)} {x : Str} (c : ∀ r ∈ rs, Cyc f r) (hx : x ∈ rs.flatten) : ∃ u rest, Cyc f (x :: u) ∧ (∀ r ∈ rest, Cyc f r) ∧ ((x :: u) :: rest).flatten.Perm rs.flatten ∧ rest.length + 1 = rs.length := by
  obtain ⟨r, hr, hxr⟩ := List.mem_flatten.mp hx
  obtain ⟨l1, l2, rfl⟩ := List.append_of_mem hr
  obtain ⟨u, v, rfl⟩ := List.append_of_mem hxr
  refine ⟨v ++ u, l1 ++ l2, (c _ hr).rot u (x :: v), fun r h => c r ?_, ?_, by simp; omega⟩
  · rcases List.mem_append.mp h with h | h
    · exact List.mem_append_left _ h
    · exact List.mem_append_right _ (List.mem_cons_of_mem _ h)
  · simp only [List.flatten_cons, List.flatten_append]
    refine (List.perm_append_comm_assoc _ _ _).trans (List.Perm.append_left _ (List.Perm.append_right _ ?_))
    exact List.perm_append_comm (l₁ := x :: v) (l₂ := u)
theorem parts_len {f : Str → Str} : ∀ (rs qs : List (List Str)), (∀ r ∈ rs, Cyc f r) → (∀ r ∈ qs, Cyc f r) → rs.flatten.Nodup → rs.flatten.Perm qs.flatten → rs.length = qs.length
  | [], qs, _, c2, _, p => by
    cases qs with
    | nil => rfl
    | cons r qs =>
      have := p.symm.eq_nil
      rw [List.flatten_cons, List.append_eq_nil_iff] at this
      exact absurd this.1 (c2 r (by simp)).ne
  | r :: rs, qs, c1, c2, n, p => by
    have hr := c1 r (by simp)
    obtain ⟨a, q, rfl⟩ := List.exists_cons_of_ne_nil hr.ne
    obtain ⟨u, rest, k1, k2, k3, k4⟩ := bring1 c2 (x := a) (p.mem_iff.mp (by simp))
    have n2 : ((a :: u) :: rest).flatten.Nodup := (k3.trans p.symm).nodup_iff.mpr n
    rw [List.flatten_cons] at n n2
    have pr : (a :: q).Perm (a :: u) := (List.perm_ext_iff_of_nodup (List.nodup_append.mp n).1 (List.nodup_append.mp n2).1).mpr fun x =>
      ⟨hr.sub (a := a) (by simp) (fun s => k1.mem) (by simp) x, k1.sub (a := a) (by simp) (fun s => hr.mem) (by simp) x⟩
    have p2 : rs.flatten.Perm rest.flatten := by
      have := p.trans k3.symm
      rw [List.flatten_cons, List.flatten_cons] at this
      exact (List.perm_append_left_iff (a :: q)).mp (this.trans (List.Perm.append_right _ pr.symm))
    have := parts_len rs rest (fun r h => c1 r (by simp [h])) k2 (List.nodup_append.mp n).2.1 p2
    rw [← k4, List.length_cons, this]
theorem Part.len {f : Str → Str} {N : List Str} {rs qs : List (List Str)} (n : N.Nodup) (h : Part f N rs) (k : Part f N qs) : rs.length = qs.length :=
  parts_len rs qs h.cyc k.cyc (h.perm.nodup_iff.mpr n) (h.perm.trans k.perm.symm)
theorem swN_l (a b : Str) : swN a b a = b := by unfold swN; simp
theorem swN_r (a b : Str) : swN a b b = a := by
  unfold swN
  by_cases h : b = a <;> simp [h]
theorem swN_o {a b s : Str} (h : s ≠ a) (k : s ≠ b) : swN a b s = s := swN_out (by simp [h, k])
theorem map_swN {a b : Str} : ∀ (l : List Str), a ∉ l → b ∉ l → l.map (swN a b) = l
  | [], _, _ => rfl
  | x :: l, h, k => by
    rw [List.mem_cons, not_or] at h k
    rw [List.map_cons, map_swN l h.2 k.2, swN_o (fun e => h.1 e.symm) (fun e => k.1 e.symm)]
theorem Cyc.away {f : Str → Str} {r : List Str} {a b : Str} (h : Cyc f r) (ha : a ∉ r) (hb : b ∉ r) : Cyc (fun s => swN a b (f s)) r := by
  refine ⟨h.ne, ?_⟩
  have : r.map (fun s => swN a b (f s)) = (r.map f).map (swN a b) := by rw [List.map_map]; rfl
  rw [this, h.go, map_swN _ (fun z => ha ((rot1_perm r).mem_iff.mp z)) fun z => hb ((rot1_perm r).mem_iff.mp z)]
theorem app_eq {α : Type} {a b c d : List α} (h : a ++ b = c ++ d) (l : a.length = c.length) : a = c ∧ b = d := List.append_inj h l
theorem Part.step {f : Str → Str} {N : List Str} {rs : List (List Str)} (n : N.Nodup) (h : Part f N rs) {x y : Str} (hx : x ∈ N) (hy : y ∈ N) (ne : x ≠ y) : ∃ qs, Part (fun s => swN x y (f s)) N qs ∧ (qs.length = rs.length + 1 ∨ qs.length + 1 = rs.length) := by
  obtain ⟨u, rest, k1, k2, k3, k4⟩ := bring1 h.cyc (h.perm.mem_iff.mpr hx)
  have nd : ((x :: u) :: rest).flatten.Nodup := (k3.trans h.perm).nodup_iff.mpr n
  have mm : ∀ g : Str → Str, ∀ l : List Str, l.map (fun s => swN x y (g s)) = (l.map g).map (swN x y) := fun g l => by rw [List.map_map]; rfl
  have hy2 : y ∈ ((x :: u) :: rest).flatten := (k3.trans h.perm).mem_iff.mpr hy
  rw [List.flatten_cons] at hy2 nd
  obtain ⟨n1, n2, n3⟩ := List.nodup_append.mp nd
  obtain ⟨n4, n5⟩ := List.nodup_cons.mp n1
  by_cases hyu : y ∈ u
  · obtain ⟨a, b, rfl⟩ := List.append_of_mem hyu
    have g := k1.go
    have e : (x :: (a ++ y :: b)).map f = ((x :: a).map f) ++ ((y :: b).map f) := by simp
    rw [e] at g
    have g : ((x :: a).map f) ++ ((y :: b).map f) = (a ++ [y]) ++ (b ++ [x]) := by rw [g]; simp [rot1]
    obtain ⟨g1, g2⟩ := app_eq g (by simp)
    obtain ⟨m1, m2, m3⟩ := List.nodup_append.mp n5
    obtain ⟨m4, m5⟩ := List.nodup_cons.mp m2
    have ax : x ∉ a := fun z => n4 (by simp [z])
    have bx : x ∉ b := fun z => n4 (by simp [z])
    have ay : y ∉ a := fun z => m3 y z y (by simp) rfl
    refine ⟨(x :: a) :: (y :: b) :: rest, ⟨fun r hr => ?_, ?_⟩, .inl (by simp; omega)⟩
    · rcases List.mem_cons.mp hr with rfl | hr
      · refine ⟨by simp, ?_⟩
        rw [mm, g1, List.map_append, map_swN a ax ay]
        simp [swN_r, rot1]
      · rcases List.mem_cons.mp hr with rfl | hr
        · refine ⟨by simp, ?_⟩
          rw [mm, g2, List.map_append, map_swN b bx m4]
          simp [swN_l, rot1]
        · refine (k2 r hr).away (fun z => ?_) fun z => ?_
          · exact n3 x (by simp) x (List.mem_flatten.mpr ⟨r, hr, z⟩) rfl
          · exact n3 y (by simp) y (List.mem_flatten.mpr ⟨r, hr, z⟩) rfl
    · refine List.Perm.trans ?_ (k3.trans h.perm)
      simp
  · have hyr : y ∈ rest.flatten := by
      rcases List.mem_append.mp hy2 with z | z
      · rcases List.mem_cons.mp z with z | z
        · exact absurd z.symm ne
        · exact absurd z hyu
      · exact z
    obtain ⟨v, rest2, j1, j2, j3, j4⟩ := bring1 k2 hyr
    have nr : ((y :: v) :: rest2).flatten.Nodup := j3.nodup_iff.mpr n2
    rw [List.flatten_cons] at nr
    obtain ⟨o1, o2, o3⟩ := List.nodup_append.mp nr
    obtain ⟨o4, o5⟩ := List.nodup_cons.mp o1
    have hin : ∀ z, z ∈ (y :: v) ++ rest2.flatten → z ∈ rest.flatten := fun z hz => j3.mem_iff.mp (by rw [List.flatten_cons]; exact hz)
    have xv : x ∉ v := fun z => n3 x (by simp) x (hin x (by simp [z])) rfl
    refine ⟨(x :: u ++ y :: v) :: rest2, ⟨fun r hr => ?_, ?_⟩, .inr (by simp; omega)⟩
    · rcases List.mem_cons.mp hr with rfl | hr
      · refine ⟨by simp, ?_⟩
        rw [List.map_append, mm f (x :: u), mm f (y :: v), k1.go, j1.go]
        show (u ++ [x]).map (swN x y) ++ (v ++ [y]).map (swN x y) = u ++ y :: v ++ [x]
        rw [List.map_append, List.map_append, map_swN u n4 hyu, map_swN v xv o4]
        simp [swN_r, swN_l]
      · refine (j2 r hr).away (fun z => ?_) fun z => ?_
        · exact n3 x (by simp) x (hin x (List.mem_append_right _ (List.mem_flatten.mpr ⟨r, hr, z⟩))) rfl
        · exact o3 y (by simp) y (List.mem_flatten.mpr ⟨r, hr, z⟩) rfl
    · refine List.Perm.trans ?_ (k3.trans h.perm)
      simp only [List.flatten_cons, List.append_assoc]
      exact List.Perm.append_left _ (by simpa using j3)
theorem Part.ones {f : Str → Str} {N : List Str} (h : ∀ s ∈ N, f s = s) : Part f N (N.map fun s => [s]) := by
  refine ⟨fun r hr => ?_, ?_⟩
  · obtain ⟨s, hs, rfl⟩ := List.mem_map.mp hr
    exact ⟨by simp, by simp [rot1, h s hs]⟩
  · have : (N.map fun s => [s]).flatten = N := by
      induction N with
      | nil => rfl
      | cons a N ih => rw [List.map_cons, List.flatten_cons, ih fun s hs => h s (by simp [hs])]; rfl
    rw [this]
theorem swF_snoc (sw : PL) (p : Str × Str) (s : Str) : swF (sw ++ [p]) s = swN p.1 p.2 (swF sw s) := by
  unfold swF; rw [List.foldl_append]; rfl
theorem swF_app (a b : PL) (s : Str) : swF (a ++ b) s = swF b (swF a s) := by
  unfold swF; rw [List.foldl_append]
theorem Part.sw {N : List Str} (n : N.Nodup) (k : Nat) : ∀ (sw : PL), sw.length = k → (∀ p ∈ sw, p.1 ∈ N ∧ p.2 ∈ N ∧ p.1 ≠ p.2) → ∃ rs, Part (swF sw) N rs ∧ N.length ≤ rs.length + sw.length ∧ (rs.length + sw.length) % 2 = N.length % 2 := by
  induction k with
  | zero =>
    intro sw hl _
    have : sw = [] := List.length_eq_zero_iff.mp hl
    subst this
    exact ⟨_, Part.ones fun s _ => rfl, by simp, by simp⟩
  | succ k ih =>
    intro sw hl h
    have hne : sw ≠ [] := fun e => by rw [e] at hl; cases hl
    rw [← List.dropLast_concat_getLast hne] at hl h ⊢
    generalize sw.dropLast = s0 at *
    generalize sw.getLast hne = p at *
    rw [List.length_append, List.length_singleton] at hl ⊢
    obtain ⟨rs, r1, r2, r3⟩ := ih s0 (by omega) fun q hq => h q (List.mem_append_left _ hq)
    obtain ⟨p1, p2, p3⟩ := h p (by simp)
    obtain ⟨qs, q1, q2⟩ := r1.step n p1 p2 p3
    refine ⟨qs, ?_, by omega, by omega⟩
    rw [show swF (s0 ++ [p]) = fun s => swN p.1 p.2 (swF s0 s) from funext fun s => swF_snoc s0 p s]
    exact q1
/-- the rounds of a turn -/
structure Rnds (t : PL) (rs : List (List Str)) : Prop where
  cyc : ∀ r ∈ rs, Cyc (ledP t) r
  perm : rs.flatten.Perm (keys t)
  two : ∀ r ∈ rs, 2 ≤ r.length
  least : ∀ r ∈ rs, ∀ a q, r = a :: q → ∀ s ∈ q, ltN a s
  rise : (rs.map fun r => r.headD "").Pairwise ltN
/-- exchanges of rounds -/
def swR : List Str → PL
  | [] => []
  | a :: q => q.map fun o => (a, o)
theorem swF_ring {a : Str} : ∀ (q : List Str), (a :: q).Nodup → (a :: q).map (swF (swR (a :: q))) = q ++ [a]
  | [], _ => rfl
  | o :: q, n => by
    obtain ⟨n1, n2⟩ := List.nodup_cons.mp n
    obtain ⟨n3, n4⟩ := List.nodup_cons.mp n2
    rw [List.mem_cons, not_or] at n1
    have ih := swF_ring q (List.nodup_cons.mpr ⟨n1.2, n4⟩)
    have go : ∀ s, swF (swR (a :: o :: q)) s = swF (swR (a :: q)) (swN a o s) := fun s => rfl
    have out : swF (swR (a :: q)) o = o := swF_out fun p hp => by
      obtain ⟨b, hb, rfl⟩ := List.mem_map.mp hp
      exact ⟨n1.1, fun e => n3 (e ▸ hb)⟩
    have e3 : q.map (swF (swR (a :: o :: q))) = q.map (swF (swR (a :: q))) := List.map_congr_left fun s hs => by
      rw [go, swN_o (fun e : s = a => n1.2 (by rw [← e]; exact hs)) (fun e : s = o => n3 (by rw [← e]; exact hs))]
    rw [List.map_cons, List.map_cons, go, go, swN_l, swN_r, out, e3, List.cons_append, ← List.map_cons, ih]
theorem swR_mem {r : List Str} {p : Str × Str} (h : p ∈ swR r) : p.1 ∈ r ∧ p.2 ∈ r := by
  cases r with
  | nil => cases h
  | cons a q =>
    obtain ⟨b, hb, rfl⟩ := List.mem_map.mp h
    exact ⟨by simp, by simp [hb]⟩
theorem swR_ne {r : List Str} (n : r.Nodup) {p : Str × Str} (h : p ∈ swR r) : p.1 ≠ p.2 := by
  cases r with
  | nil => cases h
  | cons a q =>
    obtain ⟨b, hb, rfl⟩ := List.mem_map.mp h
    exact fun e => (List.nodup_cons.mp n).1 (by rw [show a = b from e]; exact hb)
def swsOf (rs : List (List Str)) : PL := rs.flatMap swR
theorem map_eq_on {f g : Str → Str} : ∀ {l : List Str}, l.map f = l.map g → ∀ s ∈ l, f s = g s
  | [], _, s, h => by cases h
  | a :: l, e, s, h => by
    rw [List.map_cons, List.map_cons] at e
    injection e with e1 e2
    rcases List.mem_cons.mp h with rfl | h
    · exact e1
    · exact map_eq_on e2 s h
theorem swF_rings {f : Str → Str} : ∀ (rs : List (List Str)), rs.flatten.Nodup → (∀ r ∈ rs, Cyc f r) → ∀ s, swF (swsOf rs) s = if s ∈ rs.flatten then f s else s
  | [], _, _, s => rfl
  | r :: rs, n, c, s => by
    rw [List.flatten_cons] at n
    obtain ⟨n1, n2, n3⟩ := List.nodup_append.mp n
    have ih := swF_rings (f := f) rs n2 fun r h => c r (by simp [h])
    have hr := c r (by simp)
    have e : swsOf (r :: rs) = swR r ++ swsOf rs := rfl
    rw [e, swF_app, ih]
    by_cases h : s ∈ r
    · obtain ⟨a, q, rfl⟩ := List.exists_cons_of_ne_nil hr.ne
      have : swF (swR (a :: q)) s = f s := map_eq_on (l := a :: q) (by rw [swF_ring q n1, hr.go]; rfl) s h
      rw [this, if_neg fun z => n3 _ (hr.mem h) _ z rfl, if_pos (by rw [List.flatten_cons]; exact List.mem_append_left _ h)]
    · have : swF (swR r) s = s := swF_out fun p hp => ⟨fun e => h (e ▸ (swR_mem hp).1), fun e => h (e ▸ (swR_mem hp).2)⟩
      rw [this, List.flatten_cons]
      simp [h]
theorem sws_len : ∀ (rs : List (List Str)), (∀ r ∈ rs, r ≠ []) → (swsOf rs).length + rs.length = rs.flatten.length
  | [], _ => rfl
  | r :: rs, h => by
    have ih := sws_len rs fun r k => h r (by simp [k])
    obtain ⟨a, q, rfl⟩ := List.exists_cons_of_ne_nil (h r (by simp))
    have e : swsOf ((a :: q) :: rs) = swR (a :: q) ++ swsOf rs := rfl
    rw [e, List.flatten_cons, List.length_append, List.length_append, List.length_cons, List.length_cons, ← ih]
    simp [swR]
    omega
theorem sws_mem {rs : List (List Str)} {p : Str × Str} (h : p ∈ swsOf rs) : p.1 ∈ rs.flatten ∧ p.2 ∈ rs.flatten := by
  obtain ⟨r, hr, hp⟩ := List.mem_flatMap.mp h
  exact ⟨List.mem_flatten.mpr ⟨r, hr, (swR_mem hp).1⟩, List.mem_flatten.mpr ⟨r, hr, (swR_mem hp).2⟩⟩
theorem nd_mem : ∀ {rs : List (List Str)}, rs.flatten.Nodup → ∀ {r}, r ∈ rs → r.Nodup
  | [], _, _, h => by cases h
  | q :: rs, n, r, h => by
    rw [List.flatten_cons] at n
    rcases List.mem_cons.mp h with rfl | h
    · exact (List.nodup_append.mp n).1
    · exact nd_mem (List.nodup_append.mp n).2.1 h
theorem sws_ne {rs : List (List Str)} (n : rs.flatten.Nodup) {p : Str × Str} (h : p ∈ swsOf rs) : p.1 ≠ p.2 := by
  obtain ⟨r, hr, hp⟩ := List.mem_flatMap.mp h
  exact swR_ne (nd_mem n hr) hp
section
variable {t : PL} {rs : List (List Str)}
theorem Rnds.nd (h : Rnds t rs) (T : Turn t) : rs.flatten.Nodup := h.perm.nodup_iff.mpr (ltN_nodup T.srt)
theorem Rnds.nm (h : Rnds t rs) (T : Turn t) : Nm2 (swsOf rs) := fun p hp => ⟨keys_nm2 T.nm _ (h.perm.mem_iff.mp (sws_mem hp).1), keys_nm2 T.nm _ (h.perm.mem_iff.mp (sws_mem hp).2)⟩
theorem Rnds.sum (h : Rnds t rs) : (swsOf rs).length + rs.length = t.length := by
  rw [sws_len rs fun r hr => (h.cyc r hr).ne, h.perm.length_eq, keys_len]
theorem Rnds.turn (h : Rnds t rs) (T : Turn t) : turnOf (swsOf rs) = t := (turnOf_turn (h.nm T)).ext T fun s => by
  rw [turnOf_led (h.nm T), swF_rings (f := ledP t) rs (h.nd T) h.cyc]
  by_cases k : s ∈ rs.flatten
  · rw [if_pos k]
  · rw [if_neg k, ledP_out fun z => k (h.perm.mem_iff.mpr z)]
theorem Rnds.least_sw (h : Rnds t rs) (T : Turn t) {N : List Str} (n : N.Nodup) {sw : PL} (hs : ∀ p ∈ sw, p.1 ∈ N ∧ p.2 ∈ N ∧ p.1 ≠ p.2) (e : ∀ s, ledP t s = swF sw s) : (swsOf rs).length ≤ sw.length ∧ (sw.length - (swsOf rs).length) % 2 = 0 := by
  have ef : ledP t = swF sw := funext e
  obtain ⟨qs, q1, q2, q3⟩ := Part.sw n sw.length sw rfl hs
  have kN : ∀ s ∈ keys t, s ∈ N := fun s hk => by
    by_cases z : s ∈ N
    · exact z
    · have := T.moved.mp hk
      rw [e, swF_out fun p hp => ⟨fun y : p.1 = s => z (by rw [← y]; exact (hs p hp).1), fun y : p.2 = s => z (by rw [← y]; exact (hs p hp).2.1)⟩] at this
      exact absurd rfl this
  have fl : ((N.filter fun s => !decide (s ∈ keys t)).map fun s => [s]).flatten = N.filter fun s => !decide (s ∈ keys t) := by
    generalize N.filter (fun s => !decide (s ∈ keys t)) = M
    induction M with
    | nil => rfl
    | cons a M ih => rw [List.map_cons, List.flatten_cons, ih]; rfl
  have pN : (keys t ++ N.filter fun s => !decide (s ∈ keys t)).Perm N := by
    refine (List.perm_ext_iff_of_nodup (List.nodup_append.mpr ⟨ltN_nodup T.srt, n.filter _, fun a ha b hb => ?_⟩) n).mpr fun x => ?_
    · rw [List.mem_filter] at hb
      intro z
      subst z
      simp [ha] at hb
    · rw [List.mem_append, List.mem_filter]
      by_cases k : x ∈ keys t
      · simp [k, kN x k]
      · simp [k]
  have P : Part (swF sw) N (rs ++ (N.filter fun s => !decide (s ∈ keys t)).map fun s => [s]) := by
    rw [← ef]
    refine ⟨fun r hr => ?_, ?_⟩
    · rcases List.mem_append.mp hr with hr | hr
      · exact h.cyc r hr
      · obtain ⟨s, k, rfl⟩ := List.mem_map.mp hr
        rw [List.mem_filter] at k
        exact ⟨by simp, by simp [rot1]; exact ledP_out (by simpa using k.2)⟩
    · rw [List.flatten_append, fl]
      exact (List.Perm.append_right _ h.perm).trans pN
  have l1 := P.len n q1
  rw [List.length_append, List.length_map] at l1
  have l2 := pN.length_eq
  rw [List.length_append, keys_len] at l2
  have l3 := h.sum
  omega
end
end SH
end
section
set_option maxRecDepth 100000
set_option maxHeartbeats 0
set_option exponentiation.threshold 3000
namespace SH
open PySem PySem.Spec PyProof.Rows L2 DL
/-! ### rounds_of -/
def rD (r : List Str) : D := .tuple (r.map .str)
structure Rg2 (t : PL) (seen : List Str) (a : Str) (pre : List Str) (z : Str) : Prop where
  nd : (pre ++ [z]).Nodup
  sub : ∀ s ∈ pre ++ [z], s ∈ keys t
  no : ∀ s ∈ pre ++ [z], s ∉ seen
  go : a :: pre.map (ledP t) = pre ++ [z]
theorem Rg2.few {t : PL} {seen : List Str} {a z : Str} {pre : List Str} (h : Rg2 t seen a pre z) : pre.length + 1 ≤ t.length := by
  have := nodup_le h.nd h.sub
  rw [keys_len] at this
  simpa using this
theorem Rg2.step {t : PL} (T : Turn t) {seen : List Str} (cl : ∀ s, ledP t s ∈ seen → s ∈ seen) {a z : Str} {pre : List Str} (h : Rg2 t seen a pre z) (hne : ledP t z ≠ a) : Rg2 t seen a (pre ++ [z]) (ledP t z) := by
  have hz : z ∈ keys t := h.sub z (by simp)
  have hn : ledP t z ∉ pre ++ [z] := fun hm => by
    rw [← h.go] at hm
    rcases List.mem_cons.mp hm with e | hm
    · exact hne e
    · obtain ⟨s, hs, e⟩ := List.mem_map.mp hm
      have := T.inj e
      subst this
      exact (List.nodup_append.mp h.nd).2.2 s hs s (by simp) rfl
  refine ⟨?_, ?_, ?_, ?_⟩
  · exact List.nodup_append.mpr ⟨h.nd, by simp, fun x hx y hy => by simp at hy; subst hy; exact fun e => hn (e ▸ hx)⟩
  · intro s hs
    rcases List.mem_append.mp hs with hs | hs
    · exact h.sub s hs
    · simp at hs; subst hs; exact T.led_key hz
  · intro s hs
    rcases List.mem_append.mp hs with hs | hs
    · exact h.no s hs
    · simp at hs; subst hs; exact fun q => h.no z (by simp) (cl _ q)
  · rw [List.map_append, ← List.cons_append, h.go]
    rfl
theorem ring2_ok {t : PL} (T : Turn t) (ht : t.length ≤ 20) {seen : List Str} (cl : ∀ s, ledP t s ∈ seen → s ∈ seen) (o1 o2 : OV) (a : Str) (w4 : Option OV) (ha : a ∈ keys t) (hs : a ∉ seen) : ∃ q : List Str, (a :: q).Nodup ∧ (∀ s ∈ a :: q, s ∈ keys t) ∧ (∀ s ∈ a :: q, s ∉ seen) ∧ Cyc (ledP t) (a :: q) ∧ sWhile w1_rounds_of b2_rounds_of [some (.d (tD t)), some o1, some o2, some (.d (.str a)), w4, some (.lst [.str a])] = .ok .nx [some (.d (tD t)), some o1, some o2, some (.d (.str a)), w4, some (.lst ((a :: q).map .str))] := by
  have ng : negD (.int 1) = some (.int (-1)) := rfl
  obtain ⟨ρ', f1, q, rfl, r1, r2, r3, r4⟩ := while_inv (t := w1_rounds_of) (b := b2_rounds_of)
    (fun k ρ => ∃ pre z, ρ = [some (.d (tD t)), some o1, some o2, some (.d (.str a)), w4, some (.lst (pre.map .str ++ [.str z]))] ∧ Rg2 t seen a pre z ∧ k = t.length - pre.length)
    (fun ρ => ∃ q : List Str, ρ = [some (.d (tD t)), some o1, some o2, some (.d (.str a)), w4, some (.lst ((a :: q).map .str))] ∧ (a :: q).Nodup ∧ (∀ s ∈ a :: q, s ∈ keys t) ∧ (∀ s ∈ a :: q, s ∉ seen) ∧ Cyc (ledP t) (a :: q))
    (fun k ρ ⟨pre, z, e, hr, hk⟩ => by
      subst e
      have few := hr.few
      have ld := led_t T.nm z
      by_cases e : ledP t z = a
      · refine .inl ⟨[some (.d (tD t)), some o1, some o2, some (.d (.str a)), w4, some (.lst (pre.map .str ++ [.str z]))], ?_, pre.map (ledP t), ?_, by rw [hr.go]; exact hr.nd, by rw [hr.go]; exact hr.sub, by rw [hr.go]; exact hr.no, by simp, ?_⟩
        · simp [ng, ix_last, ld, ne_s, e]
        · rw [hr.go]; simp
        · show _ = pre.map (ledP t) ++ [a]
          rw [hr.go, List.map_append, List.map_singleton, e]
      · refine .inr ⟨[some (.d (tD t)), some o1, some o2, some (.d (.str a)), w4, some (.lst (pre.map .str ++ [.str z]))], [some (.d (tD t)), some o1, some o2, some (.d (.str a)), w4, some (.lst ((pre ++ [z]).map .str ++ [.str (ledP t z)]))], ?_, ?_, t.length - (pre ++ [z]).length, by simp; omega, pre ++ [z], ledP t z, rfl, hr.step T cl e, rfl⟩
        · simp [ng, ix_last, ld, ne_s, e]
        · have ap := app1 (pre.map .str ++ [.str z]) (.str (ledP t z)) (by simp; omega)
          simp [ng, ix_last, ld, ap])
    (t.length - 0) [some (.d (tD t)), some o1, some o2, some (.d (.str a)), w4, some (.lst [.str a])] ⟨[], a, rfl, ⟨by simp, fun s k => by simp at k; subst k; exact ha, fun s k => by simp at k; subst k; exact hs, rfl⟩, rfl⟩
  exact ⟨q, r1, r2, r3, r4, f1⟩
structure Sofar (t : PL) (i : Nat) (rs : List (List Str)) : Prop where
  cyc : ∀ r ∈ rs, Cyc (ledP t) r
  nd : rs.flatten.Nodup
  sub : ∀ s ∈ rs.flatten, s ∈ keys t
  all : ∀ s ∈ (keys t).take i, s ∈ rs.flatten
  least : ∀ r ∈ rs, ∀ a q, r = a :: q → ∀ s ∈ q, ltN a s
  rise : (rs.map fun r => r.headD "").Pairwise ltN
  hd : ∀ r ∈ rs, r.headD "" ∈ (keys t).take i
theorem Sofar.cl {t : PL} (T : Turn t) {i : Nat} {rs : List (List Str)} (h : Sofar t i rs) : ∀ s, ledP t s ∈ rs.flatten → s ∈ rs.flatten := fun s hs => by
  obtain ⟨r, hr, k⟩ := List.mem_flatten.mp hs
  have c := h.cyc r hr
  have k : ledP t s ∈ rot1 r := (rot1_perm r).mem_iff.mpr k
  rw [← c.go] at k
  obtain ⟨x, hx, e⟩ := List.mem_map.mp k
  rw [← T.inj e]
  exact List.mem_flatten.mpr ⟨r, hr, hx⟩
theorem Sofar.skip {t : PL} {i : Nat} {rs : List (List Str)} (h : Sofar t i rs) {a : Str} (ha : (keys t)[i]? = some a) (hs : a ∈ rs.flatten) : Sofar t (i + 1) rs := by
  have tk : (keys t).take (i + 1) = (keys t).take i ++ [a] := by rw [List.take_add_one, ha]; rfl
  refine ⟨h.cyc, h.nd, h.sub, fun s k => ?_, h.least, h.rise, fun r hr => by rw [tk]; exact List.mem_append_left _ (h.hd r hr)⟩
  rw [tk] at k
  rcases List.mem_append.mp k with k | k
  · exact h.all s k
  · simp at k; subst k; exact hs
theorem srt_split {l : List Str} (h : l.Pairwise ltN) {i : Nat} {a : Str} (ha : l[i]? = some a) : (∀ s ∈ l.take i, ltN s a) ∧ ∀ s ∈ l, s ∉ l.take i → s ≠ a → ltN a s := by
  obtain ⟨hi, e⟩ := List.getElem?_eq_some_iff.mp ha
  have sp : l = l.take i ++ a :: l.drop (i + 1) := by rw [← e]; simp
  have h2 := h
  rw [sp] at h2
  obtain ⟨p1, p2, p3⟩ := List.pairwise_append.mp h2
  refine ⟨fun s hs => p3 s hs a (by simp), fun s hs n ne => ?_⟩
  rw [sp] at hs
  rcases List.mem_append.mp hs with k | k
  · exact absurd k n
  · rcases List.mem_cons.mp k with k | k
    · exact absurd k ne
    · exact (List.pairwise_cons.mp p2).1 s k
theorem Sofar.more {t : PL} (T : Turn t) {i : Nat} {rs : List (List Str)} (h : Sofar t i rs) {a : Str} (ha : (keys t)[i]? = some a) {q : List Str} (q1 : (a :: q).Nodup) (q2 : ∀ s ∈ a :: q, s ∈ keys t) (q3 : ∀ s ∈ a :: q, s ∉ rs.flatten) (q4 : Cyc (ledP t) (a :: q)) : Sofar t (i + 1) (rs ++ [a :: q]) := by
  have tk : (keys t).take (i + 1) = (keys t).take i ++ [a] := by rw [List.take_add_one, ha]; rfl
  have fl : (rs ++ [a :: q]).flatten = rs.flatten ++ (a :: q) := by simp
  obtain ⟨s1, s2⟩ := srt_split T.srt ha
  refine ⟨fun r hr => ?_, ?_, ?_, ?_, ?_, ?_, ?_⟩
  · rcases List.mem_append.mp hr with hr | hr
    · exact h.cyc r hr
    · simp at hr; subst hr; exact q4
  · rw [fl]
    exact List.nodup_append.mpr ⟨h.nd, q1, fun x hx y hy e => q3 y hy (e ▸ hx)⟩
  · rw [fl]
    intro s hs
    rcases List.mem_append.mp hs with hs | hs
    · exact h.sub s hs
    · exact q2 s hs
  · rw [tk, fl]
    intro s hs
    rcases List.mem_append.mp hs with hs | hs
    · exact List.mem_append_left _ (h.all s hs)
    · simp at hs; subst hs; simp
  · intro r hr b p e s hs
    rcases List.mem_append.mp hr with hr | hr
    · exact h.least r hr b p e s hs
    · simp at hr
      rw [hr] at e
      injection e with e1 e2
      subst e1 e2
      refine s2 s (q2 s (by simp [hs])) (fun z => q3 s (by simp [hs]) (h.all s z)) fun z => ?_
      subst z
      exact (List.nodup_cons.mp q1).1 hs
  · rw [List.map_append]
    refine List.pairwise_append.mpr ⟨h.rise, by simp, fun x hx y hy => ?_⟩
    simp at hy
    subst hy
    obtain ⟨r, hr, rfl⟩ := List.mem_map.mp hx
    exact s1 _ (h.hd r hr)
  · intro r hr
    rw [tk]
    rcases List.mem_append.mp hr with hr | hr
    · exact List.mem_append_left _ (h.hd r hr)
    · simp at hr; subst hr; simp
theorem Sofar.done {t : PL} (T : Turn t) {rs : List (List Str)} (h : Sofar t t.length rs) : Rnds t rs := by
  have al : ∀ s ∈ keys t, s ∈ rs.flatten := fun s hs => h.all s (by rw [← keys_len, List.take_length]; exact hs)
  refine ⟨h.cyc, (List.perm_ext_iff_of_nodup h.nd (ltN_nodup T.srt)).mpr fun x => ⟨h.sub x, al x⟩, fun r hr => ?_, h.least, h.rise⟩
  obtain ⟨a, q, rfl⟩ := List.exists_cons_of_ne_nil (h.cyc r hr).ne
  cases q with
  | cons b q => simp
  | nil =>
    have g := (h.cyc _ hr).go
    have : ledP t a = a := by simpa [rot1] using g
    exact absurd this (T.moved.mp (h.sub a (List.mem_flatten.mpr ⟨_, hr, by simp⟩)))
theorem Turn.rounds {t : PL} (T : Turn t) (ht : t.length ≤ 20) : ∃ rs : List (List Str), Rnds t rs ∧ f_rounds_of [.d (tD t)] = .ok (.lst (rs.map rD)) [some (.d (tD t))] := by
  have sy := T.sure ht
  have it := items_t t
  obtain ⟨ρ', f1, rs, w3, w4, w5, rfl, h1⟩ := forGo_inv (t := tTup 2 (tsCons (tName 3) (tsCons (tName 4) tsNil))) (b := b3_rounds_of) (xs := t.map pd) (ρ := [some (.d (tD t)), some (.lst []), some (.lst []), none, none, none])
    (fun i ρ => ∃ (rs : List (List Str)) (w3 w4 w5 : Option OV), ρ = [some (.d (tD t)), some (.lst (rs.map rD)), some (.lst (rs.flatten.map .str)), w3, w4, w5] ∧ Sofar t i rs)
    ⟨[], none, none, none, rfl, ⟨(fun _ h => by cases h), by simp, (fun _ h => by simp at h), (fun _ h => by simp at h), (fun _ h => by cases h), by simp, (fun _ h => by cases h)⟩⟩ (fun i x ρ hx ⟨rs, w3, w4, w5, e, h1⟩ => by
      subst e
      rw [List.getElem?_map] at hx
      obtain ⟨p, hp, rfl⟩ := Option.map_eq_some_iff.mp hx
      have hk : (keys t)[i]? = some p.1 := by unfold keys; rw [List.getElem?_map, hp]; rfl
      have hm : p.1 ∈ keys t := List.mem_of_getElem? hk
      have sl : rs.flatten.length ≤ 20 := by
        have := nodup_le h1.nd h1.sub
        rw [keys_len] at this
        omega
      have rl : rs.length ≤ 20 := by
        have := sws_len rs fun r hr => (h1.cyc r hr).ne
        omega
      refine ⟨[some (.d (tD t)), some (.lst (rs.map rD)), some (.lst (rs.flatten.map .str)), some (.d (.str p.1)), some (.d (.str p.2)), w5], ?_⟩
      by_cases hs : p.1 ∈ rs.flatten
      · refine ⟨[some (.d (tD t)), some (.lst (rs.map rD)), some (.lst (rs.flatten.map .str)), some (.d (.str p.1)), some (.d (.str p.2)), w5], by simp [pd], ?_, rs, some (.d (.str p.1)), some (.d (.str p.2)), w5, rfl, h1.skip hk hs⟩
        have ni := nin_strs p.1 rs.flatten
        rw [decide_eq_true hs] at ni
        generalize rs.flatten.map PyData.str = sn at *
        simp [ni]
      · obtain ⟨q, q1, q2, q3, q4, hw⟩ := ring2_ok T ht (h1.cl T) (.lst (rs.map rD)) (.lst (rs.flatten.map .str)) p.1 (some (.d (.str p.2))) hm hs
        have M := h1.more T hk q1 q2 q3 q4
        have ql : (p.1 :: q).length ≤ 20 := by
          have := nodup_le q1 q2
          rw [keys_len] at this
          omega
        have ex := ext_l (a := rs.flatten.map PyData.str) (b := (p.1 :: q).map PyData.str) (by rw [List.length_map, List.length_map]; omega)
        rw [← List.map_append] at ex
        have ap := app1 (rs.map rD) (rD (p.1 :: q)) (by rw [List.length_map]; omega)
        have fl : (rs ++ [p.1 :: q]).flatten = rs.flatten ++ (p.1 :: q) := by simp
        refine ⟨[some (.d (tD t)), some (.lst (rs.map rD ++ [rD (p.1 :: q)])), some (.lst ((rs.flatten ++ (p.1 :: q)).map .str)), some (.d (.str p.1)), some (.d (.str p.2)), some (.lst ((p.1 :: q).map .str))], by simp [pd], ?_, rs ++ [p.1 :: q], some (.d (.str p.1)), some (.d (.str p.2)), some (.lst ((p.1 :: q).map .str)), by rw [fl, List.map_append (f := rD)]; rfl, M⟩
        have ni := nin_strs p.1 rs.flatten
        rw [decide_eq_false hs] at ni
        have tu : tupD (.list ((p.1 :: q).map .str)) = some (rD (p.1 :: q)) := rfl
        generalize rD (p.1 :: q) = z1 at *
        generalize (p.1 :: q).map PyData.str = z2 at *
        generalize (rs.flatten ++ (p.1 :: q)).map PyData.str = z3 at *
        generalize rs.flatten.map PyData.str = sn at *
        simp [ni]
        simp [hw, ex, tu, ap])
  rw [List.length_map] at h1
  refine ⟨rs, h1.done T, ?_⟩
  generalize t.map pd = tp at *
  generalize rs.map rD = tr at *
  generalize rs.flatten.map PyData.str = sn at *
  refine fn_ok (ρ' := [some (.d (tD t)), none, some (.lst sn), w3, w4, w5]) rfl ?_ rfl
  unfold m_rounds_of
  refine (seq_nx (ρ1 := [some (.d (tD t)), none, none, none, none, none]) (by simp [sy])).trans ?_
  refine (seq_nx (ρ1 := [some (.d (tD t)), some (.lst []), none, none, none, none]) (by simp)).trans ?_
  refine (seq_nx (ρ1 := [some (.d (tD t)), some (.lst []), some (.lst []), none, none, none]) (by simp)).trans ?_
  refine (seq_nx (ρ1 := [some (.d (tD t)), some (.lst tr), some (.lst sn), w3, w4, w5]) (by simp [it]; exact f1)).trans ?_
  simp
/-! ### swaps_of -/
theorem Turn.swaps {t : PL} (T : Turn t) (ht : t.length ≤ 20) {rs : List (List Str)} (R : Rnds t rs) (e : f_rounds_of [.d (tD t)] = .ok (.lst (rs.map rD)) [some (.d (tD t))]) : f_swaps_of [.d (tD t)] = .ok (.lst ((swsOf rs).map pd)) [some (.d (tD t))] := by
  have it : itemsD (.list (rs.map rD)) = some (rs.map rD) := rfl
  have sum := R.sum
  obtain ⟨ρ', f1, w2, w3, rfl⟩ := forGo_inv (t := tStar 1 (tsCons (tName 2) (tsCons (tName 3) tsNil))) (b := b2_swaps_of) (xs := rs.map rD) (ρ := [some (.d (tD t)), some (.lst []), none, none, none])
    (fun i ρ => ∃ (w2 w3 : Option OV), ρ = [some (.d (tD t)), some (.lst ((swsOf (rs.take i)).map pd)), w2, w3, none])
    ⟨none, none, rfl⟩ (fun i x ρ hx ⟨w2, w3, e⟩ => by
      subst e
      rw [List.getElem?_map] at hx
      obtain ⟨r, hr, rfl⟩ := Option.map_eq_some_iff.mp hx
      have hm := List.mem_of_getElem? hr
      obtain ⟨a, q, rfl⟩ := List.exists_cons_of_ne_nil (R.cyc _ hm).ne
      have tk : rs.take (i + 1) = rs.take i ++ [a :: q] := by rw [List.take_add_one, hr]; rfl
      have sp : swsOf (rs.take (i + 1)) = swsOf (rs.take i) ++ q.map fun o => (a, o) := by
        rw [tk]; unfold swsOf; rw [List.flatMap_append]; simp [swR]
      have le : (swsOf (rs.take (i + 1))).length ≤ 20 := by
        have e3 : swsOf rs = swsOf (rs.take (i + 1)) ++ swsOf (rs.drop (i + 1)) := by
          unfold swsOf
          rw [← List.flatMap_append, List.take_append_drop]
        rw [e3, List.length_append] at sum
        omega
      have lc := lcGo_pure (vs := [4]) (t := tName 4) (tst := mYes) (e := e1_swaps_of) (p := fun _ => true) (g := fun y => PyData.tuple [.str a, y]) (ρ := [some (.d (tD t)), some (.lst ((swsOf (rs.take i)).map pd)), some (.d (.str a)), some (.d (.list (q.map .str))), none]) (xs := q.map .str) fun y hy =>
        ⟨_, [some (.d (tD t)), some (.lst ((swsOf (rs.take i)).map pd)), some (.d (.str a)), some (.d (.list (q.map .str))), some (.d y)], rfl, rfl, fun z => (by cases z), fun _ => ⟨_, rfl, rfl⟩⟩
      rw [filt_all] at lc
      have it2 : itemsD (.list (q.map .str)) = some (q.map .str) := rfl
      rw [sp, List.length_append] at le
      have ex := ext_l (a := (swsOf (rs.take i)).map pd) (b := (q.map PyData.str).map fun y => PyData.tuple [.str a, y]) (by rw [List.length_map, List.length_map, List.length_map]; simp at le; omega)
      have ev : ((q.map PyData.str).map fun y => PyData.tuple [.str a, y]) = (q.map fun o => (a, o)).map pd := by
        rw [List.map_map, List.map_map]; rfl
      rw [ev] at ex lc
      rw [← List.map_append, ← sp] at ex
      refine ⟨[some (.d (tD t)), some (.lst ((swsOf (rs.take i)).map pd)), some (.d (.str a)), some (.d (.list (q.map .str))), none], [some (.d (tD t)), some (.lst ((swsOf (rs.take (i + 1))).map pd)), some (.d (.str a)), some (.d (.list (q.map .str))), none], rfl, ?_, some (.d (.str a)), some (.d (.list (q.map .str))), rfl⟩
      generalize (q.map fun o => (a, o)).map pd = z1 at *
      generalize (swsOf (rs.take i)).map pd = z2 at *
      generalize (swsOf (rs.take (i + 1))).map pd = z3 at *
      generalize q.map PyData.str = z4 at *
      simp [it2, dataAt, lc, backE, ex])
  rw [List.length_map, List.take_length] at f1
  generalize rs.map rD = tr at *
  generalize (swsOf rs).map pd = sw at *
  refine fn_ok (ρ' := [some (.d (tD t)), none, w2, w3, none]) rfl ?_ rfl
  unfold m_swaps_of
  refine (seq_nx (ρ1 := [some (.d (tD t)), some (.lst []), none, none, none]) (by simp)).trans ?_
  refine (seq_nx (ρ1 := [some (.d (tD t)), some (.lst sw), w2, w3, none]) (by simp [e, it]; exact f1)).trans ?_
  simp
end SH
end
section
set_option maxRecDepth 100000
set_option maxHeartbeats 0
set_option exponentiation.threshold 3000
namespace SH
open PySem PySem.Spec PyProof.Rows L2 DL
/-! ### a drawn turn -/
theorem zinj {Z : PL} (n1 : (keys Z).Nodup) (pm : (Z.map (·.2)).Perm (keys Z)) {a b : Str} (e : ledP Z a = ledP Z b) : a = b := by
  have nd2 : (Z.map (·.2)).Nodup := pm.nodup_iff.mpr n1
  have one : ∀ {t : PL}, (t.map (·.2)).Nodup → ∀ p ∈ t, ∀ q ∈ t, p.2 = q.2 → p = q := fun {t} => by
    induction t with
    | nil => intro _ p hp; cases hp
    | cons r t ih =>
      intro n p hp q hq e
      rw [List.map_cons] at n
      obtain ⟨n1, n2⟩ := List.nodup_cons.mp n
      rcases List.mem_cons.mp hp with hp1 | hp1
      · rcases List.mem_cons.mp hq with hq1 | hq1
        · rw [hp1, hq1]
        · exact absurd (by rw [← hp1, e]; exact List.mem_map_of_mem hq1) n1
      · rcases List.mem_cons.mp hq with hq1 | hq1
        · exact absurd (by rw [← hq1, ← e]; exact List.mem_map_of_mem hp1) n1
        · exact ih n2 p hp1 q hq1 e
  have lk : ∀ {s : Str}, s ∈ keys Z → ledP Z s ∈ keys Z := fun {s} hs => by
    obtain ⟨p, hp, rfl⟩ := List.mem_map.mp hs
    rw [ledP_in n1 hp]
    exact pm.mem_iff.mp (List.mem_map_of_mem hp)
  by_cases ha : a ∈ keys Z
  · by_cases hb : b ∈ keys Z
    · obtain ⟨p, hp, rfl⟩ := List.mem_map.mp ha
      obtain ⟨q, hq, rfl⟩ := List.mem_map.mp hb
      rw [ledP_in n1 hp, ledP_in n1 hq] at e
      rw [one nd2 p hp q hq e]
    · rw [ledP_out hb] at e
      exact absurd (by rw [← e]; exact lk ha) hb
  · by_cases hb : b ∈ keys Z
    · rw [ledP_out ha] at e
      exact absurd (by rw [e]; exact lk hb) ha
    · rw [ledP_out ha, ledP_out hb] at e
      exact e
theorem keys_self {Z : PL} (n : (keys Z).Nodup) : Z = (keys Z).map fun s => (s, ledP Z s) := by
  unfold keys
  rw [List.map_map]
  have : ∀ p ∈ Z, ((fun s => (s, ledP Z s)) ∘ fun x : Str × Str => x.1) p = p := fun p hp => Prod.ext rfl (ledP_in n hp)
  rw [List.map_congr_left this, List.map_id']
theorem zip_keys {l o : List Str} (h : o.length = l.length) : keys (l.zip o) = l ∧ (l.zip o).map (·.2) = o := ⟨by
  unfold keys; exact List.map_fst_zip (by omega), List.map_snd_zip (by omega)⟩
theorem drawn_tail {q : List D} {n : Nat} {l o : List Str} {k w4 w5 w6 : Option OV} (hl : Names n l) (ho : o.Perm l) : ∃ t, Turn t ∧ (∀ s ∈ keys t, s ∈ l) ∧ (sRet (mD (mF1 tupD (mLstF (mFN sortO (mLstF (mLc [7, 8] (mZip (mVar 1) (mFrzV 3)) (tTup 2 (tsCons (tName 7) (tsCons (tName 8) tsNil))) p1__law_turn e2__law_turn)))))))
    [some (.lst q), some (.d (.list (l.map .str))), k, some (.lst (o.map .str)), w4, w5, w6, none, none] = .ok (.rt (.d (tD t))) [some (.lst q), some (.d (.list (l.map .str))), k, some (.d (.list (o.map .str))), w4, w5, w6, none, none] := by
  obtain ⟨z1, z2⟩ := zip_keys (l := l) (o := o) ho.length_eq
  have kn : (keys (l.zip o)).Nodup := by rw [z1]; exact hl.nd
  have kp : ((l.zip o).map (·.2)).Perm (keys (l.zip o)) := by rw [z1, z2]; exact ho
  have out : ∀ s, s ∉ l → ledP (l.zip o) s = s := fun s hs => ledP_out (by rw [z1]; exact hs)
  have T : Turn (mkT (ledP (l.zip o)) l) := turn_mk hl.nm out fun a b e => zinj kn kp e
  refine ⟨_, T, fun s hs => (mem_keysMk.mp hs).1, ?_⟩
  have zd : zipD (.list (l.map .str)) (.list (o.map .str)) = some ((l.zip o).map pd) := by
    show some (((l.map PyData.str).zip (o.map PyData.str)).map (fun p => PyData.tuple [p.1, p.2])) = _
    rw [List.zip_map, List.map_map]
    rfl
  have self := keys_self kn
  rw [z1] at self
  have nm : Nm2 (l.zip o) := fun p hp => by
    obtain ⟨h1, h2⟩ := List.of_mem_zip (a := p.1) (b := p.2) hp
    exact ⟨hl.nm _ h1, hl.nm _ (ho.mem_iff.mp h2)⟩
  have lc := lcGo_pure (vs := [7, 8]) (t := (tTup 2 (tsCons (tName 7) (tsCons (tName 8) tsNil)))) (tst := p1__law_turn) (e := e2__law_turn) (p := neP) (g := id) (ρ := [some (.lst q), some (.d (.list (l.map .str))), k, some (.d (.list (o.map .str))), w4, w5, w6, none, none]) (xs := (l.zip o).map pd) fun x hx => by
    obtain ⟨p, _, rfl⟩ := List.mem_map.mp hx
    refine ⟨[some (.lst q), some (.d (.list (l.map .str))), k, some (.d (.list (o.map .str))), w4, w5, w6, some (.d (.str p.1)), some (.d (.str p.2))], [some (.lst q), some (.d (.list (l.map .str))), k, some (.d (.list (o.map .str))), w4, w5, w6, some (.d (.str p.1)), some (.d (.str p.2))], by simp [pd], ?_, fun _ => rfl, fun _ => ⟨_, rfl, rfl⟩⟩
    simp [ne_s, neP, pd]
    try exact Iff.rfl
  rw [List.map_id] at lc
  have fe : ((l.zip o).map pd).filter neP = ((l.zip o).filter fun p => !decide (p.1 = p.2)).map pd := by
    rw [List.filter_map]; rfl
  have fs : ((l.zip o).filter fun p => !decide (p.1 = p.2)) = (l.filter fun s => !decide (s = ledP (l.zip o) s)).map fun s => (s, ledP (l.zip o) s) := by
    generalize ledP (l.zip o) = f at self ⊢
    rw [self, List.filter_map]
    rfl
  rw [fe] at lc
  have so := sortO_pd (l := (l.zip o).filter fun p => !decide (p.1 = p.2)) fun p hp => nm p (List.mem_filter.mp hp).1
  have se : sortP ((l.zip o).filter fun p => !decide (p.1 = p.2)) = mkT (ledP (l.zip o)) l := sortP_eq (by rw [fs]; exact (mkT_perm hl.nd).symm) (mkT_le2 _ _)
  rw [se] at so
  have tu : tupD (.list ((mkT (ledP (l.zip o)) l).map pd)) = some (tD (mkT (ledP (l.zip o)) l)) := rfl
  generalize tD (mkT (ledP (l.zip o)) l) = z at *
  generalize (mkT (ledP (l.zip o)) l).map pd = y at *
  generalize ((l.zip o).filter fun p => !decide (p.1 = p.2)).map pd = x at *
  generalize (l.zip o).map pd = v at *
  generalize l.map PyData.str = a at *
  generalize o.map PyData.str = b at *
  simp [zd, dataAt, lc, backE, so, tu]
theorem mem_ix2 {l : List Str} {i : Int} (h0 : 0 ≤ i) (h1 : i < l.length) : ixD (.list (l.map .str)) (.int i) = some (.str (l[i.toNat]'(by omega))) ∧ ixN (l.map PyData.str).length i = some i.toNat := by
  have e : ixN (l.map PyData.str).length i = some i.toNat := by
    unfold ixN
    rw [if_pos h0, if_pos (by rw [List.length_map]; exact h1)]
  refine ⟨?_, e⟩
  obtain ⟨x, e1, e2⟩ := atI_nat (xs := l.map PyData.str) h0 (by rw [List.length_map]; exact h1)
  rw [List.getElem?_map, List.getElem?_eq_getElem (by omega)] at e2
  simp at e2
  rw [← e2] at e1
  exact e1
theorem swap_perm {α : Type} (l : List α) {i j : Nat} (hi : i < l.length) (hj : j < l.length) : ((l.set i l[j]).set j l[i]).Perm l := by
  exact List.set_set_perm hi hj
theorem perm_map {ys : List D} {l : List Str} (h : ys.Perm (l.map .str)) : ∃ o : List Str, o.Perm l ∧ ys = o.map .str := by
  have st : ∀ y ∈ ys, ∃ s, y = .str s := fun y hy => by
    obtain ⟨s, _, e⟩ := List.mem_map.mp (h.mem_iff.mp hy)
    exact ⟨s, e.symm⟩
  let un : D → Str := fun x => match x with
    | .str s => s
    | _ => ""
  refine ⟨ys.map un, ?_, ?_⟩
  · have := h.map un
    rw [List.map_map] at this
    have e : (un ∘ PyData.str) = id := rfl
    rw [e, List.map_id] at this
    exact this
  · rw [List.map_map]
    have : ∀ y ∈ ys, (PyData.str ∘ un) y = y := fun y hy => by
      obtain ⟨s, rfl⟩ := st y hy
      rfl
    rw [List.map_congr_left this, List.map_id']
theorem drawn_ok {B : Nat} (hB : B < 2 ^ 47) {p : List D} (h : Pile B p) {n : Nat} {l : List Str} (hl : Names n l) (h1 : 1 ≤ l.length) (h6 : n ≤ 8) : ∃ (t : PL) (p' : List D), Turn t ∧ (∀ s ∈ keys t, s ∈ l) ∧ Pile (B + 12) p' ∧ f__law_turn [.lst p, .d (.list (l.map .str))] = .ok (.d (tD t)) [some (.lst p'), some (.d (.list (l.map .str)))] := by
  have h6 : l.length ≤ 8 := Nat.le_trans hl.len h6
  obtain ⟨kd, p1, q0, q1, hp1, e1⟩ := take_ok (by omega) h 3 (by omega) (by omega)
  have len : lenD (.list (l.map .str)) = some (.int (l.length : Nat)) := by
    show some (PyData.int ((l.map PyData.str).length : Nat)) = _
    rw [List.length_map]
  have ls : listD (.list (l.map .str)) = some (l.map .str) := rfl
  have : kd = 0 ∨ kd = 1 ∨ kd = 2 := by omega
  rcases this with rfl | rfl | rfl
  · obtain ⟨t, T, hk, et⟩ := drawn_tail (q := p1) (k := some (.d (.int 0))) (w4 := none) (w5 := none) (w6 := none) hl (.refl l)
    refine ⟨t, p1, T, hk, hp1.up (by omega), ?_⟩
    generalize tD t = z at *
    generalize l.map PyData.str = a at *
    simp only [f__law_turn, m__law_turn, fnOf]
    simp only [sSeq_d]
    simp [e1, eq_i, ls, -sRet_d]
    rw [et]
    simp [outsOf]
  · obtain ⟨i, p2, i0, i1, hp2, e2⟩ := take_ok (by omega) hp1 (l.length : Nat) (by omega) (by omega)
    obtain ⟨j, p3, j0, j1, hp3, e3⟩ := take_ok (by omega) hp2 (l.length : Nat) (by omega) (by omega)
    obtain ⟨x1, ni⟩ := mem_ix2 (l := l) i0 i1
    obtain ⟨y1, nj⟩ := mem_ix2 (l := l) j0 j1
    have hi : i.toNat < l.length := by omega
    have hj : j.toNat < l.length := by omega
    have pm := swap_perm l hi hj
    obtain ⟨t, T, hk, et⟩ := drawn_tail (q := p3) (k := some (.d (.int 1))) (w4 := some (.d (.int i))) (w5 := some (.d (.int j))) (w6 := some (.d (.str l[i.toNat]))) hl pm
    refine ⟨t, p3, T, hk, hp3.up (by omega), ?_⟩
    rw [List.map_set, List.map_set] at et
    have nj2 : ixN ((l.map PyData.str).set i.toNat (.str l[j.toNat])).length j = some j.toNat := by rw [List.length_set]; exact nj
    generalize l[i.toNat] = u at *
    generalize l[j.toNat] = v at *
    generalize tD t = z at *
    generalize l.map PyData.str = a at *
    simp only [f__law_turn, m__law_turn, fnOf]
    simp only [sSeq_d]
    simp [e1, eq_i, ls, len, e2, e3, x1, y1, ni, nj, nj2, -sRet_d]
    rw [et]
    simp [outsOf]
  · obtain ⟨ys, p2, pm, hp2, e2⟩ := order_ok (by omega) hp1 (l.map .str) (by rw [List.length_map]; omega) fun x hx => by
      obtain ⟨s, hs, rfl⟩ := List.mem_map.mp hx
      exact (hl.nm s hs).lay
    obtain ⟨o, ho, hm⟩ := perm_map pm
    subst hm
    obtain ⟨t, T, hk, et⟩ := drawn_tail (q := p2) (k := some (.d (.int 2))) (w4 := none) (w5 := none) (w6 := none) hl ho
    refine ⟨t, p2, T, hk, hp2.up (by rw [List.length_map]; omega), ?_⟩
    generalize tD t = z at *
    generalize l.map PyData.str = a at *
    generalize o.map PyData.str = b at *
    simp only [f__law_turn, m__law_turn, fnOf]
    simp only [sSeq_d]
    simp [e1, eq_i, ls, e2, -sRet_d]
    rw [et]
    simp [outsOf]
theorem turn2_eq : f__law_turn_2 = f__law_turn := rfl
end SH
end
section
set_option maxRecDepth 100000
set_option maxHeartbeats 0
set_option exponentiation.threshold 3000
namespace SH
open PySem PySem.Spec PyProof.Rows L2 DL
theorem range_ok (n : Nat) (h : n ≤ 1000) : range1 (.int n) = some (rangeL 0 n) := by
  have big := size_big
  have h : (n : Int).toNat ≤ sizeLine ∧ -(2 ^ 62) ≤ (n : Int) := ⟨by omega, by omega⟩
  have e : range1 (.int n) = if (n : Int).toNat ≤ sizeLine ∧ -(2 ^ 62) ≤ (n : Int) then some (rangeL 0 (n : Int).toNat) else none := rfl
  rw [e, if_pos h, Int.toNat_natCast]
theorem range_at {n i : Nat} {x : D} (h : (rangeL 0 n)[i]? = some x) : i < n ∧ x = .int (i : Nat) := by
  have hi : i < n := by
    have := (List.getElem?_eq_some_iff.mp h).1
    unfold rangeL at this
    simpa using this
  refine ⟨hi, ?_⟩
  unfold rangeL at h
  rw [List.getElem?_map, List.getElem?_range hi] at h
  simpa using h.symm
theorem range_len (n : Nat) : (rangeL 0 n).length = n := by unfold rangeL; simp
theorem name_at {l : List Str} {i : Int} (h0 : 0 ≤ i) (h1 : i < l.length) : ∃ s ∈ l, ixD (.list (l.map .str)) (.int i) = some (.str s) := by
  obtain ⟨x, e, hx⟩ := mem_ix (xs := l.map .str) h0 (by rw [List.length_map]; exact h1)
  obtain ⟨s, hs, rfl⟩ := List.mem_map.mp hx
  exact ⟨s, hs, e⟩
theorem len_l (xs : List D) : lenD (.list xs) = some (.int (xs.length : Nat)) := rfl
theorem len_t (t : PL) : lenD (tD t) = some (.int (t.length : Nat)) := by
  show some (PyData.int ((t.map pd).length : Nat)) = _
  rw [List.length_map]
theorem len_m {α : Type} (f : α → D) (l : List α) : lenD (.list (l.map f)) = some (.int (l.length : Nat)) := by
  show some (PyData.int ((l.map f).length : Nat)) = _
  rw [List.length_map]
theorem il (xs : List D) : itemsD (.list xs) = some xs := rfl
theorem ll (xs : List D) : listD (.list xs) = some xs := rfl
/-! _law_are_swaps -/
theorem are_swaps_ok {sw : PL} (h : Nm2 sw) (ne : ∀ p ∈ sw, p.1 ≠ p.2) : f__law_are_swaps [.d (.list (sw.map pd))] = .ok (.d (.bool true)) [some (.d (.list (sw.map pd)))] := by
  obtain ⟨ρ', f1, w1, rfl⟩ := forGo_inv (t := tName 1) (b := b1__law_are_swaps) (xs := sw.map pd) (ρ := [some (.d (.list (sw.map pd))), none])
    (fun i ρ => ∃ w1, ρ = [some (.d (.list (sw.map pd))), w1]) ⟨none, rfl⟩ fun i x ρ hx ⟨w1, e⟩ => by
      subst e
      rw [List.getElem?_map] at hx
      obtain ⟨p, hp, rfl⟩ := Option.map_eq_some_iff.mp hx
      have hm := List.mem_of_getElem? hp
      refine ⟨[some (.d (.list (sw.map pd))), some (.d (pd p))], [some (.d (.list (sw.map pd))), some (.d (pd p))], rfl, ?_, some (.d (pd p)), rfl⟩
      have is : isiD .tup (pd p) = some (.bool true) := rfl
      have i0 : ixD (pd p) (.int 0) = some (.str p.1) := rfl
      have i1 : ixD (pd p) (.int 1) = some (.str p.2) := rfl
      have len : lenD (pd p) = some (.int 2) := rfl
      have na := law_is_name_ok (.str p.1) (h p hm).1.fit
      have nb := law_is_name_ok (.str p.2) (h p hm).2.fit
      rw [nmB_of (h p hm).1] at na
      rw [nmB_of (h p hm).2] at nb
      have n := ne p hm
      generalize pd p = pp at *
      simp [is, len, ne_i, i0, i1, na, nb, eq_s, n]
  have is : isiD .lst (.list (sw.map pd)) = some (.bool true) := rfl
  have it := il (sw.map pd)
  generalize sw.map pd = ps at *
  refine fn_ok (ρ' := [some (.d (.list ps)), w1]) rfl ?_ rfl
  unfold m__law_are_swaps
  refine (seq_nx (ρ1 := [some (.d (.list ps)), none]) (by simp [is])).trans ?_
  refine (seq_nx (ρ1 := [some (.d (.list ps)), w1]) (by simp [it]; exact f1)).trans ?_
  simp
theorem Names.fit {n : Nat} {l : List Str} (h : Names n l) {t : PL} (T : Turn t) (hk : ∀ s ∈ keys t, s ∈ l) : t.length ≤ n := by
  have := nodup_le (ltN_nodup T.srt) hk
  rw [keys_len] at this
  exact Nat.le_trans this h.len
end SH
end
section
set_option maxRecDepth 100000
set_option maxHeartbeats 0
set_option exponentiation.threshold 3000
namespace SH
open PySem PySem.Spec PyProof.Rows L2 DL
theorem okSlot_d (z : Option D) : okSlot true (z.map .d) (z.map .d) := by
  cases z with
  | none => exact trivial
  | some x => exact .inr ⟨rfl, rfl⟩
theorem flat_pd (p : Str × Str) : flatB (pd p) = true := rfl
theorem flat_pl (l : PL) : flatL (l.map pd) = true := flatL_of fun x hx => by
  obtain ⟨p, _, rfl⟩ := List.mem_map.mp hx
  rfl
theorem flat_strs (l : List Str) : flatL (l.map .str) = true := flatL_of fun x hx => by
  obtain ⟨p, _, rfl⟩ := List.mem_map.mp hx
  rfl
theorem flat_rD (r : List Str) : flatB (SH.rD r) = true := flat_strs r
theorem _root_.SH.Pile.flat {B : Nat} {q : List D} (h : Pile B q) : flatL q = true := by
  obtain ⟨a, b, c, e, _⟩ := h.ex
  subst e
  rfl
theorem okS_same (x : D) : okSlot true (some (.d x)) (some (.d x)) := .inr ⟨rfl, rfl⟩
theorem okS_flat {k : Bool} {a : Option OV} {x : D} (h : flatB x = true) : okSlot k a (some (.d x)) := .inl h
theorem okS_lst {k : Bool} {a : Option OV} {ys : List D} (h : flatL ys = true) : okSlot k a (some (.lst ys)) := h
theorem okS_no {k : Bool} {a : Option OV} : okSlot k a none := trivial
end SH
end
section
set_option maxRecDepth 100000
set_option maxHeartbeats 0
set_option exponentiation.threshold 3000
namespace SH
open PySem PySem.Spec PyProof.Rows L2 DL
/-! ### where the law leads a name -/
theorem led_first (t : PL) (s : Str) : ∃ l : List Str, ((t.filter fun p => decide (p.1 = s)).map (·.2)) ++ [s] = ledP t s :: l := by
  induction t with
  | nil => exact ⟨[], rfl⟩
  | cons p t ih =>
    by_cases h : p.1 = s
    · have e : ledP (p :: t) s = p.2 := if_pos h
      rw [List.filter_cons_of_pos (by simpa using h), e]
      exact ⟨_, rfl⟩
    · have e : ledP (p :: t) s = ledP t s := if_neg h
      rw [List.filter_cons_of_neg (by simpa using h), e]
      exact ih
def keyP (s : Str) (x : D) : Bool := decide (keyS x = s)
theorem law_to_ok {t : PL} (hl : t.length ≤ 20) (s : Str) : f__law_to [.d (tD t), .d (.str s)] = .ok (.d (.str (ledP t s))) [some (.d (tD t)), some (.d (.str s))] := by
  have lc := lcGo_pure (vs := [2, 3]) (t := (tTup 2 (tsCons (tName 2) (tsCons (tName 3) tsNil)))) (tst := p1__law_to) (e := mVar 3) (p := keyP s) (g := toD) (ρ := [some (.d (tD t)), some (.d (.str s)), none, none]) (xs := t.map pd) fun x hx => by
    obtain ⟨p, _, rfl⟩ := List.mem_map.mp hx
    refine ⟨[some (.d (tD t)), some (.d (.str s)), some (.d (.str p.1)), some (.d (.str p.2))], [some (.d (tD t)), some (.d (.str s)), some (.d (.str p.1)), some (.d (.str p.2))], by simp [pd], ?_, fun _ => rfl, fun _ => ⟨[some (.d (tD t)), some (.d (.str s)), some (.d (.str p.1)), some (.d (.str p.2))], rfl, rfl⟩⟩
    simp [eq_s, keyP]
    rfl
  obtain ⟨l, hl2⟩ := led_first t s
  have e1 : ((t.map pd).filter (keyP s)).map toD = ((t.filter fun p => decide (p.1 = s)).map (·.2)).map .str := by
    rw [List.filter_map, List.map_map, List.map_map]; rfl
  have fl : ((t.filter fun p => decide (p.1 = s)).map (·.2)).length ≤ 20 := by
    rw [List.length_map]
    exact Nat.le_trans (List.length_filter_le _ _) hl
  rw [e1] at lc
  have ad := add_l (a := ((t.filter fun p => decide (p.1 = s)).map (·.2)).map PyData.str) (b := [.str s]) (by rw [List.length_map]; simp only [List.length_singleton]; omega)
  rw [show ((t.filter fun p => decide (p.1 = s)).map (·.2)).map PyData.str ++ [PyData.str s] = (ledP t s :: l).map .str by rw [← hl2, List.map_append]; rfl] at ad
  have ix : ixD (.list ((ledP t s :: l).map .str)) (.int 0) = some (.str (ledP t s)) := by
    obtain ⟨x, e1, e2⟩ := atI_nat (xs := (ledP t s :: l).map PyData.str) (i := 0) (by omega) (by simp)
    simp at e2
    rw [← e2] at e1
    exact e1
  have it := items_t t
  generalize ((t.filter fun p => decide (p.1 = s)).map (·.2)).map PyData.str = a at *
  generalize (ledP t s :: l).map PyData.str = b at *
  generalize t.map pd = c at *
  simp [f__law_to, m__law_to, fnOf, it, dataAt, lc, backE, ad, ix, outsOf]
/-! ### a told round -/
theorem rot1_get {r : List Str} {k : Nat} (h : k < r.length) (h2 : k < (rot1 r).length) : (rot1 r)[k] = r[(k + 1) % r.length]'(Nat.mod_lt _ (by omega)) := by
  cases r with
  | nil => cases h
  | cons a q =>
    simp only [rot1]
    rw [List.length_cons] at h
    by_cases e : k < q.length
    · have : (k + 1) % (a :: q).length = k + 1 := Nat.mod_eq_of_lt (by rw [List.length_cons]; omega)
      rw [List.getElem_append_left e]
      simp only [this]
      rw [List.getElem_cons_succ]
    · have ek : k = q.length := by omega
      subst ek
      have : (q.length + 1) % (a :: q).length = 0 := by rw [List.length_cons]; exact Nat.mod_self _
      simp only [this]
      simp
theorem Cyc.get {f : Str → Str} {r : List Str} (c : Cyc f r) {k : Nat} (h : k < r.length) : f r[k] = r[(k + 1) % r.length]'(Nat.mod_lt _ (by omega)) := by
  have e := c.go
  have h2 : k < (rot1 r).length := by rw [← e, List.length_map]; exact h
  rw [← rot1_get h h2]
  have : (r.map f)[k]'(by rw [List.length_map]; exact h) = (rot1 r)[k] := by simp only [e]
  rw [← this, List.getElem_map]
theorem allS (l : List Str) : allStr (l.map .str) = some l := allStr_map l
theorem min_ok {a : Str} {q : List Str} (h : ∀ s ∈ q, ltN a s) : mnD (SH.rD (a :: q)) = some (.str a) := by
  have e : mnD (SH.rD (a :: q)) = some (.str (q.foldl (fun x y => if ltS y x = true then y else x) a)) := by
    unfold mnD bestD
    have : seqOf (SH.rD (a :: q)) = some ((a :: q).map .str) := rfl
    rw [this, Option.bind_some, allS]
  rw [e]
  clear e
  have : q.foldl (fun x y => if ltS y x = true then y else x) a = a := by
    induction q with
    | nil => rfl
    | cons b q ih =>
      have hb := (h b (by simp)).1
      have : ltS b a = false := by
        unfold ltS
        unfold leS at hb
        rw [decide_eq_true_eq] at hb
        simp [List.not_lt.mpr hb]
      rw [List.foldl_cons, this, if_neg Bool.false_ne_true]
      exact ih fun s hs => h s (by simp [hs])
  rw [this]
theorem ix_r {r : List Str} {k : Nat} (h : k < r.length) : ixD (SH.rD r) (.int (k : Nat)) = some (.str r[k]) := by
  obtain ⟨x, e1, e2⟩ := atI_nat (xs := r.map PyData.str) (i := (k : Nat)) (by omega) (by rw [List.length_map]; omega)
  rw [Int.toNat_natCast, List.getElem?_map, List.getElem?_eq_getElem h] at e2
  simp at e2
  rw [← e2] at e1
  exact e1
theorem is_round_ok {t : PL} (T : Turn t) (hl : t.length ≤ 20) {r : List Str} (c : Cyc (ledP t) r) (two : 2 ≤ r.length) (least : ∀ a q, r = a :: q → ∀ s ∈ q, ltN a s) : f__law_is_round [.d (tD t), .d (SH.rD r)] = .ok (.d (.bool true)) [some (.d (tD t)), some (.d (SH.rD r))] := by
  have len : lenD (SH.rD r) = some (.int (r.length : Nat)) := by
    show some (PyData.int ((r.map PyData.str).length : Nat)) = _
    rw [List.length_map]
  have is : isiD .tup (SH.rD r) = some (.bool true) := rfl
  obtain ⟨a, q, e⟩ := List.exists_cons_of_ne_nil c.ne
  have mn : mnD (SH.rD r) = some (.str a) := by rw [e]; exact min_ok (least a q e)
  have i0 : ixD (SH.rD r) (.int 0) = some (.str a) := by subst e; exact ix_r (r := a :: q) (k := 0) (by simp)
  have en : enumA (SH.rD r) = some (enumD (r.map .str)) := rfl
  have lc := lcGo_pure (vs := [2, 3]) (t := (tTup 2 (tsCons (tName 2) (tsCons (tName 3) tsNil)))) (tst := p1__law_is_round) (e := mVar 2) (p := fun _ => false) (g := id) (ρ := [some (.d (tD t)), some (.d (SH.rD r)), none, none]) (xs := enumD (r.map .str)) fun x hx => by
    obtain ⟨⟨y, k⟩, hk, rfl⟩ := List.mem_map.mp hx
    obtain ⟨h1, h2, h3⟩ := List.mem_zipIdx hk
    rw [Nat.zero_add, List.length_map] at h2
    have h3 : y = .str r[k] := by simpa using h3
    subst h3
    refine ⟨[some (.d (tD t)), some (.d (SH.rD r)), some (.d (.int (k : Nat))), some (.d (.str r[k]))], [some (.d (tD t)), some (.d (SH.rD r)), some (.d (.int (k : Nat))), some (.d (.str r[k]))], by simp, ?_, fun _ => rfl, fun z => (by cases z)⟩
    have to := law_to_ok hl r[k]
    have g := c.get h2
    have md := mod_i (i := (k : Int) + 1) (j := (r.length : Int)) (by omega)
    have ec : ((k : Int) + 1) % (r.length : Int) = (((k + 1) % r.length : Nat) : Int) := by simp
    rw [ec] at md
    have ix := ix_r (r := r) (k := (k + 1) % r.length) (Nat.mod_lt _ (by omega))
    rw [← g] at ix
    generalize SH.rD r = rr at *
    generalize tD t = tt at *
    generalize (((k + 1) % r.length : Nat) : Int) = m at *
    simp [to, len, md, ix, ne_s]
  rw [List.filter_eq_nil_iff.mpr (fun _ _ => Bool.false_ne_true), List.map_nil] at lc
  have n0 : eqD (.list []) (.list []) = some (.bool true) := by
    have := eq_strs (a := []) (b := []) (by decide +kernel) (by decide +kernel)
    rw [decide_eq_true rfl] at this
    exact this
  have lt2 : ltD (.int (r.length : Nat)) (.int 2) = some (.bool false) := by
    show some (PyData.bool (decide ((r.length : Int) < 2))) = _
    rw [decide_eq_false (by omega)]
  have ns := ne_s a a
  rw [decide_eq_true rfl] at ns
  generalize enumD (r.map .str) = ed at *
  generalize SH.rD r = rr at *
  generalize tD t = tt at *
  refine fn_ok (ρ' := [some (.d tt), some (.d rr), none, none]) rfl ?_ rfl
  unfold m__law_is_round
  refine (seq_nx (ρ1 := [some (.d tt), some (.d rr), none, none]) (by simp [is, len, lt2, mn, i0, ns])).trans ?_
  simp [en, dataAt, lc, backE, n0]
/-! ### rounds in order -/
theorem lay_r {r : List Str} (h : ∀ s ∈ r, NmS s) : Lay (SH.rD r) := by
  refine ⟨?_, ?_⟩
  · unfold SH.rD
    rw [PyData.canLay0]
    refine canAll fun x hx => ?_
    obtain ⟨s, hs, rfl⟩ := List.mem_map.mp hx
    exact (h s hs).lay.1
  · have := depAll (n := 0) (xs := r.map .str) fun x hx => by
      obtain ⟨s, hs, rfl⟩ := List.mem_map.mp hx
      rw [PyData.depth]; exact Nat.le_refl _
    unfold SH.rD
    rw [PyData.depth]
    omega
theorem alike_strs : ∀ a b : List Str, PySem.W.alikeAll (a.map .str) (b.map .str) = true
  | [], _ => by rw [List.map_nil, PySem.W.alikeAll]
  | _ :: _, [] => by rw [List.map_cons, List.map_nil, PySem.W.alikeAll]
  | x :: a, y :: b => by rw [List.map_cons, List.map_cons, PySem.W.alikeAll, alike_strs a b, PySem.W.alike]; rfl
theorem sort_rounds {t : PL} (T : Turn t) {rs : List (List Str)} (R : Rnds t rs) : sortO (.list (rs.map SH.rD)) = some (rs.map SH.rD) := by
  have nm : ∀ r ∈ rs, ∀ s ∈ r, NmS s := fun r hr s hs => keys_nm2 T.nm s (R.perm.mem_iff.mp (List.mem_flatten.mpr ⟨r, hr, hs⟩))
  have ok : sortOk (rs.map SH.rD) = true := by
    unfold sortOk
    rw [shaped_list fun x hx => by
      obtain ⟨r, hr, rfl⟩ := List.mem_map.mp hx
      exact lay_r (nm r hr), Bool.and_true, Bool.and_eq_true, Bool.or_eq_true]
    refine ⟨?_, .inl ?_⟩
    · refine List.all_eq_true.mpr fun x hx => List.all_eq_true.mpr fun y hy => ?_
      obtain ⟨r, hr, rfl⟩ := List.mem_map.mp hx
      obtain ⟨q, hq, rfl⟩ := List.mem_map.mp hy
      unfold SH.rD
      rw [PySem.W.alike]
      exact alike_strs r q
    · refine List.all_eq_true.mpr fun x hx => ?_
      obtain ⟨r, hr, rfl⟩ := List.mem_map.mp hx
      obtain ⟨a, q, rfl⟩ := List.exists_cons_of_ne_nil (R.cyc r hr).ne
      rfl
  show (if _ then _ else _) = _
  rw [if_pos ok]
  refine congrArg some ?_
  unfold sortL
  refine List.mergeSort_of_pairwise ?_
  rw [List.pairwise_map]
  have p : rs.Pairwise fun r q => ltN (r.headD "") (q.headD "") := List.pairwise_map.mp R.rise
  refine p.imp_of_mem fun {r q} hr hq h => ?_
  obtain ⟨a, r', rfl⟩ := List.exists_cons_of_ne_nil (R.cyc r hr).ne
  obtain ⟨b, q', rfl⟩ := List.exists_cons_of_ne_nil (R.cyc q hq).ne
  have h : ltN a b := h
  rw [dataLe_lt]
  unfold SH.rD
  rw [PySem.W.dataLt_tuple, List.map_cons, List.map_cons, PySem.W.dataLt_all_no (by simp [PySem.W.alike]) (by rw [eqv_str, decide_eq_false fun e => h.2 e.symm]), PySem.W.dataLt_str, not_lt_le]
  exact h.1
theorem shaped_rs {rs : List (List Str)} (h : ∀ r ∈ rs, ∀ s ∈ r, NmS s) : SeqAt.shaped (.list (rs.map SH.rD)) = true := shaped_list fun x hx => by
  obtain ⟨r, hr, rfl⟩ := List.mem_map.mp hx
  exact lay_r (h r hr)
theorem eqvAll_rs : ∀ rs : List (List Str), PyData.eqvAll (rs.map SH.rD) (rs.map SH.rD) = true
  | [] => by rw [List.map_nil, PyData.eqvAll]
  | r :: rs => by
    rw [List.map_cons, PyData.eqvAll, eqvAll_rs rs]
    unfold SH.rD
    rw [PyData.eqv, eqvAll_strs, decide_eq_true rfl]
    rfl
theorem ne_rs {rs : List (List Str)} (h : ∀ r ∈ rs, ∀ s ∈ r, NmS s) : neD (.list (rs.map SH.rD)) (.list (rs.map SH.rD)) = some (.bool false) := by
  rw [ne_lists (shaped_rs h) (shaped_rs h), eqvAll_rs]; rfl
theorem Rnds.nmr {t : PL} (T : Turn t) {rs : List (List Str)} (R : Rnds t rs) : ∀ r ∈ rs, ∀ s ∈ r, NmS s := fun r hr s hs => keys_nm2 T.nm s (R.perm.mem_iff.mp (List.mem_flatten.mpr ⟨r, hr, hs⟩))
end SH
end
section
set_option maxRecDepth 100000
set_option maxHeartbeats 0
set_option exponentiation.threshold 3000
namespace SH
open PySem PySem.Spec PyProof.Rows L2 DL
/-! ### then_turn, apart_names -/
theorem Turn.then {t u : PL} (T : Turn t) (U : Turn u) (ht : t.length ≤ 20) (hu : u.length ≤ 20) : f_then_turn [.d (tD t), .d (tD u)] = .ok (.d (tD (SH.both t u))) [some (.d (tD t)), some (.d (tD u))] := by
  have sy := T.sure2 U ht hu
  have bo := both_ok T.nm U.nm (by omega)
  refine fn_ok (ρ' := [some (.d (tD t)), some (.d (tD u))]) rfl ?_ rfl
  unfold m_then_turn
  generalize tD (SH.both t u) = z at *
  generalize tD t = a at *
  generalize tD u = b at *
  refine (seq_nx (ρ1 := [some (.d a), some (.d b)]) (by simp [sy])).trans ?_
  simp [bo]
/-- the names that two turns lead to unlike ones -/
def apartL (t u : PL) : List Str := (sortS (onceS (keys t ++ keys u))).filter fun s => !decide (ledP t s = ledP u s)
def ledQ (t u : PL) (x : D) : Bool := match x with
  | .str s => !decide (ledP t s = ledP u s)
  | _ => false
theorem flat1 (l : PL) : (l.map pd).flatMap (fun x => [keyD x]) = (keys l).map .str := by
  unfold keys
  induction l with
  | nil => rfl
  | cons p l ih =>
    rw [List.map_cons, List.flatMap_cons, ih]; rfl
theorem allStr_keys (t : PL) : allStr ((keys t).map .str) = some (keys t) := allStr_map _
theorem setC_ok {t u v : PL} {k : Nat} (hv : v.length ≤ 20) {ρ : DL.Env} (hρ : ρ = [some (.d (tD t)), some (.d (tD u)), none, none, none]) (hk : (mVar k) ρ = .ok (tD v) ρ) : mSetC (mLcN ⟨[3, 4], (tTup 2 (tsCons (tName 3) (tsCons (tName 4) tsNil))), mYes⟩ (mItems (mVar k)) (cEnd (mTxt (mVar 3)))) ρ = .ok (keys v) ρ := by
  have cl := cLoop_pure (c := ⟨[3, 4], (tTup 2 (tsCons (tName 3) (tsCons (tName 4) tsNil))), mYes⟩) (b := cEnd (mTxt (mVar 3))) (p := fun _ => true) (g := fun x => [keyD x]) (ρ := ρ) (xs := v.map pd) fun x hx => by
    obtain ⟨p, _, rfl⟩ := List.mem_map.mp hx
    subst hρ
    exact ⟨[some (.d (tD t)), some (.d (tD u)), none, some (.d (.str p.1)), some (.d (.str p.2))], [some (.d (tD t)), some (.d (tD u)), none, some (.d (.str p.1)), some (.d (.str p.2))], by simp [pd], rfl, fun z => (by cases z), fun _ => ⟨[some (.d (tD t)), some (.d (tD u)), none, some (.d (.str p.1)), some (.d (.str p.2))], rfl, rfl⟩⟩
  rw [filt_all, flat1] at cl
  have h1 : mItems (mVar k) ρ = .ok (v.map pd) ρ := by
    rw [mItems_d, hk]; rfl
  have w : wipeE ρ [3, 4] = ρ := by subst hρ; rfl
  have b : backE ρ [3, 4] ρ = ρ := by subst hρ; rfl
  have h2 := mLcN_of (c := ⟨[3, 4], (tTup 2 (tsCons (tName 3) (tsCons (tName 4) tsNil))), mYes⟩) (b := cEnd (mTxt (mVar 3))) h1 (by subst hρ; rfl) (by rw [w]; exact cl)
  rw [w, b] at h2
  rw [mSetC_d, h2]
  show (if ((keys v).map PyData.str).length ≤ scanBound - 2 then ofO (allStr ((keys v).map .str)) ρ else .bad) = _
  rw [if_pos (by rw [List.length_map, keys_len]; unfold scanBound; omega), allStr_keys]
  rfl
theorem apart_ok {t u : PL} (T : Turn t) (U : Turn u) (ht : t.length ≤ 14) (hu : u.length ≤ 14) : f_apart_in [.d (tD t), .d (tD u)] = .ok (.lst ((apartL t u).map .str)) [some (.d (tD t)), some (.d (tD u))] := by
  have s1 := setC_ok (t := t) (u := u) (v := t) (k := 0) (by omega) (ρ := [some (.d (tD t)), some (.d (tD u)), none, none, none]) rfl rfl
  have s2 := setC_ok (t := t) (u := u) (v := u) (k := 1) (by omega) (ρ := [some (.d (tD t)), some (.d (tD u)), none, none, none]) rfl rfl
  have bd : (keys t).length + (keys u).length ≤ 30 := by rw [keys_len, keys_len]; omega
  have so : mSetOr (mSetC (mLcN ⟨[3, 4], (tTup 2 (tsCons (tName 3) (tsCons (tName 4) tsNil))), mYes⟩ (mItems (mVar 0)) (cEnd (mTxt (mVar 3))))) (mSetC (mLcN ⟨[3, 4], (tTup 2 (tsCons (tName 3) (tsCons (tName 4) tsNil))), mYes⟩ (mItems (mVar 1)) (cEnd (mTxt (mVar 3))))) [some (.d (tD t)), some (.d (tD u)), none, none, none] = .ok (keys t ++ keys u) [some (.d (tD t)), some (.d (tD u)), none, none, none] := by
    rw [mSetOr_d, s1]
    show ((mSetC _ _).bind _) = _
    rw [s2]
    exact if_pos bd
  have lc := lcGo_pure (vs := [3]) (t := tName 3) (tst := p1_apart_in) (e := mVar 3) (p := ledQ t u) (g := id) (ρ := [some (.d (tD t)), some (.d (tD u)), some (.d (.list ((sortS (onceS (keys t ++ keys u))).map .str))), none, none]) (xs := (sortS (onceS (keys t ++ keys u))).map .str) fun x hx => by
    obtain ⟨s, _, rfl⟩ := List.mem_map.mp hx
    refine ⟨[some (.d (tD t)), some (.d (tD u)), some (.d (.list ((sortS (onceS (keys t ++ keys u))).map .str))), some (.d (.str s)), none], [some (.d (tD t)), some (.d (tD u)), some (.d (.list ((sortS (onceS (keys t ++ keys u))).map .str))), some (.d (.str s)), none], by simp, ?_, fun _ => rfl, fun _ => ⟨[some (.d (tD t)), some (.d (tD u)), some (.d (.list ((sortS (onceS (keys t ++ keys u))).map .str))), some (.d (.str s)), none], rfl, rfl⟩⟩
    have l1 := led_t T.nm s
    have l2 := led_t U.nm s
    simp [l1, l2, ne_s, ledQ]
    try exact Iff.rfl
  rw [List.map_id, List.filter_map] at lc
  rw [show ((sortS (onceS (keys t ++ keys u))).filter (ledQ t u ∘ PyData.str)) = apartL t u from rfl] at lc
  have it := il ((sortS (onceS (keys t ++ keys u))).map .str)
  refine fn_ok (ρ' := [some (.d (tD t)), some (.d (tD u)), some (.d (.list ((sortS (onceS (keys t ++ keys u))).map .str))), none, none]) rfl ?_ rfl
  unfold m_apart_in
  refine (seq_nx (ρ1 := [some (.d (tD t)), some (.d (tD u)), some (.d (.list ((sortS (onceS (keys t ++ keys u))).map .str))), none, none]) (by
    generalize hz : (sortS (onceS (keys t ++ keys u))).map PyData.str = z at *
    have k : mSortK (mSetOr (mSetC (mLcN ⟨[3, 4], (tTup 2 (tsCons (tName 3) (tsCons (tName 4) tsNil))), mYes⟩ (mItems (mVar 0)) (cEnd (mTxt (mVar 3))))) (mSetC (mLcN ⟨[3, 4], (tTup 2 (tsCons (tName 3) (tsCons (tName 4) tsNil))), mYes⟩ (mItems (mVar 1)) (cEnd (mTxt (mVar 3)))))) [some (.d (tD t)), some (.d (tD u)), none, none, none] = .ok z [some (.d (tD t)), some (.d (tD u)), none, none, none] := by
      rw [mSortK_d, so, ← hz]; rfl
    simp [k, -mSortK_d])).trans ?_
  generalize (sortS (onceS (keys t ++ keys u))).map PyData.str = z at *
  simp [it, dataAt, lc, backE]
theorem Turn.apart {t u : PL} (T : Turn t) (U : Turn u) (ht : t.length ≤ 14) (hu : u.length ≤ 14) : f_apart_names [.d (tD t), .d (tD u)] = .ok (.lst ((apartL t u).map .str)) [some (.d (tD t)), some (.d (tD u))] := by
  have sy := T.sure2 U (by omega) (by omega)
  have ap := apart_ok T U ht hu
  refine fn_ok (ρ' := [some (.d (tD t)), some (.d (tD u))]) rfl ?_ rfl
  unfold m_apart_names
  generalize (apartL t u).map PyData.str = z at *
  generalize tD t = a at *
  generalize tD u = b at *
  refine (seq_nx (ρ1 := [some (.d a), some (.d b)]) (by simp [sy])).trans ?_
  simp [ap]
theorem apart_mem {t u : PL} {s : Str} : s ∈ apartL t u ↔ ledP t s ≠ ledP u s := by
  unfold apartL
  rw [List.mem_filter, mem_srt, List.mem_append]
  constructor
  · rintro ⟨_, h⟩
    simpa using h
  · intro h
    refine ⟨?_, by simpa using h⟩
    by_cases a : s ∈ keys t
    · exact .inl a
    · by_cases b : s ∈ keys u
      · exact .inr b
      · rw [ledP_out a, ledP_out b] at h
        exact absurd rfl h
theorem apart_srt (t u : PL) : (apartL t u).Pairwise ltN := (srt_once _).filter _
theorem apart_nm {t u : PL} (T : Turn t) (U : Turn u) : ∀ s ∈ apartL t u, NmS s := fun s hs => by
  unfold apartL at hs
  rw [List.mem_filter, mem_srt, List.mem_append] at hs
  rcases hs.1 with h | h
  · exact keys_nm2 T.nm s h
  · exact keys_nm2 U.nm s h
theorem apart_sym (t u : PL) : apartL t u = apartL u t := ltN_uniq (apart_srt t u) (apart_srt u t) fun x => by
  rw [apart_mem, apart_mem]; exact ne_comm
theorem apart_self (t : PL) : apartL t t = [] := List.eq_nil_iff_forall_not_mem.mpr fun x h => apart_mem.mp h rfl
/-! ### refusals of two -/
theorem sure2_no {x y : D} (hx : Fit x) (hy : Fit y) (h : (turnB x && turnB y) = false) : f_sure_turns [.d (.list [x, y])] = .ex ⟨.own "NoTurn", []⟩ := by
  have e := is_turn_ok x hx
  have e2 := is_turn_ok y hy
  have it : itemsD (.list [x, y]) = some [x, y] := rfl
  cases hb : turnB x with
  | false =>
    rw [hb] at e
    simp [f_sure_turns, m_sure_turns, fnOf, it, forGo_cons, e]
  | true =>
    rw [hb] at e h
    have h2 : turnB y = false := by simpa using h
    rw [h2] at e2
    simp [f_sure_turns, m_sure_turns, fnOf, it, forGo_cons, e, e2]
theorem refused2_ok {x y : D} (hx : Fit x) (hy : Fit y) (lx : ∀ xs, x = .tuple xs → xs.length ≤ 14) (ly : ∀ xs, y = .tuple xs → xs.length ≤ 14) : f__law_refused_2 [.d x, .d y] = .ok (.lst (if (turnB x && turnB y) = true then [] else [.str "then", .str "apart"])) [some (.d x), some (.d y)] := by
  cases h : (turnB x && turnB y) with
  | true =>
    rw [Bool.and_eq_true] at h
    obtain ⟨t, rfl, T⟩ := turn_of_B h.1
    obtain ⟨u, rfl, U⟩ := turn_of_B h.2
    have l1 : t.length ≤ 14 := by have := lx _ rfl; rwa [List.length_map] at this
    have l2 : u.length ≤ 14 := by have := ly _ rfl; rwa [List.length_map] at this
    have th := T.then U (by omega) (by omega)
    have ap := T.apart U l1 l2
    rw [if_pos rfl]
    generalize tD (SH.both t u) = z at *
    generalize (apartL t u).map PyData.str = y at *
    generalize tD t = a at *
    generalize tD u = b at *
    refine fn_ok (ρ' := [some (.d a), some (.d b), none]) rfl ?_ rfl
    unfold m__law_refused_2
    refine (seq_nx (ρ1 := [some (.d a), some (.d b), some (.lst [])]) (by simp)).trans ?_
    rw [seq_nx (ρ1 := [some (.d a), some (.d b), some (.lst [])]) (by
      rw [try_ok (ρ1 := [some (.d a), some (.d b), some (.lst [])]) (f := .nx) (by simp [th])])]
    rw [seq_nx (ρ1 := [some (.d a), some (.d b), some (.lst [])]) (by
      rw [try_ok (ρ1 := [some (.d a), some (.d b), some (.lst [])]) (f := .nx) (by simp [ap])])]
    simp
  | false =>
    have sn := sure2_no hx hy h
    have th : f_then_turn [.d x, .d y] = .ex ⟨.own "NoTurn", []⟩ := by simp [f_then_turn, m_then_turn, fnOf, sn]
    have ap : f_apart_names [.d x, .d y] = .ex ⟨.own "NoTurn", []⟩ := by simp [f_apart_names, m_apart_names, fnOf, sn]
    rw [if_neg Bool.false_ne_true]
    refine fn_ok (ρ' := [some (.d x), some (.d y), none]) rfl ?_ rfl
    unfold m__law_refused_2
    refine (seq_nx (ρ1 := [some (.d x), some (.d y), some (.lst [])]) (by simp)).trans ?_
    rw [seq_nx (ρ1 := [some (.d x), some (.d y), some (.lst [.str "then"])]) (by
      rw [try_ex (ρ1 := [some (.d x), some (.d y), some (.lst [])]) (ξ := ⟨.own "NoTurn", []⟩) (by simp [th])]
      exact tryH_yes rfl (by simp [app1]))]
    rw [seq_nx (ρ1 := [some (.d x), some (.d y), some (.lst [.str "then", .str "apart"])]) (by
      rw [try_ex (ρ1 := [some (.d x), some (.d y), some (.lst [.str "then"])]) (ξ := ⟨.own "NoTurn", []⟩) (by simp [ap])]
      exact tryH_yes rfl (by simp [app1]))]
    simp
def strF (f : Str → Str) : D → D
  | .str s => .str (f s)
  | x => x
theorem table_ok {t : PL} (hl : t.length ≤ 20) (l : List Str) : f__law_table [.d (tD t), .d (.list (l.map .str))] = .ok (.lst ((l.map (ledP t)).map .str)) [some (.d (tD t)), some (.d (.list (l.map .str)))] := by
  have lc := lcGo_pure (vs := [2]) (t := tName 2) (tst := mYes) (e := e1__law_table) (p := fun _ => true) (g := strF (ledP t)) (ρ := [some (.d (tD t)), some (.d (.list (l.map .str))), none]) (xs := l.map .str) fun x hx => by
    obtain ⟨s, _, rfl⟩ := List.mem_map.mp hx
    refine ⟨[some (.d (tD t)), some (.d (.list (l.map .str))), some (.d (.str s))], [some (.d (tD t)), some (.d (.list (l.map .str))), some (.d (.str s))], by simp, rfl, fun z => (by cases z), fun _ => ⟨[some (.d (tD t)), some (.d (.list (l.map .str))), some (.d (.str s))], ?_, rfl⟩⟩
    have := law_to_ok hl s
    simp [this, strF]
  rw [filt_all, List.map_map] at lc
  have it := il (l.map .str)
  have e : l.map (strF (ledP t) ∘ PyData.str) = (l.map (ledP t)).map .str := by rw [List.map_map]; rfl
  rw [e] at lc
  generalize (l.map (ledP t)).map PyData.str = z at *
  generalize l.map PyData.str = y at *
  simp [f__law_table, m__law_table, fnOf, it, dataAt, lc, backE, outsOf]
end SH
end
section
set_option maxRecDepth 100000
set_option maxHeartbeats 0
set_option exponentiation.threshold 3000
namespace SH
open PySem PySem.Spec PyProof.Rows L2 DL
/-! ### how long the rounds are -/
def lens (rs : List (List Str)) : List Int := rs.map fun r => (r.length : Int)
theorem bring2 {f : Str → Str} {rs : List (List Str)} {x : Str} (c : ∀ r ∈ rs, Cyc f r) (hx : x ∈ rs.flatten) : ∃ u rest, Cyc f (x :: u) ∧ (∀ r ∈ rest, Cyc f r) ∧ ((x :: u) :: rest).flatten.Perm rs.flatten ∧ (lens ((x :: u) :: rest)).Perm (lens rs) := by
  obtain ⟨r, hr, hxr⟩ := List.mem_flatten.mp hx
  obtain ⟨l1, l2, rfl⟩ := List.append_of_mem hr
  obtain ⟨u, v, rfl⟩ := List.append_of_mem hxr
  refine ⟨v ++ u, l1 ++ l2, (c _ hr).rot u (x :: v), fun r h => c r ?_, ?_, ?_⟩
  · rcases List.mem_append.mp h with h | h
    · exact List.mem_append_left _ h
    · exact List.mem_append_right _ (List.mem_cons_of_mem _ h)
  · simp only [List.flatten_cons, List.flatten_append]
    refine (List.perm_append_comm_assoc _ _ _).trans (List.Perm.append_left _ (List.Perm.append_right _ ?_))
    exact List.perm_append_comm (l₁ := x :: v) (l₂ := u)
  · unfold lens
    rw [List.map_cons, List.map_append, List.map_append, List.map_cons]
    have : ((x :: (v ++ u)).length : Int) = ((u ++ x :: v).length : Int) := by simp; omega
    rw [this]
    exact List.perm_middle.symm
theorem parts_lens {f : Str → Str} : ∀ (rs qs : List (List Str)), (∀ r ∈ rs, Cyc f r) → (∀ r ∈ qs, Cyc f r) → rs.flatten.Nodup → rs.flatten.Perm qs.flatten → (lens rs).Perm (lens qs)
  | [], qs, _, c2, _, p => by
    cases qs with
    | nil => exact .refl _
    | cons r qs =>
      have := p.symm.eq_nil
      rw [List.flatten_cons, List.append_eq_nil_iff] at this
      exact absurd this.1 (c2 r (by simp)).ne
  | r :: rs, qs, c1, c2, n, p => by
    have hr := c1 r (by simp)
    obtain ⟨a, q, rfl⟩ := List.exists_cons_of_ne_nil hr.ne
    obtain ⟨u, rest, k1, k2, k3, k4⟩ := bring2 c2 (x := a) (p.mem_iff.mp (by simp))
    have n2 : ((a :: u) :: rest).flatten.Nodup := (k3.trans p.symm).nodup_iff.mpr n
    rw [List.flatten_cons] at n n2
    have pr : (a :: q).Perm (a :: u) := (List.perm_ext_iff_of_nodup (List.nodup_append.mp n).1 (List.nodup_append.mp n2).1).mpr fun x =>
      ⟨hr.sub (a := a) (by simp) (fun s => k1.mem) (by simp) x, k1.sub (a := a) (by simp) (fun s => hr.mem) (by simp) x⟩
    have p2 : rs.flatten.Perm rest.flatten := by
      have := p.trans k3.symm
      rw [List.flatten_cons, List.flatten_cons] at this
      exact (List.perm_append_left_iff (a :: q)).mp (this.trans (List.Perm.append_right _ pr.symm))
    have ih := parts_lens rs rest (fun r h => c1 r (by simp [h])) k2 (List.nodup_append.mp n).2.1 p2
    refine List.Perm.trans ?_ k4
    show (((a :: q).length : Int) :: lens rs).Perm (((a :: u).length : Int) :: lens rest)
    rw [pr.length_eq]
    exact ih.cons _
theorem Cyc.conj {f g v : Str → Str} {r : List Str} (c : Cyc f r) (h : ∀ s, g (v s) = v (f s)) : Cyc g (r.map v) := by
  refine ⟨by simpa using c.ne, ?_⟩
  rw [List.map_map]
  have e : r.map (g ∘ v) = (r.map f).map v := by rw [List.map_map]; exact List.map_congr_left fun s _ => h s
  rw [e, c.go]
  cases r with
  | nil => rfl
  | cons a q => simp [rot1]
theorem map_flatten (v : Str → Str) : ∀ rs : List (List Str), (rs.map fun r => r.map v).flatten = rs.flatten.map v
  | [] => rfl
  | r :: rs => by rw [List.map_cons, List.flatten_cons, List.flatten_cons, List.map_append, map_flatten v rs]
theorem nodup_map {v : Str → Str} (inj : ∀ a b, v a = v b → a = b) : ∀ {l : List Str}, l.Nodup → (l.map v).Nodup
  | [], _ => .nil
  | a :: l, h => by
    obtain ⟨h1, h2⟩ := List.nodup_cons.mp h
    rw [List.map_cons]
    refine List.nodup_cons.mpr ⟨fun z => ?_, nodup_map inj h2⟩
    obtain ⟨b, hb, e⟩ := List.mem_map.mp z
    exact h1 (by rw [inj _ _ e.symm]; exact hb)
/-- a turn turned by another has rounds as long -/
theorem lens_conj {t u v : PL} (T : Turn t) (U : Turn u) (V : Turn v) (h : ∀ s, ledP u (ledP v s) = ledP v (ledP t s)) {rs qs : List (List Str)} (R : Rnds t rs) (Q : Rnds u qs) : (lens qs).Perm (lens rs) := by
  have c : ∀ r ∈ rs.map (fun r => r.map (ledP v)), Cyc (ledP u) r := fun r hr => by
    obtain ⟨q, hq, rfl⟩ := List.mem_map.mp hr
    exact (R.cyc q hq).conj h
  have e : lens (rs.map fun r => r.map (ledP v)) = lens rs := by
    unfold lens
    rw [List.map_map]
    exact List.map_congr_left fun r _ => by simp
  rw [← e]
  refine parts_lens qs _ Q.cyc c (Q.nd U) ?_
  rw [map_flatten]
  refine (List.perm_ext_iff_of_nodup (Q.nd U) (nodup_map (fun a b => V.inj) (R.nd T))).mpr fun x => ?_
  rw [Q.perm.mem_iff, U.moved, List.mem_map]
  constructor
  · intro hx
    refine ⟨ledP (SH.inv v) x, ?_, V.led_inv x⟩
    rw [R.perm.mem_iff, T.moved]
    intro z
    apply hx
    have := h (ledP (SH.inv v) x)
    rw [V.led_inv, z, V.led_inv] at this
    exact this
  · rintro ⟨y, hy, rfl⟩
    rw [R.perm.mem_iff, T.moved] at hy
    rw [h]
    exact fun z => hy (V.inj z)
/-! ### whole numbers in order -/
def leI (a b : Int) : Bool := decide (a ≤ b)
def srtI (l : List Int) : List Int := l.mergeSort leI
theorem leI_data (a b : Int) : leI a b = PySem.W.dataLe false id (.int a) (.int b) := by
  rw [dataLe_lt, PySem.W.dataLt_int]
  unfold leI
  by_cases h : a ≤ b
  · have : ¬ b < a := by omega
    simp [h, this]
  · have : b < a := by omega
    simp [h, this]
theorem srtI_perm {a b : List Int} (h : a.Perm b) : srtI a = srtI b := by
  have tr : ∀ a b c : Int, leI a b = true → leI b c = true → leI a c = true := fun a b c h1 h2 => by
    unfold leI at *
    rw [decide_eq_true_eq] at *
    omega
  have to : ∀ a b : Int, (leI a b || leI b a) = true := fun a b => by
    unfold leI
    rw [Bool.or_eq_true, decide_eq_true_eq, decide_eq_true_eq]
    omega
  refine ((List.mergeSort_perm a leI).trans (h.trans (List.mergeSort_perm b leI).symm)).eq_of_pairwise (le := fun a b => leI a b = true) (fun a b _ _ h1 h2 => ?_) (List.pairwise_mergeSort tr to a) (List.pairwise_mergeSort tr to b)
  unfold leI at *
  rw [decide_eq_true_eq] at *
  omega
theorem shaped_ints (l : List Int) : SeqAt.shaped (.list (l.map .int)) = true := shaped_list fun x hx => by
  obtain ⟨s, hs, rfl⟩ := List.mem_map.mp hx
  exact ⟨by rw [PyData.canLay0], by rw [PyData.depth]; omega⟩
theorem sortO_ints (l : List Int) : sortO (.list (l.map .int)) = some ((srtI l).map .int) := by
  have ok : sortOk (l.map PyData.int) = true := by
    unfold sortOk
    rw [shaped_ints, Bool.and_true, Bool.and_eq_true, Bool.or_eq_true]
    refine ⟨?_, .inr ?_⟩
    · simp [PySem.W.alike]
    · simp
  show (if _ then _ else _) = _
  rw [if_pos ok]
  refine congrArg some ?_
  unfold sortL srtI
  exact (PySem.W.sort_maps PyData.int fun a _ b _ => leI_data a b).symm
theorem eqvAll_ints : ∀ a : List Int, PyData.eqvAll (a.map .int) (a.map .int) = true
  | [] => by rw [List.map_nil, PyData.eqvAll]
  | x :: a => by rw [List.map_cons, PyData.eqvAll, PyData.eqv, eqvAll_ints a]; simp
theorem ne_ints (a : List Int) : neD (.list (a.map .int)) (.list (a.map .int)) = some (.bool false) := by
  rw [ne_lists (shaped_ints a) (shaped_ints a), eqvAll_ints]; rfl
def lenG : D → D
  | .tuple xs => .int xs.length
  | x => x
theorem lengths_ok {t : PL} {rs : List (List Str)} (e : f_rounds_of [.d (tD t)] = .ok (.lst (rs.map SH.rD)) [some (.d (tD t))]) : f__law_lengths [.d (tD t)] = .ok (.lst ((srtI (lens rs)).map .int)) [some (.d (tD t))] := by
  have lc := lcGo_pure (vs := [1]) (t := tName 1) (tst := mYes) (e := e1__law_lengths) (p := fun _ => true) (g := lenG) (ρ := [some (.d (tD t)), none]) (xs := rs.map SH.rD) fun x hx => by
    obtain ⟨r, _, rfl⟩ := List.mem_map.mp hx
    have ln : lenD (SH.rD r) = some (.int ((r.map PyData.str).length : Nat)) := rfl
    refine ⟨[some (.d (tD t)), some (.d (SH.rD r))], [some (.d (tD t)), some (.d (SH.rD r))], by simp, rfl, fun z => (by cases z), fun _ => ⟨[some (.d (tD t)), some (.d (SH.rD r))], ?_, rfl⟩⟩
    have lg : lenG (SH.rD r) = .int ((r.map PyData.str).length : Nat) := rfl
    generalize SH.rD r = rr at *
    simp [ln, lg]
  rw [filt_all, List.map_map] at lc
  have ev : rs.map (lenG ∘ SH.rD) = (lens rs).map .int := by
    unfold lens
    rw [List.map_map]
    refine List.map_congr_left fun r _ => ?_
    show PyData.int ((r.map PyData.str).length : Nat) = .int (r.length : Int)
    rw [List.length_map]
  rw [ev] at lc
  have so := sortO_ints (lens rs)
  have it := il (rs.map SH.rD)
  generalize (srtI (lens rs)).map PyData.int = z1 at *
  generalize (lens rs).map PyData.int = z2 at *
  generalize rs.map SH.rD = z3 at *
  generalize tD t = a at *
  simp [f__law_lengths, m__law_lengths, fnOf, e, it, dataAt, lc, backE, so, outsOf]
/-! ### laws of turns -/
section
variable {t u v : PL}
theorem both_assoc (T : Turn t) (U : Turn u) (V : Turn v) : SH.both (SH.both t u) v = SH.both t (SH.both u v) := ((T.both U).both V).ext (T.both (U.both V)) fun s => by rw [both_led, both_led, both_led, both_led]
theorem both_inv_r (T : Turn t) : SH.both t (SH.inv t) = [] := (T.both T.inv).ext turn_nil fun s => by rw [both_led, T.inv_led]; rfl
theorem both_inv_l (T : Turn t) : SH.both (SH.inv t) t = [] := (T.inv.both T).ext turn_nil fun s => by rw [both_led, T.led_inv]; rfl
theorem inv_both (T : Turn t) (U : Turn u) : SH.inv (SH.both t u) = SH.both (SH.inv u) (SH.inv t) := ((T.both U).inv).ext (U.inv.both T.inv) fun s => by
  rw [both_led]
  apply (T.both U).inj
  rw [(T.both U).led_inv, both_led, T.led_inv, U.led_inv]
theorem inv_inv (T : Turn t) : SH.inv (SH.inv t) = t := T.inv.inv.ext T fun s => by
  apply T.inv.inj
  rw [T.inv.led_inv, T.inv_led]
theorem both_nil_r (T : Turn t) : SH.both t [] = t := (T.both turn_nil).ext T fun s => by rw [both_led]; rfl
theorem both_nil_l (T : Turn t) : SH.both [] t = t := (turn_nil.both T).ext T fun s => by rw [both_led]; rfl
theorem apart_nil_iff (T : Turn t) (U : Turn u) : apartL t u = [] ↔ t = u := by
  constructor
  · intro h
    refine T.ext U fun s => ?_
    by_cases z : ledP t s = ledP u s
    · exact z
    · have := apart_mem.mpr z
      rw [h] at this; cases this
  · rintro rfl
    exact apart_self t
theorem apart_behind (V : Turn v) : apartL (SH.both t v) (SH.both u v) = apartL t u := ltN_uniq (apart_srt _ _) (apart_srt _ _) fun x => by
  rw [apart_mem, apart_mem, both_led, both_led]
  exact ⟨fun h z => h (by rw [z]), fun h z => h (V.inj z)⟩
theorem apart_ahead (V : Turn v) : apartL (SH.both v t) (SH.both v u) = sortS ((apartL t u).map (ledP (SH.inv v))) := by
  have nd : ((apartL t u).map (ledP (SH.inv v))).Nodup := nodup_map (fun a b => V.inv.inj) (ltN_nodup (apart_srt t u))
  refine ltN_uniq (apart_srt _ _) (by rw [sortS_nd nd]; exact srt_once _) fun x => ?_
  rw [apart_mem, both_led, both_led, (sortS_perm _).mem_iff, List.mem_map]
  constructor
  · intro h
    exact ⟨ledP v x, apart_mem.mpr h, V.inv_led x⟩
  · rintro ⟨y, hy, rfl⟩
    rw [V.led_inv]
    exact apart_mem.mp hy
theorem swaps_both (T : Turn t) (U : Turn u) {rs qs : List (List Str)} (R : Rnds t rs) (Q : Rnds u qs) : turnOf (swsOf rs ++ swsOf qs) = SH.both t u := by
  have nm : Nm2 (swsOf rs ++ swsOf qs) := fun p hp => (List.mem_append.mp hp).elim (R.nm T p) (Q.nm U p)
  refine (turnOf_turn nm).ext (T.both U) fun s => ?_
  rw [turnOf_led nm, both_led, swF_app]
  have e1 : ∀ s, swF (swsOf rs) s = ledP t s := fun s => by
    rw [← turnOf_led (R.nm T), R.turn T]
  have e2 : ∀ s, swF (swsOf qs) s = ledP u s := fun s => by
    rw [← turnOf_led (Q.nm U), Q.turn U]
  rw [e1, e2]
end
end SH
end
section
set_option maxRecDepth 100000
set_option maxHeartbeats 0
namespace K06
open PySem PySem.Spec PyProof.Rows L2 DL
abbrev P : Program := PySem.Challenge.pw_shutnames_k06_whole_turns_by_turns
def top (i : Nat) : Stmt := P.main.body.getD i (.Pass ⟨0, 0, 0, 0⟩)
abbrev s_is_called : Stmt := top 8
abbrev s_is_name : Stmt := top 9
abbrev s_is_turn : Stmt := top 10
abbrev s_sure_turns : Stmt := top 11
abbrev s_turn_from : Stmt := top 12
abbrev s_led_name : Stmt := top 13
abbrev s_undone : Stmt := top 14
abbrev s_both_turns : Stmt := top 15
abbrev s_apart_in : Stmt := top 16
abbrev s_swap_of : Stmt := top 17
abbrev s_turn_of : Stmt := top 18
abbrev s_turned_name : Stmt := top 19
abbrev s_then_turn : Stmt := top 20
abbrev s_back_turn : Stmt := top 21
abbrev s_apart_names : Stmt := top 22
abbrev s_rounds_of : Stmt := top 23
abbrev s_swaps_of : Stmt := top 24
abbrev s__law_mixed : Stmt := top 26
abbrev s__law_pile : Stmt := top 27
abbrev s__law_take : Stmt := top 28
abbrev s__law_name : Stmt := top 29
abbrev s__law_names : Stmt := top 30
abbrev s__law_order : Stmt := top 31
abbrev s__law_turn : Stmt := top 32
abbrev s__law_lengths : Stmt := top 33
abbrev s_law : Stmt := top 34
theorem sc_is_called : FnScope ["thing", "letters", "sign"] ["thing", "letters"] (defScope s_is_called) := ⟨rfl, rfl, rfl, by decide +kernel, rfl, by decide +kernel, by decide +kernel⟩
theorem sc_is_name : FnScope ["thing"] ["thing"] (defScope s_is_name) := ⟨rfl, rfl, rfl, by decide +kernel, rfl, by decide +kernel, by decide +kernel⟩
theorem sc_is_turn : FnScope ["thing", "pair", "name", "to", "names"] ["thing"] (defScope s_is_turn) := ⟨rfl, rfl, rfl, by decide +kernel, rfl, by decide +kernel, by decide +kernel⟩
theorem sc_sure_turns : FnScope ["turns", "turn"] ["turns"] (defScope s_sure_turns) := ⟨rfl, rfl, rfl, by decide +kernel, rfl, by decide +kernel, by decide +kernel⟩
theorem sc_turn_from : FnScope ["moves", "name", "to"] ["moves"] (defScope s_turn_from) := ⟨rfl, rfl, rfl, by decide +kernel, rfl, by decide +kernel, by decide +kernel⟩
theorem sc_led_name : FnScope ["turn", "name", "one", "to"] ["turn", "name"] (defScope s_led_name) := ⟨rfl, rfl, rfl, by decide +kernel, rfl, by decide +kernel, by decide +kernel⟩
theorem sc_undone : FnScope ["turn", "name", "to"] ["turn"] (defScope s_undone) := ⟨rfl, rfl, rfl, by decide +kernel, rfl, by decide +kernel, by decide +kernel⟩
theorem sc_both_turns : FnScope ["one", "other", "names", "name", "to"] ["one", "other"] (defScope s_both_turns) := ⟨rfl, rfl, rfl, by decide +kernel, rfl, by decide +kernel, by decide +kernel⟩
theorem sc_apart_in : FnScope ["one", "other", "names", "name", "to"] ["one", "other"] (defScope s_apart_in) := ⟨rfl, rfl, rfl, by decide +kernel, rfl, by decide +kernel, by decide +kernel⟩
theorem sc_swap_of : FnScope ["name", "other"] ["name", "other"] (defScope s_swap_of) := ⟨rfl, rfl, rfl, by decide +kernel, rfl, by decide +kernel, by decide +kernel⟩
theorem sc_turn_of : FnScope ["swaps", "pair", "name", "turn", "other"] ["swaps"] (defScope s_turn_of) := ⟨rfl, rfl, rfl, by decide +kernel, rfl, by decide +kernel, by decide +kernel⟩
theorem sc_turned_name : FnScope ["turn", "name"] ["turn", "name"] (defScope s_turned_name) := ⟨rfl, rfl, rfl, by decide +kernel, rfl, by decide +kernel, by decide +kernel⟩
theorem sc_then_turn : FnScope ["one", "other"] ["one", "other"] (defScope s_then_turn) := ⟨rfl, rfl, rfl, by decide +kernel, rfl, by decide +kernel, by decide +kernel⟩
theorem sc_back_turn : FnScope ["turn"] ["turn"] (defScope s_back_turn) := ⟨rfl, rfl, rfl, by decide +kernel, rfl, by decide +kernel, by decide +kernel⟩
theorem sc_apart_names : FnScope ["one", "other"] ["one", "other"] (defScope s_apart_names) := ⟨rfl, rfl, rfl, by decide +kernel, rfl, by decide +kernel, by decide +kernel⟩
theorem sc_rounds_of : FnScope ["turn", "found", "seen", "name", "to", "ring"] ["turn"] (defScope s_rounds_of) := ⟨rfl, rfl, rfl, by decide +kernel, rfl, by decide +kernel, by decide +kernel⟩
theorem sc_swaps_of : FnScope ["turn", "found", "first", "others", "other"] ["turn"] (defScope s_swaps_of) := ⟨rfl, rfl, rfl, by decide +kernel, rfl, by decide +kernel, by decide +kernel⟩
theorem sc__law_mixed : FnScope ["_law_cell", "_law_k", "_law_number"] ["_law_cell", "_law_k"] (defScope s__law_mixed) := ⟨rfl, rfl, rfl, by decide +kernel, rfl, by decide +kernel, by decide +kernel⟩
theorem sc__law_pile : FnScope ["_law_script", "_law_k", "_law_cell", "_law_digits"] ["_law_script", "_law_k"] (defScope s__law_pile) := ⟨rfl, rfl, rfl, by decide +kernel, rfl, by decide +kernel, by decide +kernel⟩
theorem sc__law_take : FnScope ["_law_pile_here", "_law_many", "_law_digit"] ["_law_pile_here", "_law_many"] (defScope s__law_take) := ⟨rfl, rfl, rfl, by decide +kernel, rfl, by decide +kernel, by decide +kernel⟩
theorem sc__law_name : FnScope ["_law_pile_here", "_law_kind", "_law_letters", "_law_name_here", "_law_k"] ["_law_pile_here"] (defScope s__law_name) := ⟨rfl, rfl, rfl, by decide +kernel, rfl, by decide +kernel, by decide +kernel⟩
theorem sc__law_names : FnScope ["_law_pile_here", "_law_many", "_law_found", "_law_k", "_law_name_here", "_law_one"] ["_law_pile_here", "_law_many"] (defScope s__law_names) := ⟨rfl, rfl, rfl, by decide +kernel, rfl, by decide +kernel, by decide +kernel⟩
theorem sc__law_order : FnScope ["_law_pile_here", "_law_some", "_law_left", "_law_found"] ["_law_pile_here", "_law_some"] (defScope s__law_order) := ⟨rfl, rfl, rfl, by decide +kernel, rfl, by decide +kernel, by decide +kernel⟩
theorem sc__law_turn : FnScope ["_law_pile_here", "_law_names_here", "_law_kind", "_law_others", "_law_one", "_law_two", "_law_last_one", "_law_name_here", "_law_to"] ["_law_pile_here", "_law_names_here"] (defScope s__law_turn) := ⟨rfl, rfl, rfl, by decide +kernel, rfl, by decide +kernel, by decide +kernel⟩
theorem sc__law_lengths : FnScope ["_law_turn_here", "_law_one"] ["_law_turn_here"] (defScope s__law_lengths) := ⟨rfl, rfl, rfl, by decide +kernel, rfl, by decide +kernel, by decide +kernel⟩
theorem sc_law : FnScope ["_law_script", "_law_at", "_law_pile_here", "_law_names_here", "_law_one", "_law_other", "_law_third", "_law_both", "_law_apart", "_law_due", "_law_name_here"] ["_law_script"] (defScope s_law) := ⟨rfl, rfl, rfl, by decide +kernel, rfl, by decide +kernel, by decide +kernel⟩
noncomputable abbrev e1_law : M D := (mFrz (mCall SH.f_turned_name (gD (mFrz (mCall SH.f_back_turn (gD (mVar 6) gNil))) (gD (mVar 10) gNil))))
noncomputable abbrev b2_law : M Fl := (sSeq (sSetO 2 (mCall SH.f__law_pile (gD (mVar 0) (gD (mVar 1) gNil))))
 (sSeq (sSet 3 (mFrz (mCall SH.f__law_names (gO 2 (gD (mBin addD (mC (.int 1)) (mFrz (mCall SH.f__law_take (gO 2 (gD (mC (.int 6)) gNil))))) gNil)))))
 (sSeq (sSet 4 (mFrz (mCall SH.f__law_turn (gO 2 (gD (mVar 3) gNil)))))
 (sSeq (sSetO 2 (mCall SH.f__law_pile (gD (mVar 0) (gD (mBin addD (mVar 1) (mC (.int 1))) gNil))))
 (sSeq (sTgt (tTup 2 (tsCons (tName 5) (tsCons (tName 6) tsNil))) (mTup (mCons (mFrz (mCall SH.f__law_turn (gO 2 (gD (mVar 3) gNil)))) (mCons (mFrz (mCall SH.f__law_turn (gO 2 (gD (mVar 3) gNil)))) mNil))))
 (sSeq (sSet 7 (mFrz (mCall SH.f_then_turn (gD (mVar 4) (gD (mVar 5) gNil)))))
 (sSeq (mIf (mB (mBin neD (mFrz (mCall SH.f_then_turn (gD (mVar 7) (gD (mVar 6) gNil)))) (mFrz (mCall SH.f_then_turn (gD (mVar 4) (gD (mFrz (mCall SH.f_then_turn (gD (mVar 5) (gD (mVar 6) gNil)))) gNil)))))) (sRet (mD (mC (.bool false)))) sNil)
 (sSeq (mIf (mOr (mB (mBin neD (mFrz (mCall SH.f_then_turn (gD (mVar 4) (gD (mFrz (mCall SH.f_back_turn (gD (mVar 4) gNil))) gNil)))) (mTup mNil))) (mB (mBin neD (mFrz (mCall SH.f_then_turn (gD (mFrz (mCall SH.f_back_turn (gD (mVar 4) gNil))) (gD (mVar 4) gNil)))) (mTup mNil)))) (sRet (mD (mC (.bool false)))) sNil)
 (sSeq (mIf (mOr (mB (mBin neD (mFrz (mCall SH.f_back_turn (gD (mVar 7) gNil))) (mFrz (mCall SH.f_then_turn (gD (mFrz (mCall SH.f_back_turn (gD (mVar 5) gNil))) (gD (mFrz (mCall SH.f_back_turn (gD (mVar 4) gNil))) gNil)))))) (mB (mBin neD (mFrz (mCall SH.f_back_turn (gD (mFrz (mCall SH.f_back_turn (gD (mVar 4) gNil))) gNil))) (mVar 4)))) (sRet (mD (mC (.bool false)))) sNil)
 (sSeq (sSet 8 (mFrz (mCall SH.f_apart_names (gD (mVar 4) (gD (mVar 5) gNil)))))
 (sSeq (mIf (mOr (mB (mBin neD (mBin eqD (mVar 8) (mLstF mNil)) (mBin eqD (mVar 4) (mVar 5)))) (mB (mBin neD (mFrz (mCall SH.f_apart_names (gD (mFrz (mCall SH.f_then_turn (gD (mVar 4) (gD (mVar 6) gNil)))) (gD (mFrz (mCall SH.f_then_turn (gD (mVar 5) (gD (mVar 6) gNil)))) gNil)))) (mVar 8)))) (sRet (mD (mC (.bool false)))) sNil)
 (sSeq (sSet 9 (mLstF (mFN sortO (mLstF (mLc [10] (mItems (mVar 8)) (tName 10) mYes e1_law)))))
 (sSeq (mIf (mB (mBin neD (mFrz (mCall SH.f_apart_names (gD (mFrz (mCall SH.f_then_turn (gD (mVar 6) (gD (mVar 4) gNil)))) (gD (mFrz (mCall SH.f_then_turn (gD (mVar 6) (gD (mVar 5) gNil)))) gNil)))) (mVar 9))) (sRet (mD (mC (.bool false)))) sNil)
 (sSeq (mIf (mB (mBin neD (mFrz (mCall SH.f__law_lengths (gD (mFrz (mCall SH.f_then_turn (gD (mFrz (mCall SH.f_then_turn (gD (mFrz (mCall SH.f_back_turn (gD (mVar 6) gNil))) (gD (mVar 4) gNil)))) (gD (mVar 6) gNil)))) gNil))) (mFrz (mCall SH.f__law_lengths (gD (mVar 4) gNil))))) (sRet (mD (mC (.bool false)))) sNil)
 (mIf (mOr (mB (mBin neD (mFrz (mCall SH.f_turn_of (gD (mBin addD (mFrz (mCall SH.f_swaps_of (gD (mVar 4) gNil))) (mFrz (mCall SH.f_swaps_of (gD (mVar 5) gNil)))) gNil))) (mVar 7))) (mOr (mB (mBin neD (mFrz (mCall SH.f_then_turn (gD (mVar 4) (gD (mTup mNil) gNil)))) (mVar 4))) (mB (mBin neD (mFrz (mCall SH.f_then_turn (gD (mTup mNil) (gD (mVar 4) gNil)))) (mVar 4))))) (sRet (mD (mC (.bool false)))) sNil)))))))))))))))
noncomputable def m_law : M Fl := (sSeq (sFor (mRange3 (mC (.int 0)) (mC (.int 40)) (mC (.int 2))) (tName 1) b2_law)
 (sRet (mD (mC (.bool true)))))
noncomputable def f_law : Fn := fnOf 11 1 [] m_law
structure Wd (K : Frag) (mg : Str → Option Value) where
  b_abs : mg "abs" = none
  b_all : mg "all" = none
  b_int : mg "int" = none
  b_isinstance : mg "isinstance" = none
  b_len : mg "len" = none
  b_list : mg "list" = none
  b_range : mg "range" = none
  b_set : mg "set" = none
  b_sorted : mg "sorted" = none
  b_str : mg "str" = none
  b_tuple : mg "tuple" = none
  b_zip : mg "zip" = none
  c_FIGURES : ∃ t, mg "FIGURES" = some (.str "0123456789" t)
  c_LONGEST : ∃ t, mg "LONGEST" = some (.int 8 t)
  c_SMALL : ∃ t, mg "SMALL" = some (.str "abcdefghijklmnopqrstuvwxyz" t)
  n_NoName : mg "NoName" = some (.ref (He.ga K "NoName"))
  x_NoName : PySem.W.excIn K (He.ga K "NoName") [.type "ValueError", .type "Exception", .type "BaseException", .type "object"] "ValueError.__new__" = true ∧ PySem.W.keepIn K (.ref (He.ga K "NoName")) = true ∧ PySem.W.subIn K (.ref (He.ga K "NoName")) (.type "BaseException") = some true ∧ PySem.W.typeIn K (.ref (He.ga K "NoName")) = some (.type "type")
  n_NoTurn : mg "NoTurn" = some (.ref (He.ga K "NoTurn"))
  x_NoTurn : PySem.W.excIn K (He.ga K "NoTurn") [.type "ValueError", .type "Exception", .type "BaseException", .type "object"] "ValueError.__new__" = true ∧ PySem.W.keepIn K (.ref (He.ga K "NoTurn")) = true ∧ PySem.W.subIn K (.ref (He.ga K "NoTurn")) (.type "BaseException") = some true ∧ PySem.W.typeIn K (.ref (He.ga K "NoTurn")) = some (.type "type")
  a_is_called : Addr
  d_is_called : FuncData
  F_is_called : FunD K "is_called" "is_called" (defArgs s_is_called) (defBody s_is_called) (defScope s_is_called) [] [] a_is_called d_is_called
  m_is_called : mg "is_called" = some (.ref a_is_called)
  a_is_name : Addr
  d_is_name : FuncData
  F_is_name : FunD K "is_name" "is_name" (defArgs s_is_name) (defBody s_is_name) (defScope s_is_name) [] [] a_is_name d_is_name
  m_is_name : mg "is_name" = some (.ref a_is_name)
  a_is_turn : Addr
  d_is_turn : FuncData
  F_is_turn : FunD K "is_turn" "is_turn" (defArgs s_is_turn) (defBody s_is_turn) (defScope s_is_turn) [] [] a_is_turn d_is_turn
  m_is_turn : mg "is_turn" = some (.ref a_is_turn)
  a_sure_turns : Addr
  d_sure_turns : FuncData
  F_sure_turns : FunD K "sure_turns" "sure_turns" (defArgs s_sure_turns) (defBody s_sure_turns) (defScope s_sure_turns) [] [] a_sure_turns d_sure_turns
  m_sure_turns : mg "sure_turns" = some (.ref a_sure_turns)
  a_turn_from : Addr
  d_turn_from : FuncData
  F_turn_from : FunD K "turn_from" "turn_from" (defArgs s_turn_from) (defBody s_turn_from) (defScope s_turn_from) [] [] a_turn_from d_turn_from
  m_turn_from : mg "turn_from" = some (.ref a_turn_from)
  a_led_name : Addr
  d_led_name : FuncData
  F_led_name : FunD K "led_name" "led_name" (defArgs s_led_name) (defBody s_led_name) (defScope s_led_name) [] [] a_led_name d_led_name
  m_led_name : mg "led_name" = some (.ref a_led_name)
  a_undone : Addr
  d_undone : FuncData
  F_undone : FunD K "undone" "undone" (defArgs s_undone) (defBody s_undone) (defScope s_undone) [] [] a_undone d_undone
  m_undone : mg "undone" = some (.ref a_undone)
  a_both_turns : Addr
  d_both_turns : FuncData
  F_both_turns : FunD K "both_turns" "both_turns" (defArgs s_both_turns) (defBody s_both_turns) (defScope s_both_turns) [] [] a_both_turns d_both_turns
  m_both_turns : mg "both_turns" = some (.ref a_both_turns)
  a_apart_in : Addr
  d_apart_in : FuncData
  F_apart_in : FunD K "apart_in" "apart_in" (defArgs s_apart_in) (defBody s_apart_in) (defScope s_apart_in) [] [] a_apart_in d_apart_in
  m_apart_in : mg "apart_in" = some (.ref a_apart_in)
  a_swap_of : Addr
  d_swap_of : FuncData
  F_swap_of : FunD K "swap_of" "swap_of" (defArgs s_swap_of) (defBody s_swap_of) (defScope s_swap_of) [] [] a_swap_of d_swap_of
  m_swap_of : mg "swap_of" = some (.ref a_swap_of)
  a_turn_of : Addr
  d_turn_of : FuncData
  F_turn_of : FunD K "turn_of" "turn_of" (defArgs s_turn_of) (defBody s_turn_of) (defScope s_turn_of) [] [] a_turn_of d_turn_of
  m_turn_of : mg "turn_of" = some (.ref a_turn_of)
  a_turned_name : Addr
  d_turned_name : FuncData
  F_turned_name : FunD K "turned_name" "turned_name" (defArgs s_turned_name) (defBody s_turned_name) (defScope s_turned_name) [] [] a_turned_name d_turned_name
  m_turned_name : mg "turned_name" = some (.ref a_turned_name)
  a_then_turn : Addr
  d_then_turn : FuncData
  F_then_turn : FunD K "then_turn" "then_turn" (defArgs s_then_turn) (defBody s_then_turn) (defScope s_then_turn) [] [] a_then_turn d_then_turn
  m_then_turn : mg "then_turn" = some (.ref a_then_turn)
  a_back_turn : Addr
  d_back_turn : FuncData
  F_back_turn : FunD K "back_turn" "back_turn" (defArgs s_back_turn) (defBody s_back_turn) (defScope s_back_turn) [] [] a_back_turn d_back_turn
  m_back_turn : mg "back_turn" = some (.ref a_back_turn)
  a_apart_names : Addr
  d_apart_names : FuncData
  F_apart_names : FunD K "apart_names" "apart_names" (defArgs s_apart_names) (defBody s_apart_names) (defScope s_apart_names) [] [] a_apart_names d_apart_names
  m_apart_names : mg "apart_names" = some (.ref a_apart_names)
  a_rounds_of : Addr
  d_rounds_of : FuncData
  F_rounds_of : FunD K "rounds_of" "rounds_of" (defArgs s_rounds_of) (defBody s_rounds_of) (defScope s_rounds_of) [] [] a_rounds_of d_rounds_of
  m_rounds_of : mg "rounds_of" = some (.ref a_rounds_of)
  a_swaps_of : Addr
  d_swaps_of : FuncData
  F_swaps_of : FunD K "swaps_of" "swaps_of" (defArgs s_swaps_of) (defBody s_swaps_of) (defScope s_swaps_of) [] [] a_swaps_of d_swaps_of
  m_swaps_of : mg "swaps_of" = some (.ref a_swaps_of)
  a__law_mixed : Addr
  d__law_mixed : FuncData
  F__law_mixed : FunD K "_law_mixed" "_law_mixed" (defArgs s__law_mixed) (defBody s__law_mixed) (defScope s__law_mixed) [] [] a__law_mixed d__law_mixed
  m__law_mixed : mg "_law_mixed" = some (.ref a__law_mixed)
  a__law_pile : Addr
  d__law_pile : FuncData
  F__law_pile : FunD K "_law_pile" "_law_pile" (defArgs s__law_pile) (defBody s__law_pile) (defScope s__law_pile) [] [] a__law_pile d__law_pile
  m__law_pile : mg "_law_pile" = some (.ref a__law_pile)
  a__law_take : Addr
  d__law_take : FuncData
  F__law_take : FunD K "_law_take" "_law_take" (defArgs s__law_take) (defBody s__law_take) (defScope s__law_take) [] [] a__law_take d__law_take
  m__law_take : mg "_law_take" = some (.ref a__law_take)
  a__law_name : Addr
  d__law_name : FuncData
  F__law_name : FunD K "_law_name" "_law_name" (defArgs s__law_name) (defBody s__law_name) (defScope s__law_name) [] [] a__law_name d__law_name
  m__law_name : mg "_law_name" = some (.ref a__law_name)
  a__law_names : Addr
  d__law_names : FuncData
  F__law_names : FunD K "_law_names" "_law_names" (defArgs s__law_names) (defBody s__law_names) (defScope s__law_names) [] [] a__law_names d__law_names
  m__law_names : mg "_law_names" = some (.ref a__law_names)
  a__law_order : Addr
  d__law_order : FuncData
  F__law_order : FunD K "_law_order" "_law_order" (defArgs s__law_order) (defBody s__law_order) (defScope s__law_order) [] [] a__law_order d__law_order
  m__law_order : mg "_law_order" = some (.ref a__law_order)
  a__law_turn : Addr
  d__law_turn : FuncData
  F__law_turn : FunD K "_law_turn" "_law_turn" (defArgs s__law_turn) (defBody s__law_turn) (defScope s__law_turn) [] [] a__law_turn d__law_turn
  m__law_turn : mg "_law_turn" = some (.ref a__law_turn)
  a__law_lengths : Addr
  d__law_lengths : FuncData
  F__law_lengths : FunD K "_law_lengths" "_law_lengths" (defArgs s__law_lengths) (defBody s__law_lengths) (defScope s__law_lengths) [] [] a__law_lengths d__law_lengths
  m__law_lengths : mg "_law_lengths" = some (.ref a__law_lengths)
  a_law : Addr
  d_law : FuncData
  F_law : FunD K "law" "law" (defArgs s_law) (defBody s_law) (defScope s_law) [] [] a_law d_law
  m_law : mg "law" = some (.ref a_law)
section
variable {w : World} {K : Frag} {mg : Str → Option Value} {base : Heap}
theorem bn_is_called (W : Wd K mg) : Binds K W.d_is_called ["thing", "letters"] [] := W.F_is_called.bindsN fun _ _ _ _ _ _ us hl => match us, hl with | [_, _], _ => rfl
theorem bn_is_name (W : Wd K mg) : Binds K W.d_is_name ["thing"] [] := W.F_is_name.bindsN fun _ _ _ _ _ _ us hl => match us, hl with | [_], _ => rfl
theorem bn_is_turn (W : Wd K mg) : Binds K W.d_is_turn ["thing"] [] := W.F_is_turn.bindsN fun _ _ _ _ _ _ us hl => match us, hl with | [_], _ => rfl
theorem bn_sure_turns (W : Wd K mg) : KBn K W.d_sure_turns ["turns"] 0 ["turns"] (fun us ws => gSnd us ws) (fun vs zs => gSnd vs zs) := kb_of W.F_sure_turns (g := fun us ws => gSnd us ws) (fun _ r => r) fun _ _ _ _ _ _ us ws h1 h2 => match us, h1, ws, h2 with | [], _, [_], _ => rfl
theorem bn_turn_from (W : Wd K mg) : Binds K W.d_turn_from ["moves"] [] := W.F_turn_from.bindsN fun _ _ _ _ _ _ us hl => match us, hl with | [_], _ => rfl
theorem bn_led_name (W : Wd K mg) : Binds K W.d_led_name ["turn", "name"] [] := W.F_led_name.bindsN fun _ _ _ _ _ _ us hl => match us, hl with | [_, _], _ => rfl
theorem bn_undone (W : Wd K mg) : Binds K W.d_undone ["turn"] [] := W.F_undone.bindsN fun _ _ _ _ _ _ us hl => match us, hl with | [_], _ => rfl
theorem bn_both_turns (W : Wd K mg) : Binds K W.d_both_turns ["one", "other"] [] := W.F_both_turns.bindsN fun _ _ _ _ _ _ us hl => match us, hl with | [_, _], _ => rfl
theorem bn_apart_in (W : Wd K mg) : Binds K W.d_apart_in ["one", "other"] [] := W.F_apart_in.bindsN fun _ _ _ _ _ _ us hl => match us, hl with | [_, _], _ => rfl
theorem bn_swap_of (W : Wd K mg) : Binds K W.d_swap_of ["name", "other"] [] := W.F_swap_of.bindsN fun _ _ _ _ _ _ us hl => match us, hl with | [_, _], _ => rfl
theorem bn_turn_of (W : Wd K mg) : Binds K W.d_turn_of ["swaps"] [] := W.F_turn_of.bindsN fun _ _ _ _ _ _ us hl => match us, hl with | [_], _ => rfl
theorem bn_turned_name (W : Wd K mg) : Binds K W.d_turned_name ["turn", "name"] [] := W.F_turned_name.bindsN fun _ _ _ _ _ _ us hl => match us, hl with | [_, _], _ => rfl
theorem bn_then_turn (W : Wd K mg) : Binds K W.d_then_turn ["one", "other"] [] := W.F_then_turn.bindsN fun _ _ _ _ _ _ us hl => match us, hl with | [_, _], _ => rfl
theorem bn_back_turn (W : Wd K mg) : Binds K W.d_back_turn ["turn"] [] := W.F_back_turn.bindsN fun _ _ _ _ _ _ us hl => match us, hl with | [_], _ => rfl
theorem bn_apart_names (W : Wd K mg) : Binds K W.d_apart_names ["one", "other"] [] := W.F_apart_names.bindsN fun _ _ _ _ _ _ us hl => match us, hl with | [_, _], _ => rfl
theorem bn_rounds_of (W : Wd K mg) : Binds K W.d_rounds_of ["turn"] [] := W.F_rounds_of.bindsN fun _ _ _ _ _ _ us hl => match us, hl with | [_], _ => rfl
theorem bn_swaps_of (W : Wd K mg) : Binds K W.d_swaps_of ["turn"] [] := W.F_swaps_of.bindsN fun _ _ _ _ _ _ us hl => match us, hl with | [_], _ => rfl
theorem bn__law_mixed (W : Wd K mg) : Binds K W.d__law_mixed ["_law_cell", "_law_k"] [] := W.F__law_mixed.bindsN fun _ _ _ _ _ _ us hl => match us, hl with | [_, _], _ => rfl
theorem bn__law_pile (W : Wd K mg) : Binds K W.d__law_pile ["_law_script", "_law_k"] [] := W.F__law_pile.bindsN fun _ _ _ _ _ _ us hl => match us, hl with | [_, _], _ => rfl
theorem bn__law_take (W : Wd K mg) : Binds K W.d__law_take ["_law_pile_here", "_law_many"] [] := W.F__law_take.bindsN fun _ _ _ _ _ _ us hl => match us, hl with | [_, _], _ => rfl
theorem bn__law_name (W : Wd K mg) : Binds K W.d__law_name ["_law_pile_here"] [] := W.F__law_name.bindsN fun _ _ _ _ _ _ us hl => match us, hl with | [_], _ => rfl
theorem bn__law_names (W : Wd K mg) : Binds K W.d__law_names ["_law_pile_here", "_law_many"] [] := W.F__law_names.bindsN fun _ _ _ _ _ _ us hl => match us, hl with | [_, _], _ => rfl
theorem bn__law_order (W : Wd K mg) : Binds K W.d__law_order ["_law_pile_here", "_law_some"] [] := W.F__law_order.bindsN fun _ _ _ _ _ _ us hl => match us, hl with | [_, _], _ => rfl
theorem bn__law_turn (W : Wd K mg) : Binds K W.d__law_turn ["_law_pile_here", "_law_names_here"] [] := W.F__law_turn.bindsN fun _ _ _ _ _ _ us hl => match us, hl with | [_, _], _ => rfl
theorem bn__law_lengths (W : Wd K mg) : Binds K W.d__law_lengths ["_law_turn_here"] [] := W.F__law_lengths.bindsN fun _ _ _ _ _ _ us hl => match us, hl with | [_], _ => rfl
theorem bn_law (W : Wd K mg) : Binds K W.d_law ["_law_script"] [] := W.F_law.bindsN fun _ _ _ _ _ _ us hl => match us, hl with | [_], _ => rfl
theorem ok_is_called (W : Wd K mg) : FnOk P w K mg base (L2.CX P w) 1 W.a_is_called W.d_is_called ["thing", "letters"] (spF K (He.ga K) SH.f_is_called) := by
    refine fn_rule (k := 0) [] W.F_is_called sc_is_called fun cdv A outer s H E F O σ hr tk => ?_
    have hu := u64 hr
    have hw := u65 hr
    have hv := u66 hr
    have NN := sc_is_called.nd
    exact (ss_cons (sv_if (PW.pt (st_or (st_not (st_val (se_isi .str W.b_isinstance W.b_str (se_var 0 rfl (vis_of (by kernel_rfl)) (by kernel_rfl) (by kernel_rfl))))) (st_or (st_not (st_chain od_le od_le se_int (se_b1 cd_len W.b_len (se_var 0 rfl (vis_of (by kernel_rfl)) (by kernel_rfl) (by kernel_rfl))) (se_gint W.c_LONGEST (gl_of (by kernel_rfl)) (by kernel_rfl)))) (st_or1 (st_cmp (od_nin hw) (se_ix (se_var 0 rfl (vis_of (by kernel_rfl)) (by kernel_rfl) (by kernel_rfl)) se_int) (se_var 1 rfl (vis_of (by kernel_rfl)) (by kernel_rfl) (by kernel_rfl))))))) (ss_one (sv_ret (so_d se_bl))) ss_nil)
       (ss_one (sv_ret (so_d (se_b1 (cd_all rfl) W.b_all (se_n (n_lc (own := [("sign", 2)]) (fb := [0, 1]) rfl NN (si_val (se_var 0 rfl (vis_of (by kernel_rfl)) (by kernel_rfl) (by kernel_rfl))) (blkOk_by (by kernel_rfl)) (fun F1 H1 O1 σ1 s1 Hb C cl fp => (tg_name (i := 2) NN rfl (loc_of (by kernel_rfl)))) (fun F1 H1 O1 σ1 s1 Hb C cl fp => st_yes) (fun F1 H1 O1 σ1 s1 Hb C cl fp => (se_or (se_cmp (od_in hw) (se_var 2 rfl (vis_of (by kernel_rfl)) (by kernel_rfl) (by kernel_rfl)) (se_var 1 rfl (vis_of (by kernel_rfl)) (by kernel_rfl) (by kernel_rfl))) (se_one (se_cmp (od_in hw) (se_var 2 rfl (vis_of (by kernel_rfl)) (by kernel_rfl) (by kernel_rfl)) (se_gstr W.c_FIGURES (gl_of (by kernel_rfl)) (by kernel_rfl)))))))))))))
theorem ok_is_name (W : Wd K mg) : FnOk P w K mg base (L2.CX P w) 2 W.a_is_name W.d_is_name ["thing"] (spF K (He.ga K) SH.f_is_name) := by
    refine fn_rule (k := 1) [] W.F_is_name sc_is_name fun cdv A outer s H E F O σ hr tk => ?_
    have hu := u64 hr
    have hw := u65 hr
    have hv := u66 hr
    have NN := sc_is_name.nd
    exact (ss_one (sv_ret (so_call (ok_is_called W) (hr.mono (by omega)) W.m_is_called W.F_is_called.kp (bn_is_called W) tk (sg_d (se_var 0 rfl (vis_of (by kernel_rfl)) (by kernel_rfl) (by kernel_rfl)) (sg_d (se_gstr W.c_SMALL (gl_of (by kernel_rfl)) (by kernel_rfl)) sg_nil)) (gl_of (by kernel_rfl)) (by kernel_rfl))))
theorem ok_is_turn (W : Wd K mg) : FnOk P w K mg base (L2.CX P w) 3 W.a_is_turn W.d_is_turn ["thing"] (spF K (He.ga K) SH.f_is_turn) := by
    refine fn_rule (k := 2) [] W.F_is_turn sc_is_turn fun cdv A outer s H E F O σ hr tk => ?_
    have hu := u64 hr
    have hw := u65 hr
    have hv := u66 hr
    have NN := sc_is_turn.nd
    exact (ss_cons (sv_if (PW.pt (st_or (st_not (st_val (se_isi .tup W.b_isinstance W.b_tuple (se_var 0 rfl (vis_of (by kernel_rfl)) (by kernel_rfl) (by kernel_rfl))))) (st_or1 (st_not (st_val (se_b1 (cd_all rfl) W.b_all (se_n (n_lc (own := [("pair", 1)]) (fb := [0, 2, 3, 4]) rfl NN (si_val (se_var 0 rfl (vis_of (by kernel_rfl)) (by kernel_rfl) (by kernel_rfl))) (blkOk_by (by kernel_rfl)) (fun F1 H1 O1 σ1 s1 Hb C cl fp => (tg_name (i := 1) NN rfl (loc_of (by kernel_rfl)))) (fun F1 H1 O1 σ1 s1 Hb C cl fp => st_yes) (fun F1 H1 O1 σ1 s1 Hb C cl fp => (se_and (se_isi .tup W.b_isinstance W.b_tuple (se_var 1 rfl (vis_of (by kernel_rfl)) (by kernel_rfl) (by kernel_rfl))) (se_one (se_cmp (od_eq hu) (se_b1 cd_len W.b_len (se_var 1 rfl (vis_of (by kernel_rfl)) (by kernel_rfl) (by kernel_rfl))) se_int)))))))))))) (ss_one (sv_ret (so_d se_bl))) ss_nil)
       (ss_cons (sv_if (st_not (st_val (se_b1 (cd_all rfl) W.b_all (se_n (n_lc (own := [("name", 2), ("to", 3)]) (fb := [0, 1, 4]) rfl NN (si_val (se_var 0 rfl (vis_of (by kernel_rfl)) (by kernel_rfl) (by kernel_rfl))) (blkOk_by (by kernel_rfl)) (fun F1 H1 O1 σ1 s1 Hb C cl fp => (tg_tup (n := 2) rfl (tg_cons (tg_name (i := 2) NN rfl (loc_of (by kernel_rfl))) (tg_cons (tg_name (i := 3) NN rfl (loc_of (by kernel_rfl))) tg_nil)))) (fun F1 H1 O1 σ1 s1 Hb C cl fp => st_yes) (fun F1 H1 O1 σ1 s1 Hb C cl fp => (se_and (se_frz (so_call (ok_is_name W) (hr.mono (by omega)) W.m_is_name W.F_is_name.kp (bn_is_name W) takes0 (sg_d (se_var 2 rfl (vis_of (by kernel_rfl)) (by kernel_rfl) (by kernel_rfl)) sg_nil) (gl_of (by kernel_rfl)) (by kernel_rfl))) (se_and (se_frz (so_call (ok_is_name W) (hr.mono (by omega)) W.m_is_name W.F_is_name.kp (bn_is_name W) takes0 (sg_d (se_var 3 rfl (vis_of (by kernel_rfl)) (by kernel_rfl) (by kernel_rfl)) sg_nil) (gl_of (by kernel_rfl)) (by kernel_rfl))) (se_one (se_cmp (od_ne hu) (se_var 2 rfl (vis_of (by kernel_rfl)) (by kernel_rfl) (by kernel_rfl)) (se_var 3 rfl (vis_of (by kernel_rfl)) (by kernel_rfl) (by kernel_rfl)))))))))))) (ss_one (sv_ret (so_d se_bl))) ss_nil)
       (ss_cons (sv_setLc (i := 4) (own := [("name", 2), ("to", 3)]) (fb := [0, 1, 4]) rfl NN (si_val (se_var 0 rfl (vis_of (by kernel_rfl)) (by kernel_rfl) (by kernel_rfl))) (blkOk_by (by kernel_rfl)) (fun F1 H1 O1 σ1 s1 Hb C cl fp => (tg_tup (n := 2) rfl (tg_cons (tg_name (i := 2) NN rfl (loc_of (by kernel_rfl))) (tg_cons (tg_name (i := 3) NN rfl (loc_of (by kernel_rfl))) tg_nil)))) (fun F1 H1 O1 σ1 s1 Hb C cl fp => st_yes) (fun F1 H1 O1 σ1 s1 Hb C cl fp => (se_var 2 rfl (vis_of (by kernel_rfl)) (by kernel_rfl) (by kernel_rfl))) rfl (by kernel_rfl))
       (ss_one (sv_ret (so_d (se_and (se_cmp (od_eq hu) (se_var 4 rfl (vis_of (by kernel_rfl)) (by kernel_rfl) (by kernel_rfl)) (se_n (n_sortK rfl hv W.b_sorted (sk_set rfl W.b_set (se_var 4 rfl (vis_of (by kernel_rfl)) (by kernel_rfl) (by kernel_rfl)))))) (se_one (se_cmp (od_eq hu) (se_n (n_b1 (cd_sorted hv) W.b_sorted (se_n (n_lc (own := [("name", 2), ("to", 3)]) (fb := [0, 1, 4]) rfl NN (si_val (se_var 0 rfl (vis_of (by kernel_rfl)) (by kernel_rfl) (by kernel_rfl))) (blkOk_by (by kernel_rfl)) (fun F1 H1 O1 σ1 s1 Hb C cl fp => (tg_tup (n := 2) rfl (tg_cons (tg_name (i := 2) NN rfl (loc_of (by kernel_rfl))) (tg_cons (tg_name (i := 3) NN rfl (loc_of (by kernel_rfl))) tg_nil)))) (fun F1 H1 O1 σ1 s1 Hb C cl fp => st_yes) (fun F1 H1 O1 σ1 s1 Hb C cl fp => (se_var 3 rfl (vis_of (by kernel_rfl)) (by kernel_rfl) (by kernel_rfl))))))) (se_var 4 rfl (vis_of (by kernel_rfl)) (by kernel_rfl) (by kernel_rfl)))))))))))
theorem ok_sure_turns (W : Wd K mg) : FnOk P w K mg base (L2.CX P w) 4 W.a_sure_turns W.d_sure_turns ["turns"] (spF K (He.ga K) SH.f_sure_turns) := by
    refine fn_rule (k := 3) [] W.F_sure_turns sc_sure_turns fun cdv A outer s H E F O σ hr tk => ?_
    have hu := u64 hr
    have hw := u65 hr
    have hv := u66 hr
    have NN := sc_sure_turns.nd
    exact (ss_one (sv_for (passes_of rfl) rfl (si_val (se_var 0 rfl (vis_of (by kernel_rfl)) (by kernel_rfl) (by kernel_rfl))) (fun F1 H1 O1 σ1 => (tg_name (i := 1) NN rfl (loc_of (by kernel_rfl)))) (fun F1 H1 O1 σ1 => (ss_one (sv_if (st_not (st_val (se_frz (so_call (ok_is_turn W) (hr.mono (by omega)) W.m_is_turn W.F_is_turn.kp (bn_is_turn W) tk (sg_d (se_var 1 rfl (vis_of (by kernel_rfl)) (by kernel_rfl) (by kernel_rfl)) sg_nil) (gl_of (by kernel_rfl)) (by kernel_rfl))))) (ss_one (sv_raise (y := "NoTurn") rfl tk PySem.F.excBase_ValueError W.x_NoTurn.1 W.n_NoTurn W.x_NoTurn.2.1 (raises_own W.x_NoTurn.2.2.1 W.x_NoTurn.2.2.2) rfl (gl_of (by kernel_rfl)) (by kernel_rfl))) ss_nil)))))
theorem ok_turn_from (W : Wd K mg) : FnOk P w K mg base (L2.CX P w) 1 W.a_turn_from W.d_turn_from ["moves"] (spF K (He.ga K) SH.f_turn_from) := by
    refine fn_rule (k := 0) [] W.F_turn_from sc_turn_from fun cdv A outer s H E F O σ hr tk => ?_
    have hu := u64 hr
    have hw := u65 hr
    have hv := u66 hr
    have NN := sc_turn_from.nd
    exact (ss_one (sv_ret (so_d (se_t1 cd_tup W.b_tuple (se_n (n_b1 (cd_sorted hv) W.b_sorted (se_n (n_lc (own := [("name", 1), ("to", 2)]) (fb := [0]) rfl NN (si_items (se_var 0 rfl (vis_of (by kernel_rfl)) (by kernel_rfl) (by kernel_rfl))) (blkOk_by (by kernel_rfl)) (fun F1 H1 O1 σ1 s1 Hb C cl fp => (tg_tup (n := 2) rfl (tg_cons (tg_name (i := 1) NN rfl (loc_of (by kernel_rfl))) (tg_cons (tg_name (i := 2) NN rfl (loc_of (by kernel_rfl))) tg_nil)))) (fun F1 H1 O1 σ1 s1 Hb C cl fp => (pts_one (st_cmp (od_ne hu) (se_var 1 rfl (vis_of (by kernel_rfl)) (by kernel_rfl) (by kernel_rfl)) (se_var 2 rfl (vis_of (by kernel_rfl)) (by kernel_rfl) (by kernel_rfl))))) (fun F1 H1 O1 σ1 s1 Hb C cl fp => (se_tup (sa_cons (se_var 1 rfl (vis_of (by kernel_rfl)) (by kernel_rfl) (by kernel_rfl)) (sa_cons (se_var 2 rfl (vis_of (by kernel_rfl)) (by kernel_rfl) (by kernel_rfl)) sa_nil))))))))))))
theorem ok_led_name (W : Wd K mg) : FnOk P w K mg base (L2.CX P w) 1 W.a_led_name W.d_led_name ["turn", "name"] (spF K (He.ga K) SH.f_led_name) := by
    refine fn_rule (k := 0) [] W.F_led_name sc_led_name fun cdv A outer s H E F O σ hr tk => ?_
    have hu := u64 hr
    have hw := u65 hr
    have hv := u66 hr
    have NN := sc_led_name.nd
    exact (ss_cons (sv_for (passes_of rfl) rfl (si_val (se_var 0 rfl (vis_of (by kernel_rfl)) (by kernel_rfl) (by kernel_rfl))) (fun F1 H1 O1 σ1 => (tg_tup (n := 2) rfl (tg_cons (tg_name (i := 2) NN rfl (loc_of (by kernel_rfl))) (tg_cons (tg_name (i := 3) NN rfl (loc_of (by kernel_rfl))) tg_nil)))) (fun F1 H1 O1 σ1 => (ss_one (sv_if (st_cmp (od_eq hu) (se_var 2 rfl (vis_of (by kernel_rfl)) (by kernel_rfl) (by kernel_rfl)) (se_var 1 rfl (vis_of (by kernel_rfl)) (by kernel_rfl) (by kernel_rfl))) (ss_one (sv_ret (so_d (se_var 3 rfl (vis_of (by kernel_rfl)) (by kernel_rfl) (by kernel_rfl))))) ss_nil))))
       (ss_one (sv_ret (so_d (se_var 1 rfl (vis_of (by kernel_rfl)) (by kernel_rfl) (by kernel_rfl))))))
theorem ok_undone (W : Wd K mg) : FnOk P w K mg base (L2.CX P w) 1 W.a_undone W.d_undone ["turn"] (spF K (He.ga K) SH.f_undone) := by
    refine fn_rule (k := 0) [] W.F_undone sc_undone fun cdv A outer s H E F O σ hr tk => ?_
    have hu := u64 hr
    have hw := u65 hr
    have hv := u66 hr
    have NN := sc_undone.nd
    exact (ss_one (sv_ret (so_d (se_t1 cd_tup W.b_tuple (se_n (n_b1 (cd_sorted hv) W.b_sorted (se_n (n_lc (own := [("name", 1), ("to", 2)]) (fb := [0]) rfl NN (si_val (se_var 0 rfl (vis_of (by kernel_rfl)) (by kernel_rfl) (by kernel_rfl))) (blkOk_by (by kernel_rfl)) (fun F1 H1 O1 σ1 s1 Hb C cl fp => (tg_tup (n := 2) rfl (tg_cons (tg_name (i := 1) NN rfl (loc_of (by kernel_rfl))) (tg_cons (tg_name (i := 2) NN rfl (loc_of (by kernel_rfl))) tg_nil)))) (fun F1 H1 O1 σ1 s1 Hb C cl fp => st_yes) (fun F1 H1 O1 σ1 s1 Hb C cl fp => (se_tup (sa_cons (se_var 2 rfl (vis_of (by kernel_rfl)) (by kernel_rfl) (by kernel_rfl)) (sa_cons (se_var 1 rfl (vis_of (by kernel_rfl)) (by kernel_rfl) (by kernel_rfl)) sa_nil))))))))))))
theorem ok_both_turns (W : Wd K mg) : FnOk P w K mg base (L2.CX P w) 2 W.a_both_turns W.d_both_turns ["one", "other"] (spF K (He.ga K) SH.f_both_turns) := by
    refine fn_rule (k := 1) [] W.F_both_turns sc_both_turns fun cdv A outer s H E F O σ hr tk => ?_
    have hu := u64 hr
    have hw := u65 hr
    have hv := u66 hr
    have NN := sc_both_turns.nd
    exact (ss_cons (sv_set (i := 2) NN (se_bin od_add (se_n (n_lc (own := [("name", 3), ("to", 4)]) (fb := [0, 1, 2]) rfl NN (si_val (se_var 0 rfl (vis_of (by kernel_rfl)) (by kernel_rfl) (by kernel_rfl))) (blkOk_by (by kernel_rfl)) (fun F1 H1 O1 σ1 s1 Hb C cl fp => (tg_tup (n := 2) rfl (tg_cons (tg_name (i := 3) NN rfl (loc_of (by kernel_rfl))) (tg_cons (tg_name (i := 4) NN rfl (loc_of (by kernel_rfl))) tg_nil)))) (fun F1 H1 O1 σ1 s1 Hb C cl fp => st_yes) (fun F1 H1 O1 σ1 s1 Hb C cl fp => (se_var 3 rfl (vis_of (by kernel_rfl)) (by kernel_rfl) (by kernel_rfl))))) (se_n (n_lc (own := [("name", 3), ("to", 4)]) (fb := [0, 1, 2]) rfl NN (si_val (se_var 1 rfl (vis_of (by kernel_rfl)) (by kernel_rfl) (by kernel_rfl))) (blkOk_by (by kernel_rfl)) (fun F1 H1 O1 σ1 s1 Hb C cl fp => (tg_tup (n := 2) rfl (tg_cons (tg_name (i := 3) NN rfl (loc_of (by kernel_rfl))) (tg_cons (tg_name (i := 4) NN rfl (loc_of (by kernel_rfl))) tg_nil)))) (fun F1 H1 O1 σ1 s1 Hb C cl fp => st_yes) (fun F1 H1 O1 σ1 s1 Hb C cl fp => (se_var 3 rfl (vis_of (by kernel_rfl)) (by kernel_rfl) (by kernel_rfl)))))) rfl (loc_of (by kernel_rfl)))
       (ss_one (sv_ret (so_call (ok_turn_from W) (hr.mono (by omega)) W.m_turn_from W.F_turn_from.kp (bn_turn_from W) tk (sg_d (se_dc (own := [("name", 3)]) (fb := [0, 1, 2, 4]) rfl NN (si_val (se_var 2 rfl (vis_of (by kernel_rfl)) (by kernel_rfl) (by kernel_rfl))) (blkOk_by (by kernel_rfl)) (fun F1 H1 O1 σ1 s1 Hb C cl fp => (tg_name (i := 3) NN rfl (loc_of (by kernel_rfl)))) (fun F1 H1 O1 σ1 s1 Hb C cl fp => st_yes) (fun F1 H1 O1 σ1 s1 Hb C cl fp => (se_var 3 rfl (vis_of (by kernel_rfl)) (by kernel_rfl) (by kernel_rfl))) (fun F1 H1 O1 σ1 s1 Hb C cl fp => (se_frz (so_call (ok_led_name W) (hr.mono (by omega)) W.m_led_name W.F_led_name.kp (bn_led_name W) takes0 (sg_d (se_var 1 rfl (vis_of (by kernel_rfl)) (by kernel_rfl) (by kernel_rfl)) (sg_d (se_frz (so_call (ok_led_name W) (hr.mono (by omega)) W.m_led_name W.F_led_name.kp (bn_led_name W) takes0 (sg_d (se_var 0 rfl (vis_of (by kernel_rfl)) (by kernel_rfl) (by kernel_rfl)) (sg_d (se_var 3 rfl (vis_of (by kernel_rfl)) (by kernel_rfl) (by kernel_rfl)) sg_nil)) (gl_of (by kernel_rfl)) (by kernel_rfl))) sg_nil)) (gl_of (by kernel_rfl)) (by kernel_rfl))))) sg_nil) (gl_of (by kernel_rfl)) (by kernel_rfl)))))
theorem ok_apart_in (W : Wd K mg) : FnOk P w K mg base (L2.CX P w) 2 W.a_apart_in W.d_apart_in ["one", "other"] (spF K (He.ga K) SH.f_apart_in) := by
    refine fn_rule (k := 1) [] W.F_apart_in sc_apart_in fun cdv A outer s H E F O σ hr tk => ?_
    have hu := u64 hr
    have hw := u65 hr
    have hv := u66 hr
    have NN := sc_apart_in.nd
    exact (ss_cons (sv_set (i := 2) NN (se_n (n_sortK rfl hv W.b_sorted (psk_st (sk_or rfl (sk_sc1 (own := [("name", 3), ("to", 4)]) (fb := [0, 1, 2]) rfl NN (si_val (se_var 0 rfl (vis_of (by kernel_rfl)) (by kernel_rfl) (by kernel_rfl))) (blkOk_by (by kernel_rfl)) (fun F1 H1 O1 σ1 s1 Hb C cl fp => (tg_tup (n := 2) rfl (tg_cons (tg_name (i := 3) NN rfl (loc_of (by kernel_rfl))) (tg_cons (tg_name (i := 4) NN rfl (loc_of (by kernel_rfl))) tg_nil)))) (fun F1 H1 O1 σ1 s1 Hb C cl fp => st_yes) (fun F1 H1 O1 σ1 s1 Hb C cl fp => (se_var 3 rfl (vis_of (by kernel_rfl)) (by kernel_rfl) (by kernel_rfl)))) (sk_sc1 (own := [("name", 3), ("to", 4)]) (fb := [0, 1, 2]) rfl NN (si_val (se_var 1 rfl (vis_of (by kernel_rfl)) (by kernel_rfl) (by kernel_rfl))) (blkOk_by (by kernel_rfl)) (fun F1 H1 O1 σ1 s1 Hb C cl fp => (tg_tup (n := 2) rfl (tg_cons (tg_name (i := 3) NN rfl (loc_of (by kernel_rfl))) (tg_cons (tg_name (i := 4) NN rfl (loc_of (by kernel_rfl))) tg_nil)))) (fun F1 H1 O1 σ1 s1 Hb C cl fp => st_yes) (fun F1 H1 O1 σ1 s1 Hb C cl fp => (se_var 3 rfl (vis_of (by kernel_rfl)) (by kernel_rfl) (by kernel_rfl)))))))) rfl (loc_of (by kernel_rfl)))
       (ss_one (sv_ret (so_n (n_lc (own := [("name", 3)]) (fb := [0, 1, 2, 4]) rfl NN (si_val (se_var 2 rfl (vis_of (by kernel_rfl)) (by kernel_rfl) (by kernel_rfl))) (blkOk_by (by kernel_rfl)) (fun F1 H1 O1 σ1 s1 Hb C cl fp => (tg_name (i := 3) NN rfl (loc_of (by kernel_rfl)))) (fun F1 H1 O1 σ1 s1 Hb C cl fp => (pts_one (st_cmp (od_ne hu) (se_frz (so_call (ok_led_name W) (hr.mono (by omega)) W.m_led_name W.F_led_name.kp (bn_led_name W) takes0 (sg_d (se_var 0 rfl (vis_of (by kernel_rfl)) (by kernel_rfl) (by kernel_rfl)) (sg_d (se_var 3 rfl (vis_of (by kernel_rfl)) (by kernel_rfl) (by kernel_rfl)) sg_nil)) (gl_of (by kernel_rfl)) (by kernel_rfl))) (se_frz (so_call (ok_led_name W) (hr.mono (by omega)) W.m_led_name W.F_led_name.kp (bn_led_name W) takes0 (sg_d (se_var 1 rfl (vis_of (by kernel_rfl)) (by kernel_rfl) (by kernel_rfl)) (sg_d (se_var 3 rfl (vis_of (by kernel_rfl)) (by kernel_rfl) (by kernel_rfl)) sg_nil)) (gl_of (by kernel_rfl)) (by kernel_rfl)))))) (fun F1 H1 O1 σ1 s1 Hb C cl fp => (se_var 3 rfl (vis_of (by kernel_rfl)) (by kernel_rfl) (by kernel_rfl))))))))
theorem ok_swap_of (W : Wd K mg) : FnOk P w K mg base (L2.CX P w) 2 W.a_swap_of W.d_swap_of ["name", "other"] (spF K (He.ga K) SH.f_swap_of) := by
    refine fn_rule (k := 1) [] W.F_swap_of sc_swap_of fun cdv A outer s H E F O σ hr tk => ?_
    have hu := u64 hr
    have hw := u65 hr
    have hv := u66 hr
    have NN := sc_swap_of.nd
    exact (ss_one (sv_ret (so_call (ok_turn_from W) (hr.mono (by omega)) W.m_turn_from W.F_turn_from.kp (bn_turn_from W) tk (sg_d (se_dict (sp_cons (fun F1 H1 O1 σ1 => (se_var 0 rfl (vis_of (by kernel_rfl)) (by kernel_rfl) (by kernel_rfl))) (fun F1 H1 O1 σ1 => (se_var 1 rfl (vis_of (by kernel_rfl)) (by kernel_rfl) (by kernel_rfl))) (sp_cons (fun F1 H1 O1 σ1 => (se_var 1 rfl (vis_of (by kernel_rfl)) (by kernel_rfl) (by kernel_rfl))) (fun F1 H1 O1 σ1 => (se_var 0 rfl (vis_of (by kernel_rfl)) (by kernel_rfl) (by kernel_rfl))) sp_nil))) sg_nil) (gl_of (by kernel_rfl)) (by kernel_rfl))))
theorem ok_turn_of (W : Wd K mg) : FnOk P w K mg base (L2.CX P w) 3 W.a_turn_of W.d_turn_of ["swaps"] (spF K (He.ga K) SH.f_turn_of) := by
    refine fn_rule (k := 2) [] W.F_turn_of sc_turn_of fun cdv A outer s H E F O σ hr tk => ?_
    have hu := u64 hr
    have hw := u65 hr
    have hv := u66 hr
    have NN := sc_turn_of.nd
    exact (ss_cons (sv_if (st_not (st_val (se_b1 (cd_all rfl) W.b_all (se_n (n_lc2 (own := [("pair", 1), ("name", 2)]) (fb := [0, 3, 4]) (fb1 := [0, 1, 3, 4]) (vs1 := [2]) rfl NN (si_val (se_var 0 rfl (vis_of (by kernel_rfl)) (by kernel_rfl) (by kernel_rfl))) (blkOk_by (by kernel_rfl)) (fun F1 H1 O1 σ1 s1 Hb C cl fp => (tg_name (i := 1) NN rfl (loc_of (by kernel_rfl)))) (fun F1 H1 O1 σ1 s1 Hb C cl fp => st_yes) (fun F1 H1 O1 σ1 s1 Hb C cl fp => (si_val (se_var 1 rfl (vis_of (by kernel_rfl)) (by kernel_rfl) (by kernel_rfl)))) (fun F1 H1 O1 σ1 s1 Hb C cl fp => (tg_name (i := 2) NN rfl (loc_of (by kernel_rfl)))) (fun F1 H1 O1 σ1 s1 Hb C cl fp => st_yes) (fun F1 H1 O1 σ1 s1 Hb C cl fp => (se_frz (so_call (ok_is_name W) (hr.mono (by omega)) W.m_is_name W.F_is_name.kp (bn_is_name W) takes0 (sg_d (se_var 2 rfl (vis_of (by kernel_rfl)) (by kernel_rfl) (by kernel_rfl)) sg_nil) (gl_of (by kernel_rfl)) (by kernel_rfl))))))))) (ss_one (sv_raise (y := "NoName") rfl tk PySem.F.excBase_ValueError W.x_NoName.1 W.n_NoName W.x_NoName.2.1 (raises_own W.x_NoName.2.2.1 W.x_NoName.2.2.2) rfl (gl_of (by kernel_rfl)) (by kernel_rfl))) ss_nil)
       (ss_cons (sv_set (i := 3) NN (se_tup sa_nil) rfl (loc_of (by kernel_rfl)))
       (ss_cons (sv_for (passes_of rfl) rfl (si_val (se_var 0 rfl (vis_of (by kernel_rfl)) (by kernel_rfl) (by kernel_rfl))) (fun F1 H1 O1 σ1 => (tg_tup (n := 2) rfl (tg_cons (tg_name (i := 2) NN rfl (loc_of (by kernel_rfl))) (tg_cons (tg_name (i := 4) NN rfl (loc_of (by kernel_rfl))) tg_nil)))) (fun F1 H1 O1 σ1 => (ss_one (sv_set (i := 3) NN (se_frz (so_call (ok_both_turns W) (hr.mono (by omega)) W.m_both_turns W.F_both_turns.kp (bn_both_turns W) tk (sg_d (se_var 3 rfl (vis_of (by kernel_rfl)) (by kernel_rfl) (by kernel_rfl)) (sg_d (se_frz (so_call (ok_swap_of W) (hr.mono (by omega)) W.m_swap_of W.F_swap_of.kp (bn_swap_of W) tk (sg_d (se_var 2 rfl (vis_of (by kernel_rfl)) (by kernel_rfl) (by kernel_rfl)) (sg_d (se_var 4 rfl (vis_of (by kernel_rfl)) (by kernel_rfl) (by kernel_rfl)) sg_nil)) (gl_of (by kernel_rfl)) (by kernel_rfl))) sg_nil)) (gl_of (by kernel_rfl)) (by kernel_rfl))) rfl (loc_of (by kernel_rfl))))))
       (ss_one (sv_ret (so_d (se_var 3 rfl (vis_of (by kernel_rfl)) (by kernel_rfl) (by kernel_rfl))))))))
theorem ok_turned_name (W : Wd K mg) : FnOk P w K mg base (L2.CX P w) 5 W.a_turned_name W.d_turned_name ["turn", "name"] (spF K (He.ga K) SH.f_turned_name) := by
    refine fn_rule (k := 4) [] W.F_turned_name sc_turned_name fun cdv A outer s H E F O σ hr tk => ?_
    have hu := u64 hr
    have hw := u65 hr
    have hv := u66 hr
    have NN := sc_turned_name.nd
    exact (ss_cons (sv_expr (so_callK0 (ok_sure_turns W) (hr.mono (by omega)) W.m_sure_turns W.F_sure_turns.kp (bn_sure_turns W) tk (gD_len gNil_len) (sk_d (se_n (n_lst (sa_cons (se_var 0 rfl (vis_of (by kernel_rfl)) (by kernel_rfl) (by kernel_rfl)) sa_nil))) sk_nil) (gl_of (by kernel_rfl)) (by kernel_rfl)))
       (ss_cons (sv_if (st_not (st_val (se_frz (so_call (ok_is_name W) (hr.mono (by omega)) W.m_is_name W.F_is_name.kp (bn_is_name W) tk (sg_d (se_var 1 rfl (vis_of (by kernel_rfl)) (by kernel_rfl) (by kernel_rfl)) sg_nil) (gl_of (by kernel_rfl)) (by kernel_rfl))))) (ss_one (sv_raise (y := "NoName") rfl tk PySem.F.excBase_ValueError W.x_NoName.1 W.n_NoName W.x_NoName.2.1 (raises_own W.x_NoName.2.2.1 W.x_NoName.2.2.2) rfl (gl_of (by kernel_rfl)) (by kernel_rfl))) ss_nil)
       (ss_one (sv_ret (so_call (ok_led_name W) (hr.mono (by omega)) W.m_led_name W.F_led_name.kp (bn_led_name W) tk (sg_d (se_var 0 rfl (vis_of (by kernel_rfl)) (by kernel_rfl) (by kernel_rfl)) (sg_d (se_var 1 rfl (vis_of (by kernel_rfl)) (by kernel_rfl) (by kernel_rfl)) sg_nil)) (gl_of (by kernel_rfl)) (by kernel_rfl))))))
theorem ok_then_turn (W : Wd K mg) : FnOk P w K mg base (L2.CX P w) 5 W.a_then_turn W.d_then_turn ["one", "other"] (spF K (He.ga K) SH.f_then_turn) := by
    refine fn_rule (k := 4) [] W.F_then_turn sc_then_turn fun cdv A outer s H E F O σ hr tk => ?_
    have hu := u64 hr
    have hw := u65 hr
    have hv := u66 hr
    have NN := sc_then_turn.nd
    exact (ss_cons (sv_expr (so_callK0 (ok_sure_turns W) (hr.mono (by omega)) W.m_sure_turns W.F_sure_turns.kp (bn_sure_turns W) tk (gD_len gNil_len) (sk_d (se_n (n_lst (sa_cons (se_var 0 rfl (vis_of (by kernel_rfl)) (by kernel_rfl) (by kernel_rfl)) (sa_cons (se_var 1 rfl (vis_of (by kernel_rfl)) (by kernel_rfl) (by kernel_rfl)) sa_nil)))) sk_nil) (gl_of (by kernel_rfl)) (by kernel_rfl)))
       (ss_one (sv_ret (so_call (ok_both_turns W) (hr.mono (by omega)) W.m_both_turns W.F_both_turns.kp (bn_both_turns W) tk (sg_d (se_var 0 rfl (vis_of (by kernel_rfl)) (by kernel_rfl) (by kernel_rfl)) (sg_d (se_var 1 rfl (vis_of (by kernel_rfl)) (by kernel_rfl) (by kernel_rfl)) sg_nil)) (gl_of (by kernel_rfl)) (by kernel_rfl)))))
theorem ok_back_turn (W : Wd K mg) : FnOk P w K mg base (L2.CX P w) 5 W.a_back_turn W.d_back_turn ["turn"] (spF K (He.ga K) SH.f_back_turn) := by
    refine fn_rule (k := 4) [] W.F_back_turn sc_back_turn fun cdv A outer s H E F O σ hr tk => ?_
    have hu := u64 hr
    have hw := u65 hr
    have hv := u66 hr
    have NN := sc_back_turn.nd
    exact (ss_cons (sv_expr (so_callK0 (ok_sure_turns W) (hr.mono (by omega)) W.m_sure_turns W.F_sure_turns.kp (bn_sure_turns W) tk (gD_len gNil_len) (sk_d (se_n (n_lst (sa_cons (se_var 0 rfl (vis_of (by kernel_rfl)) (by kernel_rfl) (by kernel_rfl)) sa_nil))) sk_nil) (gl_of (by kernel_rfl)) (by kernel_rfl)))
       (ss_one (sv_ret (so_call (ok_undone W) (hr.mono (by omega)) W.m_undone W.F_undone.kp (bn_undone W) tk (sg_d (se_var 0 rfl (vis_of (by kernel_rfl)) (by kernel_rfl) (by kernel_rfl)) sg_nil) (gl_of (by kernel_rfl)) (by kernel_rfl)))))
theorem ok_apart_names (W : Wd K mg) : FnOk P w K mg base (L2.CX P w) 5 W.a_apart_names W.d_apart_names ["one", "other"] (spF K (He.ga K) SH.f_apart_names) := by
    refine fn_rule (k := 4) [] W.F_apart_names sc_apart_names fun cdv A outer s H E F O σ hr tk => ?_
    have hu := u64 hr
    have hw := u65 hr
    have hv := u66 hr
    have NN := sc_apart_names.nd
    exact (ss_cons (sv_expr (so_callK0 (ok_sure_turns W) (hr.mono (by omega)) W.m_sure_turns W.F_sure_turns.kp (bn_sure_turns W) tk (gD_len gNil_len) (sk_d (se_n (n_lst (sa_cons (se_var 0 rfl (vis_of (by kernel_rfl)) (by kernel_rfl) (by kernel_rfl)) (sa_cons (se_var 1 rfl (vis_of (by kernel_rfl)) (by kernel_rfl) (by kernel_rfl)) sa_nil)))) sk_nil) (gl_of (by kernel_rfl)) (by kernel_rfl)))
       (ss_one (sv_ret (so_call (ok_apart_in W) (hr.mono (by omega)) W.m_apart_in W.F_apart_in.kp (bn_apart_in W) tk (sg_d (se_var 0 rfl (vis_of (by kernel_rfl)) (by kernel_rfl) (by kernel_rfl)) (sg_d (se_var 1 rfl (vis_of (by kernel_rfl)) (by kernel_rfl) (by kernel_rfl)) sg_nil)) (gl_of (by kernel_rfl)) (by kernel_rfl)))))
theorem ok_rounds_of (W : Wd K mg) : FnOk P w K mg base (L2.CX P w) 5 W.a_rounds_of W.d_rounds_of ["turn"] (spF K (He.ga K) SH.f_rounds_of) := by
    refine fn_rule (k := 4) [] W.F_rounds_of sc_rounds_of fun cdv A outer s H E F O σ hr tk => ?_
    have hu := u64 hr
    have hw := u65 hr
    have hv := u66 hr
    have NN := sc_rounds_of.nd
    exact (ss_cons (sv_expr (so_callK0 (ok_sure_turns W) (hr.mono (by omega)) W.m_sure_turns W.F_sure_turns.kp (bn_sure_turns W) tk (gD_len gNil_len) (sk_d (se_n (n_lst (sa_cons (se_var 0 rfl (vis_of (by kernel_rfl)) (by kernel_rfl) (by kernel_rfl)) sa_nil))) sk_nil) (gl_of (by kernel_rfl)) (by kernel_rfl)))
       (ss_cons (sv_setO (i := 1) NN (so_n (n_lst sa_nil)) rfl (loc_of (by kernel_rfl)))
       (ss_cons (sv_setO (i := 2) NN (so_n (n_lst sa_nil)) rfl (loc_of (by kernel_rfl)))
       (ss_cons (sv_for (passes_of rfl) rfl (si_val (se_var 0 rfl (vis_of (by kernel_rfl)) (by kernel_rfl) (by kernel_rfl))) (fun F1 H1 O1 σ1 => (tg_tup (n := 2) rfl (tg_cons (tg_name (i := 3) NN rfl (loc_of (by kernel_rfl))) (tg_cons (tg_name (i := 4) NN rfl (loc_of (by kernel_rfl))) tg_nil)))) (fun F1 H1 O1 σ1 => (ss_one (sv_if (st_cmp (od_nin hw) (se_var 3 rfl (vis_of (by kernel_rfl)) (by kernel_rfl) (by kernel_rfl)) (se_look 2 rfl (vis_of (by kernel_rfl)) (by kernel_rfl) (by kernel_rfl))) (ss_cons (sv_setO (i := 5) NN (so_n (n_lst (sa_cons (se_var 3 rfl (vis_of (by kernel_rfl)) (by kernel_rfl) (by kernel_rfl)) sa_nil))) rfl (loc_of (by kernel_rfl)))
       (ss_cons (sv_while (passes_of rfl) (st_cmp (od_ne hu) (se_frz (so_call (ok_led_name W) (hr.mono (by omega)) W.m_led_name W.F_led_name.kp (bn_led_name W) tk (sg_d (se_var 0 rfl (vis_of (by kernel_rfl)) (by kernel_rfl) (by kernel_rfl)) (sg_d (se_ix (se_look 5 rfl (vis_of (by kernel_rfl)) (by kernel_rfl) (by kernel_rfl)) (se_neg se_int)) sg_nil)) (gl_of (by kernel_rfl)) (by kernel_rfl))) (se_var 3 rfl (vis_of (by kernel_rfl)) (by kernel_rfl) (by kernel_rfl))) (ss_one (sv_expr (so_d (se_lm 5 PySem.F.slot_list_append PySem.F.type_list_append md_append (sa_cons (se_frz (so_call (ok_led_name W) (hr.mono (by omega)) W.m_led_name W.F_led_name.kp (bn_led_name W) tk (sg_d (se_var 0 rfl (vis_of (by kernel_rfl)) (by kernel_rfl) (by kernel_rfl)) (sg_d (se_ix (se_look 5 rfl (vis_of (by kernel_rfl)) (by kernel_rfl) (by kernel_rfl)) (se_neg se_int)) sg_nil)) (gl_of (by kernel_rfl)) (by kernel_rfl))) sa_nil) rfl (vis_of (by kernel_rfl)) (by kernel_rfl) (by kernel_rfl))))))
       (ss_cons (sv_expr (so_d (se_extend 2 (se_look 5 rfl (vis_of (by kernel_rfl)) (by kernel_rfl) (by kernel_rfl)) rfl (vis_of (by kernel_rfl)) (by kernel_rfl) (by kernel_rfl))))
       (ss_one (sv_expr (so_d (se_lm 1 PySem.F.slot_list_append PySem.F.type_list_append md_append (sa_cons (se_t1 cd_tup W.b_tuple (se_look 5 rfl (vis_of (by kernel_rfl)) (by kernel_rfl) (by kernel_rfl))) sa_nil) rfl (vis_of (by kernel_rfl)) (by kernel_rfl) (by kernel_rfl)))))))) ss_nil))))
       (ss_one (sv_ret (so_move 1 rfl (vis_of (by kernel_rfl)) (by kernel_rfl) (by kernel_rfl))))))))
theorem ok_swaps_of (W : Wd K mg) : FnOk P w K mg base (L2.CX P w) 6 W.a_swaps_of W.d_swaps_of ["turn"] (spF K (He.ga K) SH.f_swaps_of) := by
    refine fn_rule (k := 5) [] W.F_swaps_of sc_swaps_of fun cdv A outer s H E F O σ hr tk => ?_
    have hu := u64 hr
    have hw := u65 hr
    have hv := u66 hr
    have NN := sc_swaps_of.nd
    exact (ss_cons (sv_setO (i := 1) NN (so_n (n_lst sa_nil)) rfl (loc_of (by kernel_rfl)))
       (ss_cons (sv_for (passes_of rfl) rfl (si_val (se_frz (so_call (ok_rounds_of W) (hr.mono (by omega)) W.m_rounds_of W.F_rounds_of.kp (bn_rounds_of W) tk (sg_d (se_var 0 rfl (vis_of (by kernel_rfl)) (by kernel_rfl) (by kernel_rfl)) sg_nil) (gl_of (by kernel_rfl)) (by kernel_rfl)))) (fun F1 H1 O1 σ1 => (tg_star (k := 1) rfl (tg_cons (tg_name (i := 2) NN rfl (loc_of (by kernel_rfl))) (tg_cons (tg_name (i := 3) NN rfl (loc_of (by kernel_rfl))) tg_nil)))) (fun F1 H1 O1 σ1 => (ss_one (sv_expr (so_d (se_extend 1 (se_n (n_lc (own := [("other", 4)]) (fb := [0, 1, 2, 3]) rfl NN (si_val (se_var 3 rfl (vis_of (by kernel_rfl)) (by kernel_rfl) (by kernel_rfl))) (blkOk_by (by kernel_rfl)) (fun F1 H1 O1 σ1 s1 Hb C cl fp => (tg_name (i := 4) NN rfl (loc_of (by kernel_rfl)))) (fun F1 H1 O1 σ1 s1 Hb C cl fp => st_yes) (fun F1 H1 O1 σ1 s1 Hb C cl fp => (se_tup (sa_cons (se_var 2 rfl (vis_of (by kernel_rfl)) (by kernel_rfl) (by kernel_rfl)) (sa_cons (se_var 4 rfl (vis_of (by kernel_rfl)) (by kernel_rfl) (by kernel_rfl)) sa_nil)))))) rfl (vis_of (by kernel_rfl)) (by kernel_rfl) (by kernel_rfl)))))))
       (ss_one (sv_ret (so_move 1 rfl (vis_of (by kernel_rfl)) (by kernel_rfl) (by kernel_rfl))))))
theorem ok__law_mixed (W : Wd K mg) : FnOk P w K mg base (L2.CX P w) 1 W.a__law_mixed W.d__law_mixed ["_law_cell", "_law_k"] (spF K (He.ga K) SH.f__law_mixed) := by
    refine fn_rule (k := 0) [] W.F__law_mixed sc__law_mixed fun cdv A outer s H E F O σ hr tk => ?_
    have hu := u64 hr
    have hw := u65 hr
    have hv := u66 hr
    have NN := sc__law_mixed.nd
    exact (ss_cons (sv_set (i := 2) NN (se_bin od_mod (se_bin od_add (se_bin od_add (se_bin od_mul (se_var 0 rfl (vis_of (by kernel_rfl)) (by kernel_rfl) (by kernel_rfl)) se_int) (se_bin od_mul (se_var 1 rfl (vis_of (by kernel_rfl)) (by kernel_rfl) (by kernel_rfl)) se_int)) se_int) se_int) rfl (loc_of (by kernel_rfl)))
       (ss_cons (sv_set (i := 2) NN (se_bin od_mod (se_bin od_mul (se_var 2 rfl (vis_of (by kernel_rfl)) (by kernel_rfl) (by kernel_rfl)) (se_var 2 rfl (vis_of (by kernel_rfl)) (by kernel_rfl) (by kernel_rfl))) se_int) rfl (loc_of (by kernel_rfl)))
       (ss_one (sv_ret (so_d (se_bin od_div (se_bin od_mod (se_bin od_mul (se_var 2 rfl (vis_of (by kernel_rfl)) (by kernel_rfl) (by kernel_rfl)) (se_var 2 rfl (vis_of (by kernel_rfl)) (by kernel_rfl) (by kernel_rfl))) se_int) se_int))))))
theorem ok__law_pile (W : Wd K mg) : FnOk P w K mg base (L2.CX P w) 1 W.a__law_pile W.d__law_pile ["_law_script", "_law_k"] (spF K (He.ga K) SH.f__law_pile) := by
    refine fn_rule (k := 0) [] W.F__law_pile sc__law_pile fun cdv A outer s H E F O σ hr tk => ?_
    have hu := u64 hr
    have hw := u65 hr
    have hv := u66 hr
    have NN := sc__law_pile.nd
    exact (ss_cons (sv_set (i := 2) NN se_int rfl (loc_of (by kernel_rfl)))
       (ss_cons (sv_if (st_cmp od_lt (se_var 1 rfl (vis_of (by kernel_rfl)) (by kernel_rfl) (by kernel_rfl)) (se_b1 cd_len W.b_len (se_var 0 rfl (vis_of (by kernel_rfl)) (by kernel_rfl) (by kernel_rfl)))) (ss_one (sv_set (i := 2) NN (se_ix (se_var 0 rfl (vis_of (by kernel_rfl)) (by kernel_rfl) (by kernel_rfl)) (se_var 1 rfl (vis_of (by kernel_rfl)) (by kernel_rfl) (by kernel_rfl))) rfl (loc_of (by kernel_rfl)))) ss_nil)
       (ss_cons (sv_set (i := 3) NN (se_bin od_mod (se_var 2 rfl (vis_of (by kernel_rfl)) (by kernel_rfl) (by kernel_rfl)) (se_bin od_mul (se_bin od_mul (se_bin od_pow se_int se_int) (se_bin od_pow se_int se_int)) (se_bin od_pow se_int se_int))) rfl (loc_of (by kernel_rfl)))
       (ss_one (sv_ret (so_n (n_lst (sa_cons (se_bin od_mul (se_var 3 rfl (vis_of (by kernel_rfl)) (by kernel_rfl) (by kernel_rfl)) (se_t1 cd_int W.b_int (se_cmp od_ge (se_b1 cd_abs W.b_abs (se_var 2 rfl (vis_of (by kernel_rfl)) (by kernel_rfl) (by kernel_rfl))) (se_bin od_pow se_int se_int)))) (sa_cons (se_bin od_mod (se_var 2 rfl (vis_of (by kernel_rfl)) (by kernel_rfl) (by kernel_rfl)) se_int) (sa_cons (se_bin od_mul se_int (se_var 1 rfl (vis_of (by kernel_rfl)) (by kernel_rfl) (by kernel_rfl))) sa_nil))))))))))
theorem ok__law_take (W : Wd K mg) : FnOk P w K mg base (L2.CX P w) 2 W.a__law_take W.d__law_take ["_law_pile_here", "_law_many"] (spF K (He.ga K) SH.f__law_take) := by
    refine fn_rule (k := 1) [0] W.F__law_take sc__law_take fun cdv A outer s H E F O σ hr tk => ?_
    have hu := u64 hr
    have hw := u65 hr
    have hv := u66 hr
    have NN := sc__law_take.nd
    exact (ss_cons (sv_if (st_cmp (od_eq hu) (se_ix (se_look 0 rfl (vis_of (by kernel_rfl)) (by kernel_rfl) (by kernel_rfl)) se_int) se_int) (ss_cons (sv_put 0 rfl se_int (se_bin od_add (se_ix (se_look 0 rfl (vis_of (by kernel_rfl)) (by kernel_rfl) (by kernel_rfl)) se_int) se_int) (vis_of (by kernel_rfl)) (by kernel_rfl) (by kernel_rfl))
       (ss_one (sv_ret (so_d (se_bin od_mod (se_frz (so_call (ok__law_mixed W) (hr.mono (by omega)) W.m__law_mixed W.F__law_mixed.kp (bn__law_mixed W) tk (sg_d (se_ix (se_look 0 rfl (vis_of (by kernel_rfl)) (by kernel_rfl) (by kernel_rfl)) se_int) (sg_d (se_ix (se_look 0 rfl (vis_of (by kernel_rfl)) (by kernel_rfl) (by kernel_rfl)) se_int) sg_nil)) (gl_of (by kernel_rfl)) (by kernel_rfl))) (se_var 1 rfl (vis_of (by kernel_rfl)) (by kernel_rfl) (by kernel_rfl))))))) ss_nil)
       (ss_cons (sv_set (i := 2) NN (se_bin od_mod (se_ix (se_look 0 rfl (vis_of (by kernel_rfl)) (by kernel_rfl) (by kernel_rfl)) se_int) (se_var 1 rfl (vis_of (by kernel_rfl)) (by kernel_rfl) (by kernel_rfl))) rfl (loc_of (by kernel_rfl)))
       (ss_cons (sv_put 0 rfl se_int (se_bin od_div (se_ix (se_look 0 rfl (vis_of (by kernel_rfl)) (by kernel_rfl) (by kernel_rfl)) se_int) (se_var 1 rfl (vis_of (by kernel_rfl)) (by kernel_rfl) (by kernel_rfl))) (vis_of (by kernel_rfl)) (by kernel_rfl) (by kernel_rfl))
       (ss_one (sv_ret (so_d (se_var 2 rfl (vis_of (by kernel_rfl)) (by kernel_rfl) (by kernel_rfl))))))))
theorem ok__law_name (W : Wd K mg) : FnOk P w K mg base (L2.CX P w) 3 W.a__law_name W.d__law_name ["_law_pile_here"] (spF K (He.ga K) SH.f__law_name) := by
    refine fn_rule (k := 2) [0] W.F__law_name sc__law_name fun cdv A outer s H E F O σ hr tk => ?_
    have hu := u64 hr
    have hw := u65 hr
    have hv := u66 hr
    have NN := sc__law_name.nd
    exact (ss_cons (sv_set (i := 1) NN (se_frz (so_call (ok__law_take W) (hr.mono (by omega)) W.m__law_take W.F__law_take.kp (bn__law_take W) tk (sg_o 0 (sg_d se_int sg_nil) rfl (vis_of (by kernel_rfl)) (by kernel_rfl) (by kernel_rfl)) (gl_of (by kernel_rfl)) (by kernel_rfl))) rfl (loc_of (by kernel_rfl)))
       (ss_cons (sv_set (i := 2) NN se_str rfl (loc_of (by kernel_rfl)))
       (ss_cons (sv_set (i := 3) NN (se_ix (se_var 2 rfl (vis_of (by kernel_rfl)) (by kernel_rfl) (by kernel_rfl)) (se_frz (so_call (ok__law_take W) (hr.mono (by omega)) W.m__law_take W.F__law_take.kp (bn__law_take W) tk (sg_o 0 (sg_d (se_ix (se_n (n_lst (sa_cons se_int (sa_cons se_int sa_nil)))) (se_t1 cd_int W.b_int (se_cmp od_gt (se_var 1 rfl (vis_of (by kernel_rfl)) (by kernel_rfl) (by kernel_rfl)) se_int))) sg_nil) rfl (vis_of (by kernel_rfl)) (by kernel_rfl) (by kernel_rfl)) (gl_of (by kernel_rfl)) (by kernel_rfl)))) rfl (loc_of (by kernel_rfl)))
       (ss_cons (sv_if (st_cmp (od_eq hu) (se_var 1 rfl (vis_of (by kernel_rfl)) (by kernel_rfl) (by kernel_rfl)) se_int) (ss_one (sv_set (i := 3) NN (se_bin od_add (se_var 3 rfl (vis_of (by kernel_rfl)) (by kernel_rfl) (by kernel_rfl)) (se_t1 cd_str W.b_str (se_frz (so_call (ok__law_take W) (hr.mono (by omega)) W.m__law_take W.F__law_take.kp (bn__law_take W) tk (sg_o 0 (sg_d se_int sg_nil) rfl (vis_of (by kernel_rfl)) (by kernel_rfl) (by kernel_rfl)) (gl_of (by kernel_rfl)) (by kernel_rfl))))) rfl (loc_of (by kernel_rfl)))) ss_nil)
       (ss_cons (sv_if (st_cmp (od_eq hu) (se_var 1 rfl (vis_of (by kernel_rfl)) (by kernel_rfl) (by kernel_rfl)) se_int) (ss_one (sv_for (passes_of rfl) rfl (si_range1 W.b_range (se_bin od_add se_int (se_frz (so_call (ok__law_take W) (hr.mono (by omega)) W.m__law_take W.F__law_take.kp (bn__law_take W) tk (sg_o 0 (sg_d se_int sg_nil) rfl (vis_of (by kernel_rfl)) (by kernel_rfl) (by kernel_rfl)) (gl_of (by kernel_rfl)) (by kernel_rfl))))) (fun F1 H1 O1 σ1 => (tg_name (i := 4) NN rfl (loc_of (by kernel_rfl)))) (fun F1 H1 O1 σ1 => (ss_one (sv_set (i := 3) NN (se_bin od_add (se_var 3 rfl (vis_of (by kernel_rfl)) (by kernel_rfl) (by kernel_rfl)) (se_ix (se_bin od_add (se_var 2 rfl (vis_of (by kernel_rfl)) (by kernel_rfl) (by kernel_rfl)) se_str) (se_frz (so_call (ok__law_take W) (hr.mono (by omega)) W.m__law_take W.F__law_take.kp (bn__law_take W) tk (sg_o 0 (sg_d se_int sg_nil) rfl (vis_of (by kernel_rfl)) (by kernel_rfl) (by kernel_rfl)) (gl_of (by kernel_rfl)) (by kernel_rfl))))) rfl (loc_of (by kernel_rfl))))))) ss_nil)
       (ss_one (sv_ret (so_d (se_var 3 rfl (vis_of (by kernel_rfl)) (by kernel_rfl) (by kernel_rfl))))))))))
theorem ok__law_names (W : Wd K mg) : FnOk P w K mg base (L2.CX P w) 4 W.a__law_names W.d__law_names ["_law_pile_here", "_law_many"] (spF K (He.ga K) SH.f__law_names) := by
    refine fn_rule (k := 3) [0] W.F__law_names sc__law_names fun cdv A outer s H E F O σ hr tk => ?_
    have hu := u64 hr
    have hw := u65 hr
    have hv := u66 hr
    have NN := sc__law_names.nd
    exact (ss_cons (sv_setO (i := 2) NN (so_n (n_lst sa_nil)) rfl (loc_of (by kernel_rfl)))
       (ss_cons (sv_for (passes_of rfl) rfl (si_range1 W.b_range (se_var 1 rfl (vis_of (by kernel_rfl)) (by kernel_rfl) (by kernel_rfl))) (fun F1 H1 O1 σ1 => (tg_name (i := 3) NN rfl (loc_of (by kernel_rfl)))) (fun F1 H1 O1 σ1 => (ss_cons (sv_set (i := 4) NN (se_frz (so_call (ok__law_name W) (hr.mono (by omega)) W.m__law_name W.F__law_name.kp (bn__law_name W) tk (sg_o 0 sg_nil rfl (vis_of (by kernel_rfl)) (by kernel_rfl) (by kernel_rfl)) (gl_of (by kernel_rfl)) (by kernel_rfl))) rfl (loc_of (by kernel_rfl)))
       (ss_cons (sv_if (st_cmp (od_in hw) (se_var 4 rfl (vis_of (by kernel_rfl)) (by kernel_rfl) (by kernel_rfl)) (se_look 2 rfl (vis_of (by kernel_rfl)) (by kernel_rfl) (by kernel_rfl))) (ss_one (sv_set (i := 4) NN (se_ix (se_n (n_lc (own := [("_law_one", 5)]) (fb := [0, 1, 2, 3, 4]) rfl NN (si_val (se_n (n_lst (sa_cons se_str (sa_cons se_str (sa_cons se_str (sa_cons se_str (sa_cons se_str (sa_cons se_str (sa_cons se_str (sa_cons se_str sa_nil))))))))))) (blkOk_by (by kernel_rfl)) (fun F1 H1 O1 σ1 s1 Hb C cl fp => (tg_name (i := 5) NN rfl (loc_of (by kernel_rfl)))) (fun F1 H1 O1 σ1 s1 Hb C cl fp => (pts_one (st_cmp (od_nin hw) (se_var 5 rfl (vis_of (by kernel_rfl)) (by kernel_rfl) (by kernel_rfl)) (se_look 2 rfl (vis_of (by kernel_rfl)) (by kernel_rfl) (by kernel_rfl))))) (fun F1 H1 O1 σ1 s1 Hb C cl fp => (se_var 5 rfl (vis_of (by kernel_rfl)) (by kernel_rfl) (by kernel_rfl))))) se_int) rfl (loc_of (by kernel_rfl)))) ss_nil)
       (ss_one (sv_expr (so_d (se_lm 2 PySem.F.slot_list_append PySem.F.type_list_append md_append (sa_cons (se_var 4 rfl (vis_of (by kernel_rfl)) (by kernel_rfl) (by kernel_rfl)) sa_nil) rfl (vis_of (by kernel_rfl)) (by kernel_rfl) (by kernel_rfl)))))))))
       (ss_one (sv_ret (so_move 2 rfl (vis_of (by kernel_rfl)) (by kernel_rfl) (by kernel_rfl))))))
theorem ok__law_order (W : Wd K mg) : FnOk P w K mg base (L2.CX P w) 3 W.a__law_order W.d__law_order ["_law_pile_here", "_law_some"] (spF K (He.ga K) SH.f__law_order) := by
    refine fn_rule (k := 2) [0] W.F__law_order sc__law_order fun cdv A outer s H E F O σ hr tk => ?_
    have hu := u64 hr
    have hw := u65 hr
    have hv := u66 hr
    have NN := sc__law_order.nd
    exact (ss_cons (sv_setO (i := 2) NN (so_n (n_t1 cd_list W.b_list (se_var 1 rfl (vis_of (by kernel_rfl)) (by kernel_rfl) (by kernel_rfl)))) rfl (loc_of (by kernel_rfl)))
       (ss_cons (sv_setO (i := 3) NN (so_n (n_lst sa_nil)) rfl (loc_of (by kernel_rfl)))
       (ss_cons (sv_while (passes_of rfl) (st_cmp (od_ne hu) (se_look 2 rfl (vis_of (by kernel_rfl)) (by kernel_rfl) (by kernel_rfl)) (se_n (n_lst sa_nil))) (ss_one (sv_expr (so_d (se_lm 3 PySem.F.slot_list_append PySem.F.type_list_append md_append (sa_cons (se_lm 2 PySem.F.slot_list_pop PySem.F.type_list_pop md_pop (sa_cons (se_frz (so_call (ok__law_take W) (hr.mono (by omega)) W.m__law_take W.F__law_take.kp (bn__law_take W) tk (sg_o 0 (sg_d (se_b1 cd_len W.b_len (se_look 2 rfl (vis_of (by kernel_rfl)) (by kernel_rfl) (by kernel_rfl))) sg_nil) rfl (vis_of (by kernel_rfl)) (by kernel_rfl) (by kernel_rfl)) (gl_of (by kernel_rfl)) (by kernel_rfl))) sa_nil) rfl (vis_of (by kernel_rfl)) (by kernel_rfl) (by kernel_rfl)) sa_nil) rfl (vis_of (by kernel_rfl)) (by kernel_rfl) (by kernel_rfl))))))
       (ss_one (sv_ret (so_move 3 rfl (vis_of (by kernel_rfl)) (by kernel_rfl) (by kernel_rfl)))))))
theorem ok__law_turn (W : Wd K mg) : FnOk P w K mg base (L2.CX P w) 4 W.a__law_turn W.d__law_turn ["_law_pile_here", "_law_names_here"] (spF K (He.ga K) SH.f__law_turn) := by
    refine fn_rule (k := 3) [0] W.F__law_turn sc__law_turn fun cdv A outer s H E F O σ hr tk => ?_
    have hu := u64 hr
    have hw := u65 hr
    have hv := u66 hr
    have NN := sc__law_turn.nd
    exact (ss_cons (sv_set (i := 2) NN (se_frz (so_call (ok__law_take W) (hr.mono (by omega)) W.m__law_take W.F__law_take.kp (bn__law_take W) tk (sg_o 0 (sg_d se_int sg_nil) rfl (vis_of (by kernel_rfl)) (by kernel_rfl) (by kernel_rfl)) (gl_of (by kernel_rfl)) (by kernel_rfl))) rfl (loc_of (by kernel_rfl)))
       (ss_cons (sv_setO (i := 3) NN (so_n (n_t1 cd_list W.b_list (se_var 1 rfl (vis_of (by kernel_rfl)) (by kernel_rfl) (by kernel_rfl)))) rfl (loc_of (by kernel_rfl)))
       (ss_cons (sv_if (st_cmp (od_eq hu) (se_var 2 rfl (vis_of (by kernel_rfl)) (by kernel_rfl) (by kernel_rfl)) se_int) (ss_cons (sv_par (i := 4) (j := 5) rfl NN (sa_cons (se_frz (so_call (ok__law_take W) (hr.mono (by omega)) W.m__law_take W.F__law_take.kp (bn__law_take W) tk (sg_o 0 (sg_d (se_b1 cd_len W.b_len (se_var 1 rfl (vis_of (by kernel_rfl)) (by kernel_rfl) (by kernel_rfl))) sg_nil) rfl (vis_of (by kernel_rfl)) (by kernel_rfl) (by kernel_rfl)) (gl_of (by kernel_rfl)) (by kernel_rfl))) (sa_cons (se_frz (so_call (ok__law_take W) (hr.mono (by omega)) W.m__law_take W.F__law_take.kp (bn__law_take W) tk (sg_o 0 (sg_d (se_b1 cd_len W.b_len (se_var 1 rfl (vis_of (by kernel_rfl)) (by kernel_rfl) (by kernel_rfl))) sg_nil) rfl (vis_of (by kernel_rfl)) (by kernel_rfl) (by kernel_rfl)) (gl_of (by kernel_rfl)) (by kernel_rfl))) sa_nil)) rfl rfl (by decide) (by kernel_rfl) (by kernel_rfl))
       (ss_cons (sv_set (i := 6) NN (se_ix (se_look 3 rfl (vis_of (by kernel_rfl)) (by kernel_rfl) (by kernel_rfl)) (se_var 4 rfl (vis_of (by kernel_rfl)) (by kernel_rfl) (by kernel_rfl))) rfl (loc_of (by kernel_rfl)))
       (ss_cons (sv_put 3 rfl (se_var 4 rfl (vis_of (by kernel_rfl)) (by kernel_rfl) (by kernel_rfl)) (se_ix (se_look 3 rfl (vis_of (by kernel_rfl)) (by kernel_rfl) (by kernel_rfl)) (se_var 5 rfl (vis_of (by kernel_rfl)) (by kernel_rfl) (by kernel_rfl))) (vis_of (by kernel_rfl)) (by kernel_rfl) (by kernel_rfl))
       (ss_one (sv_put 3 rfl (se_var 5 rfl (vis_of (by kernel_rfl)) (by kernel_rfl) (by kernel_rfl)) (se_var 6 rfl (vis_of (by kernel_rfl)) (by kernel_rfl) (by kernel_rfl)) (vis_of (by kernel_rfl)) (by kernel_rfl) (by kernel_rfl)))))) ss_nil)
       (ss_cons (sv_if (st_cmp (od_eq hu) (se_var 2 rfl (vis_of (by kernel_rfl)) (by kernel_rfl) (by kernel_rfl)) se_int) (ss_one (sv_setO (i := 3) NN (so_call (ok__law_order W) (hr.mono (by omega)) W.m__law_order W.F__law_order.kp (bn__law_order W) tk (sg_o 0 (sg_d (se_var 1 rfl (vis_of (by kernel_rfl)) (by kernel_rfl) (by kernel_rfl)) sg_nil) rfl (vis_of (by kernel_rfl)) (by kernel_rfl) (by kernel_rfl)) (gl_of (by kernel_rfl)) (by kernel_rfl)) rfl (loc_of (by kernel_rfl)))) ss_nil)
       (ss_one (sv_ret (so_d (se_t1 cd_tup W.b_tuple (se_n (n_b1 (cd_sorted hv) W.b_sorted (se_n (n_lc (own := [("_law_name_here", 7), ("_law_to", 8)]) (fb := [0, 1, 2, 3, 4, 5, 6]) rfl NN (si_zip W.b_zip (se_var 1 rfl (vis_of (by kernel_rfl)) (by kernel_rfl) (by kernel_rfl)) (se_frzv 3 rfl (vis_of (by kernel_rfl)) (by kernel_rfl) (by kernel_rfl))) (blkOk_by (by kernel_rfl)) (fun F1 H1 O1 σ1 s1 Hb C cl fp => (tg_tup (n := 2) rfl (tg_cons (tg_name (i := 7) NN rfl (loc_of (by kernel_rfl))) (tg_cons (tg_name (i := 8) NN rfl (loc_of (by kernel_rfl))) tg_nil)))) (fun F1 H1 O1 σ1 s1 Hb C cl fp => (pts_one (st_cmp (od_ne hu) (se_var 7 rfl (vis_of (by kernel_rfl)) (by kernel_rfl) (by kernel_rfl)) (se_var 8 rfl (vis_of (by kernel_rfl)) (by kernel_rfl) (by kernel_rfl))))) (fun F1 H1 O1 σ1 s1 Hb C cl fp => (se_tup (sa_cons (se_var 7 rfl (vis_of (by kernel_rfl)) (by kernel_rfl) (by kernel_rfl)) (sa_cons (se_var 8 rfl (vis_of (by kernel_rfl)) (by kernel_rfl) (by kernel_rfl)) sa_nil))))))))))))))))
theorem ok__law_lengths (W : Wd K mg) : FnOk P w K mg base (L2.CX P w) 6 W.a__law_lengths W.d__law_lengths ["_law_turn_here"] (spF K (He.ga K) SH.f__law_lengths) := by
    refine fn_rule (k := 5) [] W.F__law_lengths sc__law_lengths fun cdv A outer s H E F O σ hr tk => ?_
    have hu := u64 hr
    have hw := u65 hr
    have hv := u66 hr
    have NN := sc__law_lengths.nd
    exact (ss_one (sv_ret (so_n (n_b1 (cd_sorted hv) W.b_sorted (se_n (n_lc (own := [("_law_one", 1)]) (fb := [0]) rfl NN (si_val (se_frz (so_call (ok_rounds_of W) (hr.mono (by omega)) W.m_rounds_of W.F_rounds_of.kp (bn_rounds_of W) tk (sg_d (se_var 0 rfl (vis_of (by kernel_rfl)) (by kernel_rfl) (by kernel_rfl)) sg_nil) (gl_of (by kernel_rfl)) (by kernel_rfl)))) (blkOk_by (by kernel_rfl)) (fun F1 H1 O1 σ1 s1 Hb C cl fp => (tg_name (i := 1) NN rfl (loc_of (by kernel_rfl)))) (fun F1 H1 O1 σ1 s1 Hb C cl fp => st_yes) (fun F1 H1 O1 σ1 s1 Hb C cl fp => (se_b1 cd_len W.b_len (se_var 1 rfl (vis_of (by kernel_rfl)) (by kernel_rfl) (by kernel_rfl))))))))))
theorem ok_law (W : Wd K mg) : FnOk P w K mg base (L2.CX P w) 7 W.a_law W.d_law ["_law_script"] (spF K (He.ga K) f_law) := by
    refine fn_rule (k := 6) [] W.F_law sc_law fun cdv A outer s H E F O σ hr tk => ?_
    have hu := u64 hr
    have hw := u65 hr
    have hv := u66 hr
    have NN := sc_law.nd
    exact (ss_cons (sv_for (passes_of rfl) rfl (si_range3 W.b_range se_int se_int se_int) (fun F1 H1 O1 σ1 => (tg_name (i := 1) NN rfl (loc_of (by kernel_rfl)))) (fun F1 H1 O1 σ1 => (ss_cons (sv_setO (i := 2) NN (so_call (ok__law_pile W) (hr.mono (by omega)) W.m__law_pile W.F__law_pile.kp (bn__law_pile W) tk (sg_d (se_var 0 rfl (vis_of (by kernel_rfl)) (by kernel_rfl) (by kernel_rfl)) (sg_d (se_var 1 rfl (vis_of (by kernel_rfl)) (by kernel_rfl) (by kernel_rfl)) sg_nil)) (gl_of (by kernel_rfl)) (by kernel_rfl)) rfl (loc_of (by kernel_rfl)))
       (ss_cons (sv_set (i := 3) NN (se_frz (so_call (ok__law_names W) (hr.mono (by omega)) W.m__law_names W.F__law_names.kp (bn__law_names W) tk (sg_o 2 (sg_d (se_bin od_add se_int (se_frz (so_call (ok__law_take W) (hr.mono (by omega)) W.m__law_take W.F__law_take.kp (bn__law_take W) tk (sg_o 2 (sg_d se_int sg_nil) rfl (vis_of (by kernel_rfl)) (by kernel_rfl) (by kernel_rfl)) (gl_of (by kernel_rfl)) (by kernel_rfl)))) sg_nil) rfl (vis_of (by kernel_rfl)) (by kernel_rfl) (by kernel_rfl)) (gl_of (by kernel_rfl)) (by kernel_rfl))) rfl (loc_of (by kernel_rfl)))
       (ss_cons (sv_set (i := 4) NN (se_frz (so_call (ok__law_turn W) (hr.mono (by omega)) W.m__law_turn W.F__law_turn.kp (bn__law_turn W) tk (sg_o 2 (sg_d (se_var 3 rfl (vis_of (by kernel_rfl)) (by kernel_rfl) (by kernel_rfl)) sg_nil) rfl (vis_of (by kernel_rfl)) (by kernel_rfl) (by kernel_rfl)) (gl_of (by kernel_rfl)) (by kernel_rfl))) rfl (loc_of (by kernel_rfl)))
       (ss_cons (sv_setO (i := 2) NN (so_call (ok__law_pile W) (hr.mono (by omega)) W.m__law_pile W.F__law_pile.kp (bn__law_pile W) tk (sg_d (se_var 0 rfl (vis_of (by kernel_rfl)) (by kernel_rfl) (by kernel_rfl)) (sg_d (se_bin od_add (se_var 1 rfl (vis_of (by kernel_rfl)) (by kernel_rfl) (by kernel_rfl)) se_int) sg_nil)) (gl_of (by kernel_rfl)) (by kernel_rfl)) rfl (loc_of (by kernel_rfl)))
       (ss_cons (sv_tgt (se_tup (sa_cons (se_frz (so_call (ok__law_turn W) (hr.mono (by omega)) W.m__law_turn W.F__law_turn.kp (bn__law_turn W) tk (sg_o 2 (sg_d (se_var 3 rfl (vis_of (by kernel_rfl)) (by kernel_rfl) (by kernel_rfl)) sg_nil) rfl (vis_of (by kernel_rfl)) (by kernel_rfl) (by kernel_rfl)) (gl_of (by kernel_rfl)) (by kernel_rfl))) (sa_cons (se_frz (so_call (ok__law_turn W) (hr.mono (by omega)) W.m__law_turn W.F__law_turn.kp (bn__law_turn W) tk (sg_o 2 (sg_d (se_var 3 rfl (vis_of (by kernel_rfl)) (by kernel_rfl) (by kernel_rfl)) sg_nil) rfl (vis_of (by kernel_rfl)) (by kernel_rfl) (by kernel_rfl)) (gl_of (by kernel_rfl)) (by kernel_rfl))) sa_nil))) (tg_tup (n := 2) rfl (tg_cons (tg_name (i := 5) NN rfl (loc_of (by kernel_rfl))) (tg_cons (tg_name (i := 6) NN rfl (loc_of (by kernel_rfl))) tg_nil))))
       (ss_cons (sv_set (i := 7) NN (se_frz (so_call (ok_then_turn W) (hr.mono (by omega)) W.m_then_turn W.F_then_turn.kp (bn_then_turn W) tk (sg_d (se_var 4 rfl (vis_of (by kernel_rfl)) (by kernel_rfl) (by kernel_rfl)) (sg_d (se_var 5 rfl (vis_of (by kernel_rfl)) (by kernel_rfl) (by kernel_rfl)) sg_nil)) (gl_of (by kernel_rfl)) (by kernel_rfl))) rfl (loc_of (by kernel_rfl)))
       (ss_cons (sv_if (st_cmp (od_ne hu) (se_frz (so_call (ok_then_turn W) (hr.mono (by omega)) W.m_then_turn W.F_then_turn.kp (bn_then_turn W) tk (sg_d (se_var 7 rfl (vis_of (by kernel_rfl)) (by kernel_rfl) (by kernel_rfl)) (sg_d (se_var 6 rfl (vis_of (by kernel_rfl)) (by kernel_rfl) (by kernel_rfl)) sg_nil)) (gl_of (by kernel_rfl)) (by kernel_rfl))) (se_frz (so_call (ok_then_turn W) (hr.mono (by omega)) W.m_then_turn W.F_then_turn.kp (bn_then_turn W) tk (sg_d (se_var 4 rfl (vis_of (by kernel_rfl)) (by kernel_rfl) (by kernel_rfl)) (sg_d (se_frz (so_call (ok_then_turn W) (hr.mono (by omega)) W.m_then_turn W.F_then_turn.kp (bn_then_turn W) tk (sg_d (se_var 5 rfl (vis_of (by kernel_rfl)) (by kernel_rfl) (by kernel_rfl)) (sg_d (se_var 6 rfl (vis_of (by kernel_rfl)) (by kernel_rfl) (by kernel_rfl)) sg_nil)) (gl_of (by kernel_rfl)) (by kernel_rfl))) sg_nil)) (gl_of (by kernel_rfl)) (by kernel_rfl)))) (ss_one (sv_ret (so_d se_bl))) ss_nil)
       (ss_cons (sv_if (PW.pt (st_or (st_cmp (od_ne hu) (se_frz (so_call (ok_then_turn W) (hr.mono (by omega)) W.m_then_turn W.F_then_turn.kp (bn_then_turn W) tk (sg_d (se_var 4 rfl (vis_of (by kernel_rfl)) (by kernel_rfl) (by kernel_rfl)) (sg_d (se_frz (so_call (ok_back_turn W) (hr.mono (by omega)) W.m_back_turn W.F_back_turn.kp (bn_back_turn W) tk (sg_d (se_var 4 rfl (vis_of (by kernel_rfl)) (by kernel_rfl) (by kernel_rfl)) sg_nil) (gl_of (by kernel_rfl)) (by kernel_rfl))) sg_nil)) (gl_of (by kernel_rfl)) (by kernel_rfl))) (se_tup sa_nil)) (st_or1 (st_cmp (od_ne hu) (se_frz (so_call (ok_then_turn W) (hr.mono (by omega)) W.m_then_turn W.F_then_turn.kp (bn_then_turn W) tk (sg_d (se_frz (so_call (ok_back_turn W) (hr.mono (by omega)) W.m_back_turn W.F_back_turn.kp (bn_back_turn W) tk (sg_d (se_var 4 rfl (vis_of (by kernel_rfl)) (by kernel_rfl) (by kernel_rfl)) sg_nil) (gl_of (by kernel_rfl)) (by kernel_rfl))) (sg_d (se_var 4 rfl (vis_of (by kernel_rfl)) (by kernel_rfl) (by kernel_rfl)) sg_nil)) (gl_of (by kernel_rfl)) (by kernel_rfl))) (se_tup sa_nil))))) (ss_one (sv_ret (so_d se_bl))) ss_nil)
       (ss_cons (sv_if (PW.pt (st_or (st_cmp (od_ne hu) (se_frz (so_call (ok_back_turn W) (hr.mono (by omega)) W.m_back_turn W.F_back_turn.kp (bn_back_turn W) tk (sg_d (se_var 7 rfl (vis_of (by kernel_rfl)) (by kernel_rfl) (by kernel_rfl)) sg_nil) (gl_of (by kernel_rfl)) (by kernel_rfl))) (se_frz (so_call (ok_then_turn W) (hr.mono (by omega)) W.m_then_turn W.F_then_turn.kp (bn_then_turn W) tk (sg_d (se_frz (so_call (ok_back_turn W) (hr.mono (by omega)) W.m_back_turn W.F_back_turn.kp (bn_back_turn W) tk (sg_d (se_var 5 rfl (vis_of (by kernel_rfl)) (by kernel_rfl) (by kernel_rfl)) sg_nil) (gl_of (by kernel_rfl)) (by kernel_rfl))) (sg_d (se_frz (so_call (ok_back_turn W) (hr.mono (by omega)) W.m_back_turn W.F_back_turn.kp (bn_back_turn W) tk (sg_d (se_var 4 rfl (vis_of (by kernel_rfl)) (by kernel_rfl) (by kernel_rfl)) sg_nil) (gl_of (by kernel_rfl)) (by kernel_rfl))) sg_nil)) (gl_of (by kernel_rfl)) (by kernel_rfl)))) (st_or1 (st_cmp (od_ne hu) (se_frz (so_call (ok_back_turn W) (hr.mono (by omega)) W.m_back_turn W.F_back_turn.kp (bn_back_turn W) tk (sg_d (se_frz (so_call (ok_back_turn W) (hr.mono (by omega)) W.m_back_turn W.F_back_turn.kp (bn_back_turn W) tk (sg_d (se_var 4 rfl (vis_of (by kernel_rfl)) (by kernel_rfl) (by kernel_rfl)) sg_nil) (gl_of (by kernel_rfl)) (by kernel_rfl))) sg_nil) (gl_of (by kernel_rfl)) (by kernel_rfl))) (se_var 4 rfl (vis_of (by kernel_rfl)) (by kernel_rfl) (by kernel_rfl)))))) (ss_one (sv_ret (so_d se_bl))) ss_nil)
       (ss_cons (sv_set (i := 8) NN (se_frz (so_call (ok_apart_names W) (hr.mono (by omega)) W.m_apart_names W.F_apart_names.kp (bn_apart_names W) tk (sg_d (se_var 4 rfl (vis_of (by kernel_rfl)) (by kernel_rfl) (by kernel_rfl)) (sg_d (se_var 5 rfl (vis_of (by kernel_rfl)) (by kernel_rfl) (by kernel_rfl)) sg_nil)) (gl_of (by kernel_rfl)) (by kernel_rfl))) rfl (loc_of (by kernel_rfl)))
       (ss_cons (sv_if (PW.pt (st_or (st_cmp (od_ne hu) (se_cmp (od_eq hu) (se_var 8 rfl (vis_of (by kernel_rfl)) (by kernel_rfl) (by kernel_rfl)) (se_n (n_lst sa_nil))) (se_cmp (od_eq hu) (se_var 4 rfl (vis_of (by kernel_rfl)) (by kernel_rfl) (by kernel_rfl)) (se_var 5 rfl (vis_of (by kernel_rfl)) (by kernel_rfl) (by kernel_rfl)))) (st_or1 (st_cmp (od_ne hu) (se_frz (so_call (ok_apart_names W) (hr.mono (by omega)) W.m_apart_names W.F_apart_names.kp (bn_apart_names W) tk (sg_d (se_frz (so_call (ok_then_turn W) (hr.mono (by omega)) W.m_then_turn W.F_then_turn.kp (bn_then_turn W) tk (sg_d (se_var 4 rfl (vis_of (by kernel_rfl)) (by kernel_rfl) (by kernel_rfl)) (sg_d (se_var 6 rfl (vis_of (by kernel_rfl)) (by kernel_rfl) (by kernel_rfl)) sg_nil)) (gl_of (by kernel_rfl)) (by kernel_rfl))) (sg_d (se_frz (so_call (ok_then_turn W) (hr.mono (by omega)) W.m_then_turn W.F_then_turn.kp (bn_then_turn W) tk (sg_d (se_var 5 rfl (vis_of (by kernel_rfl)) (by kernel_rfl) (by kernel_rfl)) (sg_d (se_var 6 rfl (vis_of (by kernel_rfl)) (by kernel_rfl) (by kernel_rfl)) sg_nil)) (gl_of (by kernel_rfl)) (by kernel_rfl))) sg_nil)) (gl_of (by kernel_rfl)) (by kernel_rfl))) (se_var 8 rfl (vis_of (by kernel_rfl)) (by kernel_rfl) (by kernel_rfl)))))) (ss_one (sv_ret (so_d se_bl))) ss_nil)
       (ss_cons (sv_set (i := 9) NN (se_n (n_b1 (cd_sorted hv) W.b_sorted (se_n (n_lc (own := [("_law_name_here", 10)]) (fb := [0, 1, 2, 3, 4, 5, 6, 7, 8, 9]) rfl NN (si_val (se_var 8 rfl (vis_of (by kernel_rfl)) (by kernel_rfl) (by kernel_rfl))) (blkOk_by (by kernel_rfl)) (fun F1 H1 O1 σ1 s1 Hb C cl fp => (tg_name (i := 10) NN rfl (loc_of (by kernel_rfl)))) (fun F1 H1 O1 σ1 s1 Hb C cl fp => st_yes) (fun F1 H1 O1 σ1 s1 Hb C cl fp => (se_frz (so_call (ok_turned_name W) (hr.mono (by omega)) W.m_turned_name W.F_turned_name.kp (bn_turned_name W) takes0 (sg_d (se_frz (so_call (ok_back_turn W) (hr.mono (by omega)) W.m_back_turn W.F_back_turn.kp (bn_back_turn W) takes0 (sg_d (se_var 6 rfl (vis_of (by kernel_rfl)) (by kernel_rfl) (by kernel_rfl)) sg_nil) (gl_of (by kernel_rfl)) (by kernel_rfl))) (sg_d (se_var 10 rfl (vis_of (by kernel_rfl)) (by kernel_rfl) (by kernel_rfl)) sg_nil)) (gl_of (by kernel_rfl)) (by kernel_rfl)))))))) rfl (loc_of (by kernel_rfl)))
       (ss_cons (sv_if (st_cmp (od_ne hu) (se_frz (so_call (ok_apart_names W) (hr.mono (by omega)) W.m_apart_names W.F_apart_names.kp (bn_apart_names W) tk (sg_d (se_frz (so_call (ok_then_turn W) (hr.mono (by omega)) W.m_then_turn W.F_then_turn.kp (bn_then_turn W) tk (sg_d (se_var 6 rfl (vis_of (by kernel_rfl)) (by kernel_rfl) (by kernel_rfl)) (sg_d (se_var 4 rfl (vis_of (by kernel_rfl)) (by kernel_rfl) (by kernel_rfl)) sg_nil)) (gl_of (by kernel_rfl)) (by kernel_rfl))) (sg_d (se_frz (so_call (ok_then_turn W) (hr.mono (by omega)) W.m_then_turn W.F_then_turn.kp (bn_then_turn W) tk (sg_d (se_var 6 rfl (vis_of (by kernel_rfl)) (by kernel_rfl) (by kernel_rfl)) (sg_d (se_var 5 rfl (vis_of (by kernel_rfl)) (by kernel_rfl) (by kernel_rfl)) sg_nil)) (gl_of (by kernel_rfl)) (by kernel_rfl))) sg_nil)) (gl_of (by kernel_rfl)) (by kernel_rfl))) (se_var 9 rfl (vis_of (by kernel_rfl)) (by kernel_rfl) (by kernel_rfl))) (ss_one (sv_ret (so_d se_bl))) ss_nil)
       (ss_cons (sv_if (st_cmp (od_ne hu) (se_frz (so_call (ok__law_lengths W) (hr.mono (by omega)) W.m__law_lengths W.F__law_lengths.kp (bn__law_lengths W) tk (sg_d (se_frz (so_call (ok_then_turn W) (hr.mono (by omega)) W.m_then_turn W.F_then_turn.kp (bn_then_turn W) tk (sg_d (se_frz (so_call (ok_then_turn W) (hr.mono (by omega)) W.m_then_turn W.F_then_turn.kp (bn_then_turn W) tk (sg_d (se_frz (so_call (ok_back_turn W) (hr.mono (by omega)) W.m_back_turn W.F_back_turn.kp (bn_back_turn W) tk (sg_d (se_var 6 rfl (vis_of (by kernel_rfl)) (by kernel_rfl) (by kernel_rfl)) sg_nil) (gl_of (by kernel_rfl)) (by kernel_rfl))) (sg_d (se_var 4 rfl (vis_of (by kernel_rfl)) (by kernel_rfl) (by kernel_rfl)) sg_nil)) (gl_of (by kernel_rfl)) (by kernel_rfl))) (sg_d (se_var 6 rfl (vis_of (by kernel_rfl)) (by kernel_rfl) (by kernel_rfl)) sg_nil)) (gl_of (by kernel_rfl)) (by kernel_rfl))) sg_nil) (gl_of (by kernel_rfl)) (by kernel_rfl))) (se_frz (so_call (ok__law_lengths W) (hr.mono (by omega)) W.m__law_lengths W.F__law_lengths.kp (bn__law_lengths W) tk (sg_d (se_var 4 rfl (vis_of (by kernel_rfl)) (by kernel_rfl) (by kernel_rfl)) sg_nil) (gl_of (by kernel_rfl)) (by kernel_rfl)))) (ss_one (sv_ret (so_d se_bl))) ss_nil)
       (ss_one (sv_if (PW.pt (st_or (st_cmp (od_ne hu) (se_frz (so_call (ok_turn_of W) (hr.mono (by omega)) W.m_turn_of W.F_turn_of.kp (bn_turn_of W) tk (sg_d (se_bin od_add (se_frz (so_call (ok_swaps_of W) (hr.mono (by omega)) W.m_swaps_of W.F_swaps_of.kp (bn_swaps_of W) tk (sg_d (se_var 4 rfl (vis_of (by kernel_rfl)) (by kernel_rfl) (by kernel_rfl)) sg_nil) (gl_of (by kernel_rfl)) (by kernel_rfl))) (se_frz (so_call (ok_swaps_of W) (hr.mono (by omega)) W.m_swaps_of W.F_swaps_of.kp (bn_swaps_of W) tk (sg_d (se_var 5 rfl (vis_of (by kernel_rfl)) (by kernel_rfl) (by kernel_rfl)) sg_nil) (gl_of (by kernel_rfl)) (by kernel_rfl)))) sg_nil) (gl_of (by kernel_rfl)) (by kernel_rfl))) (se_var 7 rfl (vis_of (by kernel_rfl)) (by kernel_rfl) (by kernel_rfl))) (st_or (st_cmp (od_ne hu) (se_frz (so_call (ok_then_turn W) (hr.mono (by omega)) W.m_then_turn W.F_then_turn.kp (bn_then_turn W) tk (sg_d (se_var 4 rfl (vis_of (by kernel_rfl)) (by kernel_rfl) (by kernel_rfl)) (sg_d (se_tup sa_nil) sg_nil)) (gl_of (by kernel_rfl)) (by kernel_rfl))) (se_var 4 rfl (vis_of (by kernel_rfl)) (by kernel_rfl) (by kernel_rfl))) (st_or1 (st_cmp (od_ne hu) (se_frz (so_call (ok_then_turn W) (hr.mono (by omega)) W.m_then_turn W.F_then_turn.kp (bn_then_turn W) tk (sg_d (se_tup sa_nil) (sg_d (se_var 4 rfl (vis_of (by kernel_rfl)) (by kernel_rfl) (by kernel_rfl)) sg_nil)) (gl_of (by kernel_rfl)) (by kernel_rfl))) (se_var 4 rfl (vis_of (by kernel_rfl)) (by kernel_rfl) (by kernel_rfl))))))) (ss_one (sv_ret (so_d se_bl))) ss_nil))))))))))))))))))
       (ss_one (sv_ret (so_d se_bl))))
end
end K06
end
section
set_option maxRecDepth 100000
set_option maxHeartbeats 0
set_option exponentiation.threshold 3000
namespace K06
open PySem PySem.Spec PyProof.Rows L2 DL SH
structure TIn (l : List Str) (w : PL) : Prop where
  T : Turn w
  out : ∀ s, s ∉ l → ledP w s = s
  len : w.length ≤ 6
theorem TIn.of {l : List Str} {w : PL} (hl : Names 6 l) (T : Turn w) (out : ∀ s, s ∉ l → ledP w s = s) : TIn l w := ⟨T, out, Nat.le_trans (T.few out) hl.len⟩
theorem TIn.both {l : List Str} {w x : PL} (hl : Names 6 l) (W : TIn l w) (X : TIn l x) : TIn l (SH.both w x) := .of hl (W.T.both X.T) fun s hs => by rw [both_led, W.out s hs, X.out s hs]
theorem TIn.inv {l : List Str} {w : PL} (hl : Names 6 l) (W : TIn l w) : TIn l (SH.inv w) := .of hl W.T.inv fun s hs => by
  have := W.T.inv_led s
  rw [W.out s hs] at this
  exact this
theorem TIn.then {l : List Str} {w x : PL} (W : TIn l w) (X : TIn l x) : f_then_turn [.d (tD w), .d (tD x)] = .ok (.d (tD (SH.both w x))) [some (.d (tD w)), some (.d (tD x))] := W.T.then X.T (by have := W.len; omega) (by have := X.len; omega)
theorem TIn.back {l : List Str} {w : PL} (W : TIn l w) : f_back_turn [.d (tD w)] = .ok (.d (tD (SH.inv w))) [some (.d (tD w))] := W.T.back (by have := W.len; omega)
theorem TIn.apart {l : List Str} {w x : PL} (W : TIn l w) (X : TIn l x) : f_apart_names [.d (tD w), .d (tD x)] = .ok (.lst ((apartL w x).map .str)) [some (.d (tD w)), some (.d (tD x))] := W.T.apart X.T (by have := W.len; omega) (by have := X.len; omega)
theorem TIn.ne {l : List Str} {w : PL} (W : TIn l w) : neD (tD w) (tD w) = some (.bool false) := by
  have := ne_t W.T.nm W.T.nm
  rw [decide_eq_true rfl] at this
  exact this
theorem ne_b (a b : Bool) : neD (.bool a) (.bool b) = some (.bool (!(a == b))) := by cases a <;> cases b <;> rfl
theorem body_ok (ns : List Int) (i : Nat) (hi : i < 20) (w2 w3 w4 w5 w6 w7 w8 w9 : Option OV) :
    ∃ (v2 v3 v4 v5 v6 v7 v8 v9 : Option OV), b2_law [some (.d (scrD ns)), some (.d (.int (0 + (i : Nat) * 2))), w2, w3, w4, w5, w6, w7, w8, w9, none] = .ok .nx [some (.d (scrD ns)), some (.d (.int (0 + (i : Nat) * 2))), v2, v3, v4, v5, v6, v7, v8, v9, none] := by
  have ei : (0 + (i : Int) * 2) = ((2 * i : Nat) : Int) := by omega
  have ej : (((2 * i : Nat) : Int) + 1) = ((2 * i + 1 : Nat) : Int) := by omega
  rw [ei]
  obtain ⟨p0, hp0, e0⟩ := pile_ok ns (2 * i) (by omega)
  obtain ⟨m, p1, m0, m1, hp1, e1⟩ := take_ok (by omega) hp0 6 (by omega) (by omega)
  obtain ⟨l, p2, l1, l2, l3, hp2, e2⟩ := names_ok (by omega) hp1 (m.toNat + 1) (by omega)
  have hcast : (1 + m : Int) = ((m.toNat + 1 : Nat) : Int) := by omega
  rw [← hcast] at e2
  have nl : Names 6 l := ⟨by omega, l2, l3⟩
  obtain ⟨t, p3, T0, ht, hp3, e3⟩ := drawn_ok (by omega) hp2 nl (by omega) (by omega)
  obtain ⟨q0, hq0, g0⟩ := pile_ok ns (2 * i + 1) (by omega)
  rw [← ej] at g0
  obtain ⟨u, q1, U0, hu, hq1, g1⟩ := drawn_ok (by omega) hq0 nl (by omega) (by omega)
  obtain ⟨v, q2, V0, hv, hq2, g2⟩ := drawn_ok (by omega) hq1 nl (by omega) (by omega)
  have T : TIn l t := .of nl T0 fun s hs => ledP_out fun k => hs (ht s k)
  have U : TIn l u := .of nl U0 fun s hs => ledP_out fun k => hs (hu s k)
  have V : TIn l v := .of nl V0 fun s hs => ledP_out fun k => hs (hv s k)
  have N : TIn l [] := .of nl turn_nil fun _ _ => rfl
  have B := T.both nl U
  have c1 := T.then U
  have c2 := B.then V
  have c3 := U.then V
  have c4 := T.then (U.both nl V)
  rw [← both_assoc T0 U0 V0] at c4
  have n4 := (B.both nl V).ne
  have c5 := T.back
  have c6 := T.then (T.inv nl)
  rw [both_inv_r T0] at c6
  have c7 := (T.inv nl).then T
  rw [both_inv_l T0] at c7
  have n7 := N.ne
  have c8 := B.back
  rw [inv_both T0 U0] at c8
  have c9 := U.back
  have c10 := (U.inv nl).then (T.inv nl)
  have n10 := ((U.inv nl).both nl (T.inv nl)).ne
  have c11 := (T.inv nl).back
  rw [inv_inv T0] at c11
  have nt := T.ne
  have c12 := T.apart U
  have Lnm := apart_nm T0 U0
  have el : eqD (.list ((apartL t u).map .str)) (.list []) = some (.bool (decide (apartL t u = []))) := eq_strs (b := []) (nmOk Lnm) (by decide +kernel)
  have et := eq_t T0.nm U0.nm
  have nb : neD (.bool (decide (apartL t u = []))) (.bool (decide (t = u))) = some (.bool false) := by
    rw [ne_b]
    by_cases h : t = u
    · rw [decide_eq_true h, decide_eq_true ((apart_nil_iff T0 U0).mpr h)]; rfl
    · rw [decide_eq_false h, decide_eq_false fun z => h ((apart_nil_iff T0 U0).mp z)]; rfl
  have c13 := T.then V
  have c14 := (T.both nl V).apart (U.both nl V)
  rw [apart_behind V0] at c14
  have nL := ne_strs (nmOk Lnm) (nmOk Lnm)
  rw [decide_eq_true rfl] at nL
  have c15 := V.then T
  have c16 := V.then U
  have c17 := (V.both nl T).apart (V.both nl U)
  rw [apart_ahead V0] at c17
  have bv := V.back
  have Snm : ∀ s ∈ (apartL t u).map (ledP (SH.inv v)), NmS s := fun s hs => by
    obtain ⟨x, hx, rfl⟩ := List.mem_map.mp hs
    exact led_nm2 V0.inv.nm (Lnm x hx)
  have so := sortO_strs Snm
  have Snm2 : ∀ s ∈ sortS ((apartL t u).map (ledP (SH.inv v))), NmS s := fun s hs => Snm s ((sortS_perm _).mem_iff.mp hs)
  have nS := ne_strs (nmOk Snm2) (nmOk Snm2)
  rw [decide_eq_true rfl] at nS
  -- lengths
  have W := ((V.inv nl).both nl T).both nl V
  have c18 := (V.inv nl).then T
  have c19 := ((V.inv nl).both nl T).then V
  obtain ⟨rs, R, er⟩ := T0.rounds (by have := T.len; omega)
  obtain ⟨qs, Q, eq⟩ := U0.rounds (by have := U.len; omega)
  obtain ⟨zs, Z, ez⟩ := W.T.rounds (by have := W.len; omega)
  have lt := lengths_ok er
  have lw := lengths_ok ez
  have ll : srtI (lens zs) = srtI (lens rs) := srtI_perm (lens_conj T0 W.T V0 (fun s => by rw [both_led, both_led, V0.inv_led]) R Z)
  rw [ll] at lw
  have nI := ne_ints (srtI (lens rs))
  -- swaps
  have s1 := T0.swaps (by have := T.len; omega) R er
  have s2 := U0.swaps (by have := U.len; omega) Q eq
  have sl1 := R.sum
  have sl2 := Q.sum
  have ad := add_l (a := (swsOf rs).map pd) (b := (swsOf qs).map pd) (by rw [List.length_map, List.length_map]; have := T.len; have := U.len; omega)
  rw [← List.map_append] at ad
  have to := turn_of_ok (sw := swsOf rs ++ swsOf qs) (fun p hp => (List.mem_append.mp hp).elim (R.nm T0 p) (Q.nm U0 p)) (by rw [List.length_append]; have := T.len; have := U.len; omega)
  rw [swaps_both T0 U0 R Q] at to
  have nB := B.ne
  have tn : tD [] = .tuple [] := rfl
  have c20 := T.then N
  have c21 := N.then T
  rw [both_nil_r T0, tn] at c20
  rw [both_nil_l T0, tn] at c21
  rw [tn] at c6 c7 n7
  let A := fun (a2 a3 a4 a5 a6 a7 a8 a9 : Option OV) => [some (OV.d (scrD ns)), some (.d (.int ((2 * i : Nat) : Int))), a2, a3, a4, a5, a6, a7, a8, a9, none]
  have a0 : ∀ a2 a3 a4 a5 a6 a7 a8 a9, A a2 a3 a4 a5 a6 a7 a8 a9 = [some (OV.d (scrD ns)), some (.d (.int ((2 * i : Nat) : Int))), a2, a3, a4, a5, a6, a7, a8, a9, none] := fun _ _ _ _ _ _ _ _ => rfl
  have tu : ∀ s, NmS s → f_turned_name [.d (tD (SH.inv v)), .d (.str s)] = .ok (.d (.str (ledP (SH.inv v) s))) [some (.d (tD (SH.inv v))), some (.d (.str s))] := fun s hs => V0.inv.turned (by have := (V.inv nl).len; omega) hs
  have lc : ∀ w9, lcGo [10] (tName 10) mYes e1_law ((apartL t u).map .str) (A (some (.lst q2)) (some (.d (.list (l.map .str)))) (some (.d (tD t))) (some (.d (tD u))) (some (.d (tD v))) (some (.d (tD (SH.both t u)))) (some (.d (.list ((apartL t u).map .str)))) w9) = .ok (((apartL t u).map (ledP (SH.inv v))).map .str) (A (some (.lst q2)) (some (.d (.list (l.map .str)))) (some (.d (tD t))) (some (.d (tD u))) (some (.d (tD v))) (some (.d (tD (SH.both t u)))) (some (.d (.list ((apartL t u).map .str)))) w9) := fun w9 => by
    have lc := lcGo_pure (vs := [10]) (t := tName 10) (tst := mYes) (e := e1_law) (p := fun _ => true) (g := strF (ledP (SH.inv v))) (ρ := A (some (.lst q2)) (some (.d (.list (l.map .str)))) (some (.d (tD t))) (some (.d (tD u))) (some (.d (tD v))) (some (.d (tD (SH.both t u)))) (some (.d (.list ((apartL t u).map .str)))) w9) (xs := (apartL t u).map .str) fun x hx => by
      obtain ⟨s, hs, rfl⟩ := List.mem_map.mp hx
      refine ⟨[some (OV.d (scrD ns)), some (.d (.int ((2 * i : Nat) : Int))), some (.lst q2), some (.d (.list (l.map .str))), some (.d (tD t)), some (.d (tD u)), some (.d (tD v)), some (.d (tD (SH.both t u))), some (.d (.list ((apartL t u).map .str))), w9, some (.d (.str s))], [some (OV.d (scrD ns)), some (.d (.int ((2 * i : Nat) : Int))), some (.lst q2), some (.d (.list (l.map .str))), some (.d (tD t)), some (.d (tD u)), some (.d (tD v)), some (.d (tD (SH.both t u))), some (.d (.list ((apartL t u).map .str))), w9, some (.d (.str s))], by simp [A], rfl, fun z => (by cases z), fun _ => ⟨[some (OV.d (scrD ns)), some (.d (.int ((2 * i : Nat) : Int))), some (.lst q2), some (.d (.list (l.map .str))), some (.d (tD t)), some (.d (tD u)), some (.d (tD v)), some (.d (tD (SH.both t u))), some (.d (.list ((apartL t u).map .str))), w9, some (.d (.str s))], ?_, rfl⟩⟩
      have := tu s (Lnm s hs)
      simp [bv, this, strF]
    rw [filt_all, List.map_map] at lc
    rw [show (apartL t u).map (strF (ledP (SH.inv v)) ∘ PyData.str) = ((apartL t u).map (ledP (SH.inv v))).map .str from by rw [List.map_map]; rfl] at lc
    exact lc
  have iL := il ((apartL t u).map .str)
  refine ⟨some (.lst q2), some (.d (.list (l.map .str))), some (.d (tD t)), some (.d (tD u)), some (.d (tD v)), some (.d (tD (SH.both t u))), some (.d (.list ((apartL t u).map .str))), some (.d (.list ((sortS ((apartL t u).map (ledP (SH.inv v)))).map .str))), ?_⟩
  clear T U V N B W R Q Z T0 U0 V0 nl l3 Lnm Snm Snm2 tu ht hu hv sl1 sl2 er eq ez
  clear_value A
  generalize (sortS ((apartL t u).map (ledP (SH.inv v)))).map PyData.str = x1 at *
  generalize ((apartL t u).map (ledP (SH.inv v))).map PyData.str = x2 at *
  generalize (apartL t u).map PyData.str = x3 at *
  generalize (srtI (lens rs)).map PyData.int = x4 at *
  generalize (swsOf rs ++ swsOf qs).map pd = x5 at *
  generalize (swsOf rs).map pd = x6 at *
  generalize (swsOf qs).map pd = x7 at *
  generalize l.map PyData.str = nl at *
  generalize tD (SH.both (SH.both (SH.inv v) t) v) = y1 at *
  generalize tD (SH.both (SH.inv v) t) = y2 at *
  generalize tD (SH.both (SH.inv u) (SH.inv t)) = y3 at *
  generalize tD (SH.both (SH.both t u) v) = y4 at *
  generalize tD (SH.both t u) = y5 at *
  generalize tD (SH.both u v) = y6 at *
  generalize tD (SH.both t v) = y7 at *
  generalize tD (SH.both v t) = y8 at *
  generalize tD (SH.both v u) = y9 at *
  generalize tD (SH.inv t) = y10 at *
  generalize tD (SH.inv u) = y11 at *
  generalize tD (SH.inv v) = y12 at *
  generalize decide (apartL t u = []) = b1 at *
  generalize decide (t = u) = b2 at *
  generalize tD t = t1 at *
  generalize tD u = u1 at *
  generalize tD v = v1 at *
  generalize hJ : ((2 * i : Nat) : Int) = J at *
  have nx {a b : M Fl} {ρ ρ1 : DL.Env} (h : a ρ = .ok .nx ρ1) : sSeq a b ρ = b ρ1 := seq_nx h
  refine (nx (ρ1 := A (some (.lst p0)) w3 w4 w5 w6 w7 w8 w9) (by simp [a0, e0])).trans ?_
  refine (nx (ρ1 := A (some (.lst p2)) (some (.d (.list nl))) w4 w5 w6 w7 w8 w9) (by simp [a0, e1, e2])).trans ?_
  refine (nx (ρ1 := A (some (.lst p3)) (some (.d (.list nl))) (some (.d t1)) w5 w6 w7 w8 w9) (by simp [a0, e3])).trans ?_
  refine (nx (ρ1 := A (some (.lst q0)) (some (.d (.list nl))) (some (.d t1)) w5 w6 w7 w8 w9) (by simp [a0, g0])).trans ?_
  refine (nx (ρ1 := A (some (.lst q2)) (some (.d (.list nl))) (some (.d t1)) (some (.d u1)) (some (.d v1)) w7 w8 w9) (by simp [a0, sTgt, g1, g2])).trans ?_
  refine (nx (ρ1 := A (some (.lst q2)) (some (.d (.list nl))) (some (.d t1)) (some (.d u1)) (some (.d v1)) (some (.d y5)) w8 w9) (by simp [a0, c1])).trans ?_
  refine (nx (ρ1 := A (some (.lst q2)) (some (.d (.list nl))) (some (.d t1)) (some (.d u1)) (some (.d v1)) (some (.d y5)) w8 w9) (by simp [a0, c2, c3, c4, n4])).trans ?_
  refine (nx (ρ1 := A (some (.lst q2)) (some (.d (.list nl))) (some (.d t1)) (some (.d u1)) (some (.d v1)) (some (.d y5)) w8 w9) (by simp [a0, c5, c6, c7, n7])).trans ?_
  refine (nx (ρ1 := A (some (.lst q2)) (some (.d (.list nl))) (some (.d t1)) (some (.d u1)) (some (.d v1)) (some (.d y5)) w8 w9) (by simp [a0, c5, c8, c9, c10, c11, n10, nt])).trans ?_
  refine (nx (ρ1 := A (some (.lst q2)) (some (.d (.list nl))) (some (.d t1)) (some (.d u1)) (some (.d v1)) (some (.d y5)) (some (.d (.list x3))) w9) (by simp [a0, c12])).trans ?_
  refine (nx (ρ1 := A (some (.lst q2)) (some (.d (.list nl))) (some (.d t1)) (some (.d u1)) (some (.d v1)) (some (.d y5)) (some (.d (.list x3))) w9) (by simp [a0, el, et, nb, c13, c3, c14, nL])).trans ?_
  refine (nx (ρ1 := A (some (.lst q2)) (some (.d (.list nl))) (some (.d t1)) (some (.d u1)) (some (.d v1)) (some (.d y5)) (some (.d (.list x3))) (some (.d (.list x1)))) (by simp only [a0] at lc ⊢; simp [iL, dataAt, lc, backE, so])).trans ?_
  refine (nx (ρ1 := A (some (.lst q2)) (some (.d (.list nl))) (some (.d t1)) (some (.d u1)) (some (.d v1)) (some (.d y5)) (some (.d (.list x3))) (some (.d (.list x1)))) (by simp [a0, c15, c16, c17, nS])).trans ?_
  refine (nx (ρ1 := A (some (.lst q2)) (some (.d (.list nl))) (some (.d t1)) (some (.d u1)) (some (.d v1)) (some (.d y5)) (some (.d (.list x3))) (some (.d (.list x1)))) (by simp [a0, bv, c18, c19, lt, lw, nI])).trans ?_
  simp [a0, s1, s2, ad, to, nB, c20, c21, nt]
theorem range3_at {i : Nat} {x : D} (h : ((List.range 20).map fun m => PyData.int (0 + (m : Nat) * 2))[i]? = some x) : i < 20 ∧ x = .int (0 + (i : Nat) * 2) := by
  have hi : i < 20 := by
    have := (List.getElem?_eq_some_iff.mp h).1
    simpa using this
  refine ⟨hi, ?_⟩
  rw [List.getElem?_map, List.getElem?_range hi] at h
  simpa using h.symm
theorem law_true : ∀ ns : List Int, ns.length ≤ 63 → ∃ outs, f_law [.d (scrD ns)] = .ok (.d (.bool true)) outs := fun ns hns => by
  have hr : range3 (.int 0) (.int 40) (.int 2) = some ((List.range 20).map fun m => PyData.int (0 + (m : Nat) * 2)) := by
    have e : range3 (.int 0) (.int 40) (.int 2) = if (0 : Int) < 2 ∧ (2 : Int) < 2 ^ 20 ∧ -(2 ^ 20) < (0 : Int) ∧ (0 : Int) < 2 ^ 20 ∧ -(2 ^ 20) < (40 : Int) ∧ (40 : Int) < 2 ^ 20 then some ((List.range (((40 : Int) - 0 + 2 - 1) / 2).toNat).map fun m => PyData.int (0 + (m : Nat) * 2)) else none := rfl
    rw [e, if_pos (by omega)]
    rfl
  obtain ⟨ρ', f1, w1, w2, w3, w4, w5, w6, w7, w8, w9, rfl⟩ := forGo_inv (t := tName 1) (b := b2_law) (xs := (List.range 20).map fun m => PyData.int (0 + (m : Nat) * 2)) (ρ := [some (.d (scrD ns)), none, none, none, none, none, none, none, none, none, none])
    (fun i ρ => ∃ (w1 w2 w3 w4 w5 w6 w7 w8 w9 : Option OV), ρ = [some (.d (scrD ns)), w1, w2, w3, w4, w5, w6, w7, w8, w9, none])
    ⟨none, none, none, none, none, none, none, none, none, rfl⟩ fun i x ρ hx ⟨w1, w2, w3, w4, w5, w6, w7, w8, w9, e⟩ => by
      subst e
      obtain ⟨hi, rfl⟩ := range3_at hx
      obtain ⟨v2, v3, v4, v5, v6, v7, v8, v9, h⟩ := body_ok ns i hi w2 w3 w4 w5 w6 w7 w8 w9
      exact ⟨_, _, rfl, h, _, v2, v3, v4, v5, v6, v7, v8, v9, rfl⟩
  generalize ((List.range 20).map fun m => PyData.int (0 + (m : Nat) * 2)) = xs at *
  refine ⟨[some (.d (scrD ns))], fn_ok (ρ' := [some (.d (scrD ns)), w1, w2, w3, w4, w5, w6, w7, w8, w9, none]) rfl ?_ rfl⟩
  unfold m_law
  refine (seq_nx (ρ1 := [some (.d (scrD ns)), w1, w2, w3, w4, w5, w6, w7, w8, w9, none]) (by
    simp [hr]
    exact f1)).trans ?_
  simp
end K06
end
section
set_option maxRecDepth 100000
set_option maxHeartbeats 0
namespace K06
open PySem PySem.Spec PyProof.Rows L2 DL
def dd_is_called : He.DefD := ⟨("is_called", none), "is_called", "is_called", defArgs s_is_called, defBody s_is_called, defScope s_is_called, [], []⟩
def dd_is_name : He.DefD := ⟨("is_name", none), "is_name", "is_name", defArgs s_is_name, defBody s_is_name, defScope s_is_name, [], []⟩
def dd_is_turn : He.DefD := ⟨("is_turn", none), "is_turn", "is_turn", defArgs s_is_turn, defBody s_is_turn, defScope s_is_turn, [], []⟩
def dd_sure_turns : He.DefD := ⟨("sure_turns", none), "sure_turns", "sure_turns", defArgs s_sure_turns, defBody s_sure_turns, defScope s_sure_turns, [], []⟩
def dd_turn_from : He.DefD := ⟨("turn_from", none), "turn_from", "turn_from", defArgs s_turn_from, defBody s_turn_from, defScope s_turn_from, [], []⟩
def dd_led_name : He.DefD := ⟨("led_name", none), "led_name", "led_name", defArgs s_led_name, defBody s_led_name, defScope s_led_name, [], []⟩
def dd_undone : He.DefD := ⟨("undone", none), "undone", "undone", defArgs s_undone, defBody s_undone, defScope s_undone, [], []⟩
def dd_both_turns : He.DefD := ⟨("both_turns", none), "both_turns", "both_turns", defArgs s_both_turns, defBody s_both_turns, defScope s_both_turns, [], []⟩
def dd_apart_in : He.DefD := ⟨("apart_in", none), "apart_in", "apart_in", defArgs s_apart_in, defBody s_apart_in, defScope s_apart_in, [], []⟩
def dd_swap_of : He.DefD := ⟨("swap_of", none), "swap_of", "swap_of", defArgs s_swap_of, defBody s_swap_of, defScope s_swap_of, [], []⟩
def dd_turn_of : He.DefD := ⟨("turn_of", none), "turn_of", "turn_of", defArgs s_turn_of, defBody s_turn_of, defScope s_turn_of, [], []⟩
def dd_turned_name : He.DefD := ⟨("turned_name", none), "turned_name", "turned_name", defArgs s_turned_name, defBody s_turned_name, defScope s_turned_name, [], []⟩
def dd_then_turn : He.DefD := ⟨("then_turn", none), "then_turn", "then_turn", defArgs s_then_turn, defBody s_then_turn, defScope s_then_turn, [], []⟩
def dd_back_turn : He.DefD := ⟨("back_turn", none), "back_turn", "back_turn", defArgs s_back_turn, defBody s_back_turn, defScope s_back_turn, [], []⟩
def dd_apart_names : He.DefD := ⟨("apart_names", none), "apart_names", "apart_names", defArgs s_apart_names, defBody s_apart_names, defScope s_apart_names, [], []⟩
def dd_rounds_of : He.DefD := ⟨("rounds_of", none), "rounds_of", "rounds_of", defArgs s_rounds_of, defBody s_rounds_of, defScope s_rounds_of, [], []⟩
def dd_swaps_of : He.DefD := ⟨("swaps_of", none), "swaps_of", "swaps_of", defArgs s_swaps_of, defBody s_swaps_of, defScope s_swaps_of, [], []⟩
def dd__law_mixed : He.DefD := ⟨("_law_mixed", none), "_law_mixed", "_law_mixed", defArgs s__law_mixed, defBody s__law_mixed, defScope s__law_mixed, [], []⟩
def dd__law_pile : He.DefD := ⟨("_law_pile", none), "_law_pile", "_law_pile", defArgs s__law_pile, defBody s__law_pile, defScope s__law_pile, [], []⟩
def dd__law_take : He.DefD := ⟨("_law_take", none), "_law_take", "_law_take", defArgs s__law_take, defBody s__law_take, defScope s__law_take, [], []⟩
def dd__law_name : He.DefD := ⟨("_law_name", none), "_law_name", "_law_name", defArgs s__law_name, defBody s__law_name, defScope s__law_name, [], []⟩
def dd__law_names : He.DefD := ⟨("_law_names", none), "_law_names", "_law_names", defArgs s__law_names, defBody s__law_names, defScope s__law_names, [], []⟩
def dd__law_order : He.DefD := ⟨("_law_order", none), "_law_order", "_law_order", defArgs s__law_order, defBody s__law_order, defScope s__law_order, [], []⟩
def dd__law_turn : He.DefD := ⟨("_law_turn", none), "_law_turn", "_law_turn", defArgs s__law_turn, defBody s__law_turn, defScope s__law_turn, [], []⟩
def dd__law_lengths : He.DefD := ⟨("_law_lengths", none), "_law_lengths", "_law_lengths", defArgs s__law_lengths, defBody s__law_lengths, defScope s__law_lengths, [], []⟩
def dd_law : He.DefD := ⟨("law", none), "law", "law", defArgs s_law, defBody s_law, defScope s_law, [], []⟩
def fnL : List He.DefD := [dd_is_called, dd_is_name, dd_is_turn, dd_sure_turns, dd_turn_from, dd_led_name, dd_undone, dd_both_turns, dd_apart_in, dd_swap_of, dd_turn_of, dd_turned_name, dd_then_turn, dd_back_turn, dd_apart_names, dd_rounds_of, dd_swaps_of, dd__law_mixed, dd__law_pile, dd__law_take, dd__law_name, dd__law_names, dd__law_order, dd__law_turn, dd__law_lengths, dd_law]
def fa0 : List He.Fa := [.glo "is_called", .glo "is_name", .glo "is_turn", .glo "sure_turns", .glo "turn_from", .glo "led_name", .glo "undone", .glo "both_turns", .glo "apart_in", .glo "swap_of", .glo "turn_of", .glo "turned_name", .glo "then_turn", .glo "back_turn", .glo "apart_names", .glo "rounds_of", .glo "swaps_of", .glo "_law_mixed", .glo "_law_pile", .glo "_law_take", .glo "_law_name", .glo "_law_names", .glo "_law_order", .glo "_law_turn", .glo "_law_lengths", .glo "law", .free "abs", .free "all", .free "int", .free "isinstance", .free "len", .free "list", .free "range", .free "set", .free "sorted", .free "str", .free "tuple", .free "zip", .str "FIGURES" "0123456789", .int "LONGEST" 8]
def fa1 : List He.Fa := [.str "SMALL" "abcdefghijklmnopqrstuvwxyz", .glo "NoName", .exc "NoName", .glo "NoTurn", .exc "NoTurn"]
def faL : List He.Fa := fa0 ++ fa1
abbrev R : PySem.W.OpenRow := PySem.W.OpenLaw.row PySem.Challenge.rw_shutnames_k06_whole_turns_by_turns
abbrev hk : PySem.W.Hook := He.hookD 4 faL fnL
def ob (s : PySem.W.SharedT) : He.AlD := He.obsDG 4 faL fnL (HandSHeadRun.getT s)
theorem ob_eq (s : PySem.W.SharedT) : ob s = hk.obs s.abs := He.obsDG_eq (HandSHeadRun.getT_eq s)
def lo0 : List Str := ["ShutError", "NoName", "NoTurn", "SMALL", "FIGURES", "LONGEST", "is_called", "is_name", "is_turn", "sure_turns", "turn_from", "led_name", "undone", "both_turns", "apart_in", "swap_of", "turn_of", "turned_name", "then_turn", "back_turn", "apart_names", "rounds_of", "swaps_of", "_law_mixed", "_law_pile", "_law_take", "_law_name", "_law_names", "_law_order", "_law_turn", "_law_lengths"]
def loL : List Str := lo0
theorem run (w : World) : HandSHeadRun.RunEq R (PySem.W.view R.prog [34]) hk ob 30000 loL w := by
  intro os
  kernel_rfl
theorem wd {K : Frag} {h : Heap} {mg : Str → Option Value} (X : K.In h) (G : h.Ns mainGlobals mg) (c : He.SaysD faL fnL K) : Nonempty (Wd K mg) := by
  obtain ⟨d0, F0⟩ := c.def_ 0 (d := dd_is_called) rfl
  obtain ⟨d1, F1⟩ := c.def_ 1 (d := dd_is_name) rfl
  obtain ⟨d2, F2⟩ := c.def_ 2 (d := dd_is_turn) rfl
  obtain ⟨d3, F3⟩ := c.def_ 3 (d := dd_sure_turns) rfl
  obtain ⟨d4, F4⟩ := c.def_ 4 (d := dd_turn_from) rfl
  obtain ⟨d5, F5⟩ := c.def_ 5 (d := dd_led_name) rfl
  obtain ⟨d6, F6⟩ := c.def_ 6 (d := dd_undone) rfl
  obtain ⟨d7, F7⟩ := c.def_ 7 (d := dd_both_turns) rfl
  obtain ⟨d8, F8⟩ := c.def_ 8 (d := dd_apart_in) rfl
  obtain ⟨d9, F9⟩ := c.def_ 9 (d := dd_swap_of) rfl
  obtain ⟨d10, F10⟩ := c.def_ 10 (d := dd_turn_of) rfl
  obtain ⟨d11, F11⟩ := c.def_ 11 (d := dd_turned_name) rfl
  obtain ⟨d12, F12⟩ := c.def_ 12 (d := dd_then_turn) rfl
  obtain ⟨d13, F13⟩ := c.def_ 13 (d := dd_back_turn) rfl
  obtain ⟨d14, F14⟩ := c.def_ 14 (d := dd_apart_names) rfl
  obtain ⟨d15, F15⟩ := c.def_ 15 (d := dd_rounds_of) rfl
  obtain ⟨d16, F16⟩ := c.def_ 16 (d := dd_swaps_of) rfl
  obtain ⟨d17, F17⟩ := c.def_ 17 (d := dd__law_mixed) rfl
  obtain ⟨d18, F18⟩ := c.def_ 18 (d := dd__law_pile) rfl
  obtain ⟨d19, F19⟩ := c.def_ 19 (d := dd__law_take) rfl
  obtain ⟨d20, F20⟩ := c.def_ 20 (d := dd__law_name) rfl
  obtain ⟨d21, F21⟩ := c.def_ 21 (d := dd__law_names) rfl
  obtain ⟨d22, F22⟩ := c.def_ 22 (d := dd__law_order) rfl
  obtain ⟨d23, F23⟩ := c.def_ 23 (d := dd__law_turn) rfl
  obtain ⟨d24, F24⟩ := c.def_ 24 (d := dd__law_lengths) rfl
  obtain ⟨d25, F25⟩ := c.def_ 25 (d := dd_law) rfl
  exact ⟨⟨He.free_ok X G (c.fact 26 (f := .free "abs") rfl),
    He.free_ok X G (c.fact 27 (f := .free "all") rfl),
    He.free_ok X G (c.fact 28 (f := .free "int") rfl),
    He.free_ok X G (c.fact 29 (f := .free "isinstance") rfl),
    He.free_ok X G (c.fact 30 (f := .free "len") rfl),
    He.free_ok X G (c.fact 31 (f := .free "list") rfl),
    He.free_ok X G (c.fact 32 (f := .free "range") rfl),
    He.free_ok X G (c.fact 33 (f := .free "set") rfl),
    He.free_ok X G (c.fact 34 (f := .free "sorted") rfl),
    He.free_ok X G (c.fact 35 (f := .free "str") rfl),
    He.free_ok X G (c.fact 36 (f := .free "tuple") rfl),
    He.free_ok X G (c.fact 37 (f := .free "zip") rfl),
    He.str_ok X G (c.fact 38 (f := .str "FIGURES" "0123456789") rfl),
    He.int_ok X G (c.fact 39 (f := .int "LONGEST" 8) rfl),
    He.str_ok X G (c.fact 40 (f := .str "SMALL" "abcdefghijklmnopqrstuvwxyz") rfl),
    He.glo_ok X G (c.fact 41 (f := .glo "NoName") rfl),
    He.exc_ok (c.fact 42 (f := .exc "NoName") rfl),
    He.glo_ok X G (c.fact 43 (f := .glo "NoTurn") rfl),
    He.exc_ok (c.fact 44 (f := .exc "NoTurn") rfl),
    He.fAd K ("is_called", none), d0, F0, He.glo_ok X G (c.fact 0 (f := .glo "is_called") rfl),
    He.fAd K ("is_name", none), d1, F1, He.glo_ok X G (c.fact 1 (f := .glo "is_name") rfl),
    He.fAd K ("is_turn", none), d2, F2, He.glo_ok X G (c.fact 2 (f := .glo "is_turn") rfl),
    He.fAd K ("sure_turns", none), d3, F3, He.glo_ok X G (c.fact 3 (f := .glo "sure_turns") rfl),
    He.fAd K ("turn_from", none), d4, F4, He.glo_ok X G (c.fact 4 (f := .glo "turn_from") rfl),
    He.fAd K ("led_name", none), d5, F5, He.glo_ok X G (c.fact 5 (f := .glo "led_name") rfl),
    He.fAd K ("undone", none), d6, F6, He.glo_ok X G (c.fact 6 (f := .glo "undone") rfl),
    He.fAd K ("both_turns", none), d7, F7, He.glo_ok X G (c.fact 7 (f := .glo "both_turns") rfl),
    He.fAd K ("apart_in", none), d8, F8, He.glo_ok X G (c.fact 8 (f := .glo "apart_in") rfl),
    He.fAd K ("swap_of", none), d9, F9, He.glo_ok X G (c.fact 9 (f := .glo "swap_of") rfl),
    He.fAd K ("turn_of", none), d10, F10, He.glo_ok X G (c.fact 10 (f := .glo "turn_of") rfl),
    He.fAd K ("turned_name", none), d11, F11, He.glo_ok X G (c.fact 11 (f := .glo "turned_name") rfl),
    He.fAd K ("then_turn", none), d12, F12, He.glo_ok X G (c.fact 12 (f := .glo "then_turn") rfl),
    He.fAd K ("back_turn", none), d13, F13, He.glo_ok X G (c.fact 13 (f := .glo "back_turn") rfl),
    He.fAd K ("apart_names", none), d14, F14, He.glo_ok X G (c.fact 14 (f := .glo "apart_names") rfl),
    He.fAd K ("rounds_of", none), d15, F15, He.glo_ok X G (c.fact 15 (f := .glo "rounds_of") rfl),
    He.fAd K ("swaps_of", none), d16, F16, He.glo_ok X G (c.fact 16 (f := .glo "swaps_of") rfl),
    He.fAd K ("_law_mixed", none), d17, F17, He.glo_ok X G (c.fact 17 (f := .glo "_law_mixed") rfl),
    He.fAd K ("_law_pile", none), d18, F18, He.glo_ok X G (c.fact 18 (f := .glo "_law_pile") rfl),
    He.fAd K ("_law_take", none), d19, F19, He.glo_ok X G (c.fact 19 (f := .glo "_law_take") rfl),
    He.fAd K ("_law_name", none), d20, F20, He.glo_ok X G (c.fact 20 (f := .glo "_law_name") rfl),
    He.fAd K ("_law_names", none), d21, F21, He.glo_ok X G (c.fact 21 (f := .glo "_law_names") rfl),
    He.fAd K ("_law_order", none), d22, F22, He.glo_ok X G (c.fact 22 (f := .glo "_law_order") rfl),
    He.fAd K ("_law_turn", none), d23, F23, He.glo_ok X G (c.fact 23 (f := .glo "_law_turn") rfl),
    He.fAd K ("_law_lengths", none), d24, F24, He.glo_ok X G (c.fact 24 (f := .glo "_law_lengths") rfl),
    He.fAd K ("law", none), d25, F25, He.glo_ok X G (c.fact 25 (f := .glo "law") rfl)⟩⟩

end K06
open PySem PySem.W PySem.Calls PyProof.Rows
theorem PySem.Challenge.cw_shutnames_k06_whole_turns_by_turns_holds : PySem.Challenge.rw_shutnames_k06_whole_turns_by_turns.Holds := by
  w_on; o_law
  refine HandSHeadRun.head_any (r := OpenLaw.row PySem.Challenge.rw_shutnames_k06_whole_turns_by_turns) (q := view (OpenLaw.row PySem.Challenge.rw_shutnames_k06_whole_turns_by_turns).prog [34]) (H := K06.hk) (ob := K06.ob) (M := 30000) (loose := K06.loL) (d := HandSHeadRun.topDef (OpenLaw.row PySem.Challenge.rw_shutnames_k06_whole_turns_by_turns).prog 34) (kwd := []) K06.ob_eq
    (by kernel_rfl) (fun s => by kernel_rfl) K06.run (by kernel_rfl) (by kernel_rfl) (by kernel_rfl) (by rfl) (by first | assumption | decide +kernel) (by decide +kernel) ⟨rfl, rfl, rfl, rfl, rfl, by decide +kernel⟩ ?hw ?hc
  case hw => w_witness2
  case hc =>
    refine L2.walk_ofE (l := PySem.Challenge.rw_shutnames_k06_whole_turns_by_turns) (n := 63) (k := 7) (x := "_law_script") (CX := fun _ _ _ _ _ _ => False) rfl (by decide) (by kernel_rfl) ⟨rfl, by decide, by decide⟩ ?F (fun _ _ _ _ z => z)
    intro w mg fa h Y G hmg0
    obtain ⟨K, KX, c⟩ := Y
    have hmg : mg ("law" : PySem.Str) = some (.ref fa) := by
      have e : (HandSHeadRun.topDef (OpenLaw.row PySem.Challenge.rw_shutnames_k06_whole_turns_by_turns).prog 34).name = ("law" : PySem.Str) := by kernel_rfl
      rw [← e]
      exact hmg0
    obtain ⟨W⟩ := K06.wd KX G c
    have ea := hmg.symm.trans W.m_law
    cases ea
    have b := L2.FunD.bindsA (ps := ["_law_script"]) W.F_law fun _ _ _ _ _ _ us hl => match us, hl with | [_], _ => rfl
    exact ⟨K, W.d_law, DL.spLaw K, KX, fun s v => b s [v] rfl, fun H a ns hl _ hS => ⟨a, ns, rfl, hl, hS, fun _ => rfl⟩, fun base _ _ => DL.ground (K06.ok_law W) (DL.law_in K06.law_true)⟩
end
