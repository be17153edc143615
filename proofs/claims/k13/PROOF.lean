import PyProof.Rows.All
import Wide.All
import OpenK.AllK
import Wide.FinOn
import HandS.ForMost
import HandS.ForExc
import HandS.TryMany
import HandS.DictComp
import HandS.Defaults
import HandS.Deep
import HandS.TupAny
import HandS.Wide
import HandS.Style
import HandS.IsInst
import HandS.WordsDict
import HandS.TupLen
import HandS.Conv
import HandS.Iter
import HandS.Zip
import HandS.Sort
import KE.SortData
import HandS.Set
import HandS.RaiseMore
import HandS.SetBool
import KE.GoesMore
import KE.DataMinMax
import HandS.TupSets
import HandS.SortKw
import HandS.ExcInit
import HandS.ExcField
import HandS.HeadHook4
import HandS.CallSlots
import HandS.Head0
import HandS.Head1
import HandS.Head2
import HandS.HeadEnd
import HandS.HeadHook1
import HandS.HeadHook2
import PySem.Challenge.RW_shutnames_k13_parts_put_in
set_option Elab.async false
set_option linter.all false
section
set_option maxRecDepth 100000
set_option maxHeartbeats 2000000
namespace DL
open PySem PySem.Spec PyProof.Rows L2
abbrev D := PyData
abbrev Frag := PySem.W.Frag
def kD : Key → D
  | .inl i => .int i
  | .inr x => .str x
mutual
inductive Rp (K : Frag) (F : Hp) : V → D → Prop
  | non : Rp K F .non .none
  | bl (b : Bool) : Rp K F (.bl b) (.bool b)
  | int (i : Int) : Rp K F (.int i) (.int i)
  | str (x : Str) : Rp K F (.str x) (.str x)
  | lst {a : Addr} {xs : List V} {ds : List D} : F a = some (.lst xs) → RpAll K F xs ds → Rp K F (.ref a) (.list ds)
  | scr {a : Addr} {xs : List V} {ds : List D} : SqL K F a xs → RpAll K F xs ds → Rp K F (.ref a) (.dict [(.none, .list ds)])
  | tup {a : Addr} {xs : List V} {ds : List D} : SqT K F a xs → RpAll K F xs ds → Rp K F (.ref a) (.tuple ds)
  | dcK {a : Addr} {ob : Obj} {kvs : List (Key × V)} {ds : List D} : F a = some (.frz ob (.dK kvs)) → RpAll K F (kvs.map (·.2)) ds → Rp K F (.ref a) (.dict ((kvs.map fun p => kD p.1).zip ds))
inductive RpAll (K : Frag) (F : Hp) : List V → List D → Prop
  | nil : RpAll K F [] []
  | cons {v : V} {vs : List V} {d : D} {ds : List D} : Rp K F v d → RpAll K F vs ds → RpAll K F (v :: vs) (d :: ds)
end
theorem sq_l {K : Frag} {F F' : Hp} {a : Addr} {xs : List V} (e : Same F F') (h : SqL K F a xs) : SqL K F' a xs := e.seq h
theorem sq_t {K : Frag} {F F' : Hp} {a : Addr} {xs : List V} (e : Same F F') (h : SqT K F a xs) : SqT K F' a xs := by
  rcases h with (h | ⟨o, h⟩) | h
  · exact .inl (.inl (e _ _ h))
  · exact .inl (.inr ⟨o, e _ _ h⟩)
  · exact .inr h
mutual
theorem Rp.mono {K : Frag} {F F' : Hp} (e : Same F F') : ∀ {v : V} {d : D}, Rp K F v d → Rp K F' v d
  | _, _, .non => .non
  | _, _, .bl b => .bl b
  | _, _, .int i => .int i
  | _, _, .str x => .str x
  | _, _, .lst h r => .lst (e _ _ h) (RpAll.mono e r)
  | _, _, .scr h r => .scr (sq_l e h) (RpAll.mono e r)
  | _, _, .tup h r => .tup (sq_t e h) (RpAll.mono e r)
  | _, _, .dcK h r => .dcK (e _ _ h) (RpAll.mono e r)
theorem RpAll.mono {K : Frag} {F F' : Hp} (e : Same F F') : ∀ {vs : List V} {ds : List D}, RpAll K F vs ds → RpAll K F' vs ds
  | _, _, .nil => .nil
  | _, _, .cons h r => .cons (Rp.mono e h) (RpAll.mono e r)
end
section
variable {K : Frag} {F : Hp}
theorem RpAll.length : ∀ {vs : List V} {ds : List D}, RpAll K F vs ds → vs.length = ds.length
  | _, _, .nil => rfl
  | _, _, .cons _ r => by rw [List.length_cons, List.length_cons, RpAll.length r]
theorem RpAll.get : ∀ {vs : List V} {ds : List D} {i : Nat} {v : V}, RpAll K F vs ds → vs[i]? = some v → ∃ d, ds[i]? = some d ∧ Rp K F v d
  | _, _, _, _, .nil, e => by simp at e
  | _, _, 0, _, .cons h _, e => by simp at e; subst e; exact ⟨_, rfl, h⟩
  | _, _, i + 1, _, .cons _ r, e => by
    obtain ⟨d, h1, h2⟩ := RpAll.get (i := i) r (by simpa using e)
    exact ⟨d, by simpa using h1, h2⟩
theorem RpAll.getD : ∀ {vs : List V} {ds : List D} {i : Nat} {d : D}, RpAll K F vs ds → ds[i]? = some d → ∃ v, vs[i]? = some v ∧ Rp K F v d
  | _, _, _, _, .nil, e => by simp at e
  | _, _, 0, _, .cons h _, e => by simp at e; subst e; exact ⟨_, rfl, h⟩
  | _, _, i + 1, _, .cons _ r, e => by
    obtain ⟨d, h1, h2⟩ := RpAll.getD (i := i) r (by simpa using e)
    exact ⟨d, by simpa using h1, h2⟩
theorem RpAll.append : ∀ {vs ws : List V} {ds es : List D}, RpAll K F vs ds → RpAll K F ws es → RpAll K F (vs ++ ws) (ds ++ es)
  | _, _, _, _, .nil, s => s
  | _, _, _, _, .cons h r, s => .cons h (RpAll.append r s)
theorem RpAll.take : ∀ {vs : List V} {ds : List D} (n : Nat), RpAll K F vs ds → RpAll K F (vs.take n) (ds.take n)
  | _, _, 0, _ => by simpa using RpAll.nil
  | _, _, _ + 1, .nil => .nil
  | _, _, n + 1, .cons h r => .cons h (RpAll.take n r)
theorem RpAll.drop : ∀ {vs : List V} {ds : List D} (n : Nat), RpAll K F vs ds → RpAll K F (vs.drop n) (ds.drop n)
  | _, _, 0, r => r
  | _, _, _ + 1, .nil => .nil
  | _, _, n + 1, .cons _ r => RpAll.drop n r
theorem RpAll.set {v : V} {d : D} (h : Rp K F v d) : ∀ {vs : List V} {ds : List D} (i : Nat), RpAll K F vs ds → RpAll K F (vs.set i v) (ds.set i d)
  | _, _, _, .nil => .nil
  | _, _, 0, .cons _ r => .cons h r
  | _, _, i + 1, .cons q r => .cons q (RpAll.set h i r)
theorem RpAll.erase : ∀ {vs : List V} {ds : List D} (i : Nat), RpAll K F vs ds → RpAll K F (vs.eraseIdx i) (ds.eraseIdx i)
  | _, _, _, .nil => .nil
  | _, _, 0, .cons _ r => r
  | _, _, i + 1, .cons q r => .cons q (RpAll.erase i r)
theorem RpAll.one {v : V} {d : D} (h : Rp K F v d) : RpAll K F [v] [d] := .cons h .nil
end
inductive OV where
  | d (x : D)
  | lst (xs : List D)
  | dct (kvs : List (D × D))
  | dctT (kvs : List (D × D))
  | obj (c : Str) (fs : List (Str × OV))
mutual
/-- v stands for o: what is owned stands at O, not in the frozen part F -/
inductive OwR (K : Frag) (ca : Str → Addr) (F H : Hp) : V → OV → List Addr → Prop
  | d {v : V} {x : D} : Rp K F v x → OwR K ca F H v (.d x) []
  | lst {p : Addr} {vs : List V} {xs : List D} : H p = some (.lst vs) → RpAll K F vs xs → OwR K ca F H (.ref p) (.lst xs) [p]
  | dcK {p : Addr} {kvs : List (Key × V)} {ds : List D} : H p = some (.dK kvs) → RpAll K F (kvs.map (·.2)) ds → OwR K ca F H (.ref p) (.dct ((kvs.map fun q => kD q.1).zip ds)) [p]
  | dcT {p : Addr} {kvs : List (List Key × V)} {ds : List D} : H p = some (.dT kvs) → RpAll K F (kvs.map (·.2)) ds → OwR K ca F H (.ref p) (.dctT ((kvs.map fun q => PyData.tuple (q.1.map kD)).zip ds)) [p]
  | obj {p dx : Addr} {c : Str} {fvs : List (Str × V)} {fs : List (Str × OV)} {O : List Addr} : H p = some (.ins (ca c) dx fvs) → H dx = some (.own p) → OwF K ca F H fvs fs O → OwR K ca F H (.ref p) (.obj c fs) (p :: dx :: O)
inductive OwF (K : Frag) (ca : Str → Addr) (F H : Hp) : List (Str × V) → List (Str × OV) → List Addr → Prop
  | nil : OwF K ca F H [] [] []
  | cons {x : Str} {v : V} {o : OV} {r : List (Str × V)} {s : List (Str × OV)} {A B : List Addr} : OwR K ca F H v o A → OwF K ca F H r s B → OwF K ca F H ((x, v) :: r) ((x, o) :: s) (A ++ B)
end
mutual
theorem OwR.mono {K : Frag} {ca : Str → Addr} {F F' H H' : Hp} (e : Same F F') : ∀ {v : V} {o : OV} {O : List Addr}, OwR K ca F H v o O → (∀ b ∈ O, H' b = H b) → OwR K ca F' H' v o O
  | _, _, _, .d r, _ => .d (r.mono e)
  | _, _, _, .lst h r, k => .lst ((k _ (List.mem_singleton_self _)).trans h) (r.mono e)
  | _, _, _, .dcK h r, k => .dcK ((k _ (List.mem_singleton_self _)).trans h) (r.mono e)
  | _, _, _, .dcT h r, k => .dcT ((k _ (List.mem_singleton_self _)).trans h) (r.mono e)
  | _, _, _, .obj h1 h2 r, k => .obj ((k _ (by simp)).trans h1) ((k _ (by simp)).trans h2) (OwF.mono e r fun b hb => k b (by simp [hb]))
theorem OwF.mono {K : Frag} {ca : Str → Addr} {F F' H H' : Hp} (e : Same F F') : ∀ {fvs : List (Str × V)} {fs : List (Str × OV)} {O : List Addr}, OwF K ca F H fvs fs O → (∀ b ∈ O, H' b = H b) → OwF K ca F' H' fvs fs O
  | _, _, _, .nil, _ => .nil
  | _, _, _, .cons h r, k => .cons (OwR.mono e h fun b hb => k b (by simp [hb])) (OwF.mono e r fun b hb => k b (by simp [hb]))
end
mutual
theorem OwR.there {K : Frag} {ca : Str → Addr} {F H : Hp} : ∀ {v : V} {o : OV} {O : List Addr}, OwR K ca F H v o O → ∀ b ∈ O, H b ≠ none
  | _, _, _, .d _, b, hb => by simp at hb
  | _, _, _, .lst h _, b, hb => by rw [List.mem_singleton] at hb; rw [hb, h]; simp
  | _, _, _, .dcK h _, b, hb => by rw [List.mem_singleton] at hb; rw [hb, h]; simp
  | _, _, _, .dcT h _, b, hb => by rw [List.mem_singleton] at hb; rw [hb, h]; simp
  | _, _, _, .obj h1 h2 r, b, hb => by
    rcases List.mem_cons.mp hb with e | hb
    · rw [e, h1]; simp
    · rcases List.mem_cons.mp hb with e | hb
      · rw [e, h2]; simp
      · exact OwF.there r b hb
theorem OwF.there {K : Frag} {ca : Str → Addr} {F H : Hp} : ∀ {fvs : List (Str × V)} {fs : List (Str × OV)} {O : List Addr}, OwF K ca F H fvs fs O → ∀ b ∈ O, H b ≠ none
  | _, _, _, .nil, b, hb => by simp at hb
  | _, _, _, .cons h r, b, hb => by
    rcases List.mem_append.mp hb with hb | hb
    · exact OwR.there h b hb
    · exact OwF.there r b hb
end
inductive RpB (K : Frag) (F H : Hp) : V → D → Prop
  | d {v : V} {x : D} : Rp K F v x → RpB K F H v x
  | lst {p : Addr} {vs : List V} {xs : List D} : H p = some (.lst vs) → RpAll K F vs xs → RpB K F H (.ref p) (.list xs)
  | dcK {p : Addr} {kvs : List (Key × V)} {ds : List D} : Rd H p (.dK kvs) → RpAll K F (kvs.map (·.2)) ds → RpB K F H (.ref p) (.dict ((kvs.map fun q => kD q.1).zip ds))
theorem rd_mono {H H' : Hp} (k : Same H H') {a : Addr} {u : HO} (h : Rd H a u) : Rd H' a u := h.elim (fun h => .inl (k _ _ h)) fun ⟨o, h⟩ => .inr ⟨o, k _ _ h⟩
theorem RpB.mono {K : Frag} {F F' H H' : Hp} (e : Same F F') (k : Same H H') {v : V} {x : D} (h : RpB K F H v x) : RpB K F' H' v x := by
  cases h with
  | d r => exact .d (r.mono e)
  | lst h r => exact .lst (k _ _ h) (r.mono e)
  | dcK h r => exact .dcK (rd_mono k h) (r.mono e)
def OV.look : OV → Option D
  | .d x => some x
  | .lst xs => some (.list xs)
  | .dct kvs => some (.dict kvs)
  | _ => none
def OV.frz : OV → Option D
  | .d x => some x
  | .lst xs => some (.list xs)
  | _ => none
theorem OwR.look {K : Frag} {ca : Str → Addr} {F H : Hp} {v : V} {o : OV} {O : List Addr} {x : D} (h : OwR K ca F H v o O) (e : o.look = some x) : RpB K F H v x := by
  cases h with
  | d r => cases e; exact .d r
  | lst h r => cases e; exact .lst h r
  | dcK h r => cases e; exact .dcK (.inl h) r
  | dcT h r => cases e
  | obj _ _ _ => cases e
abbrev Env := List (Option OV)
abbrev Sl := L2.St
inductive SlR (K : Frag) (ca : Str → Addr) (F H : Hp) : Sl → Env → List Addr → Prop
  | nil : SlR K ca F H [] [] []
  | no {v : Option V} {σ : Sl} {ρ : Env} {O : List Addr} : SlR K ca F H σ ρ O → SlR K ca F H (v :: σ) (none :: ρ) O
  | so {v : V} {o : OV} {A : List Addr} {σ : Sl} {ρ : Env} {O : List Addr} : OwR K ca F H v o A → SlR K ca F H σ ρ O → SlR K ca F H (some v :: σ) (some o :: ρ) (A ++ O)
section
variable {K : Frag} {ca : Str → Addr} {F F' H H' : Hp}
theorem SlR.length : ∀ {σ : Sl} {ρ : Env} {O : List Addr}, SlR K ca F H σ ρ O → σ.length = ρ.length
  | _, _, _, .nil => rfl
  | _, _, _, .no r => by rw [List.length_cons, List.length_cons, r.length]
  | _, _, _, .so _ r => by rw [List.length_cons, List.length_cons, r.length]
theorem SlR.mono (e : Same F F') : ∀ {σ : Sl} {ρ : Env} {O : List Addr}, SlR K ca F H σ ρ O → (∀ b ∈ O, H' b = H b) → SlR K ca F' H' σ ρ O
  | _, _, _, .nil, _ => .nil
  | _, _, _, .no r, k => .no (r.mono e k)
  | _, _, _, .so h r, k => .so (h.mono e fun b hb => k b (by simp [hb])) (r.mono e fun b hb => k b (by simp [hb]))
theorem SlR.there : ∀ {σ : Sl} {ρ : Env} {O : List Addr}, SlR K ca F H σ ρ O → ∀ b ∈ O, H b ≠ none
  | _, _, _, .nil, b, hb => by simp at hb
  | _, _, _, .no r, b, hb => r.there b hb
  | _, _, _, .so h r, b, hb => by
    rcases List.mem_append.mp hb with hb | hb
    · exact h.there b hb
    · exact r.there b hb
theorem SlR.at : ∀ {σ : Sl} {ρ : Env} {O : List Addr} {i : Nat} {o : OV}, SlR K ca F H σ ρ O → ρ[i]? = some (some o) →
    ∃ v A R, σ[i]? = some (some v) ∧ OwR K ca F H v o A ∧ O.Perm (A ++ R) ∧ ∀ F' H', Same F F' → (∀ b ∈ R, H' b = H b) →
      SlR K ca F' H' σ (ρ.set i none) R ∧ ∀ v' o' A', OwR K ca F' H' v' o' A' → ∃ O', SlR K ca F' H' (σ.set i (some v')) (ρ.set i (some o')) O' ∧ O'.Perm (A' ++ R)
  | _, _, _, _, _, .nil, e => by simp at e
  | v :: σ, none :: ρ, O, 0, o, .no r, e => by simp at e
  | v :: σ, none :: ρ, O, i + 1, o, .no r, e => by
    obtain ⟨w, A, R, h1, h2, h3, h4⟩ := SlR.at (i := i) r (by simpa using e)
    refine ⟨w, A, R, by simpa using h1, h2, h3, fun F' H' eF k => ?_⟩
    obtain ⟨k1, k2⟩ := h4 F' H' eF k
    refine ⟨.no k1, fun v' o' A' q => ?_⟩
    obtain ⟨O', q1, q2⟩ := k2 v' o' A' q
    exact ⟨O', .no q1, q2⟩
  | some v :: σ, some o' :: ρ, _, 0, o, .so (O := O) (A := A) h r, e => by
    have e' : o' = o := by simpa using e
    subst e'
    refine ⟨v, A, O, rfl, h, List.Perm.refl _, fun F' H' eF k => ⟨.no (r.mono eF k), fun v' o' A' q => ⟨A' ++ O, .so q (r.mono eF k), List.Perm.refl _⟩⟩⟩
  | some v :: σ, some o' :: ρ, _, i + 1, o, .so (O := O) (A := A) h r, e => by
    obtain ⟨w, A1, R, h1, h2, h3, h4⟩ := SlR.at (i := i) r (by simpa using e)
    refine ⟨w, A1, A ++ R, by simpa using h1, h2, ?_, fun F' H' eF k => ?_⟩
    · refine (List.Perm.append_left A h3).trans ?_
      rw [← List.append_assoc, ← List.append_assoc]
      exact List.Perm.append_right R List.perm_append_comm
    · obtain ⟨k1, k2⟩ := h4 F' H' eF fun b hb => k b (by simp [hb])
      refine ⟨.so (h.mono eF fun b hb => k b (by simp [hb])) k1, fun v' o' A' q => ?_⟩
      obtain ⟨O', q1, q2⟩ := k2 v' o' A' q
      refine ⟨A ++ O', .so (h.mono eF fun b hb => k b (by simp [hb])) q1, ?_⟩
      refine (List.Perm.append_left A q2).trans ?_
      rw [← List.append_assoc, ← List.append_assoc]
      exact List.Perm.append_right R List.perm_append_comm
theorem SlR.put : ∀ {σ : Sl} {ρ : Env} {O : List Addr} {i : Nat}, SlR K ca F H σ ρ O → i < σ.length →
    ∃ R, (∀ b ∈ R, b ∈ O) ∧ (O.Nodup → R.Nodup) ∧ (∀ x : Option V, SlR K ca F H (σ.set i x) (ρ.set i none) R) ∧ ∀ v o A, OwR K ca F H v o A → ∃ O', SlR K ca F H (σ.set i (some v)) (ρ.set i (some o)) O' ∧ O'.Perm (A ++ R)
  | _, _, _, _, .nil, e => by simp at e
  | v :: σ, none :: ρ, O, 0, .no r, e => ⟨O, fun _ h => h, fun h => h, fun x => .no r, fun v o A q => ⟨A ++ O, .so q r, List.Perm.refl _⟩⟩
  | v :: σ, none :: ρ, O, i + 1, .no r, e => by
    obtain ⟨R, h1, h2, h3, h4⟩ := SlR.put (i := i) r (by simpa using e)
    refine ⟨R, h1, h2, fun x => .no (h3 x), fun v o A q => ?_⟩
    obtain ⟨O', q1, q2⟩ := h4 v o A q
    exact ⟨O', .no q1, q2⟩
  | some v :: σ, some o' :: ρ, _, 0, .so (O := O) (A := A) h r, e => ⟨O, fun b hb => by simp [hb], fun n => (List.nodup_append.mp n).2.1, fun x => .no r, fun v o A q => ⟨A ++ O, .so q r, List.Perm.refl _⟩⟩
  | some v :: σ, some o' :: ρ, _, i + 1, .so (O := O) (A := A) h r, e => by
    obtain ⟨R, h1, h2, h3, h4⟩ := SlR.put (i := i) r (by simpa using e)
    refine ⟨A ++ R, fun b hb => ?_, fun n => ?_, fun x => .so h (h3 x), fun v o A1 q => ?_⟩
    · rcases List.mem_append.mp hb with hb | hb
      · simp [hb]
      · simp [h1 b hb]
    · obtain ⟨n1, n2, n3⟩ := List.nodup_append.mp n
      exact List.nodup_append.mpr ⟨n1, h2 n2, fun a ha b hb => n3 a ha b (h1 b hb)⟩
    · obtain ⟨O', q1, q2⟩ := h4 v o A1 q
      refine ⟨A ++ O', .so h q1, ?_⟩
      refine (List.Perm.append_left A q2).trans ?_
      rw [← List.append_assoc, ← List.append_assoc]
      exact List.Perm.append_right R List.perm_append_comm
end
end DL
end
section
set_option maxRecDepth 100000
set_option maxHeartbeats 2000000
namespace DL
open PySem PySem.Spec PyProof.Rows L2
inductive ECls where
  | own (x : Str) | blt (n : String)
  deriving DecidableEq
structure Exc where
  c : ECls
  fs : List (Str × D)
inductive Res (α : Type) where
  | ok (a : α) (ρ : Env)
  | ex (ξ : Exc) (ρ : Env)
  | bad
abbrev M (α : Type) := Env → Res α
def Res.bind {α β : Type} : Res α → (α → Env → Res β) → Res β
  | .ok a ρ, k => k a ρ
  | .ex ξ ρ, _ => .ex ξ ρ
  | .bad, _ => .bad
def Res.post {α : Type} (r : Res α) (P : α → Env → Prop) (E : Exc → Env → Prop) : Prop := match r with
  | .ok a ρ => P a ρ
  | .ex ξ ρ => E ξ ρ
  | .bad => False
theorem Res.post_bind {α β : Type} {r : Res α} {k : α → Env → Res β} {P : β → Env → Prop} {E : Exc → Env → Prop} (h : (r.bind k).post P E) : r.post (fun a ρ => (k a ρ).post P E) E := by
  cases r <;> exact h
theorem Res.post_imp {α : Type} {r : Res α} {P P' : α → Env → Prop} {E E' : Exc → Env → Prop} (h : r.post P E) (p : ∀ a ρ, P a ρ → P' a ρ) (e : ∀ ξ ρ, E ξ ρ → E' ξ ρ) : r.post P' E' := by
  cases r with
  | ok a ρ => exact p a ρ h
  | ex ξ ρ => exact e ξ ρ h
  | bad => exact h
def ofO {α : Type} (o : Option α) (ρ : Env) : Res α := match o with
  | some a => .ok a ρ
  | none => .bad
theorem post_ofO {α : Type} {o : Option α} {ρ : Env} {P : α → Env → Prop} {E : Exc → Env → Prop} (h : (ofO o ρ).post P E) : ∃ a, o = some a ∧ P a ρ := by
  cases o with
  | none => exact h.elim
  | some a => exact ⟨a, rfl, h⟩
structure Ct where
  ca : Str → Addr
  F : Hp
  H : Hp
  O : List Addr
  fx : List Nat
  σ : Sl
  W : WX
abbrev Ct.nox (c : Ct) : Ct := { c with W := fun _ _ _ _ => False }
abbrev Ct.wish (c : Ct) (W : WX) : Ct := { c with W := W }
structure EnvR (K : Frag) (c : Ct) (F H : Hp) (σ : Sl) (ρ : Env) (O : List Addr) : Prop where
  sub : Same F H
  f0 : Same c.F F
  h0 : ∀ b o, c.H b = some o → b ∉ c.O → H b = some o
  n0 : ∀ b, c.H b ≠ none → b ∉ c.O → c.F b = none → F b = none
  sl : SlR K c.ca F H σ ρ O
  nd : O.Nodup
  ow : ∀ p ∈ O, F p = none ∧ (p ∈ c.O ∨ c.H p = none)
  fx : ∀ i ∈ c.fx, σ[i]? = c.σ[i]?
structure New (F H F' H' : Hp) : Prop where
  fF : Same F F'
  hH : Same H H'
  sub : Same F' H'
  nw : ∀ b, H b ≠ none → F b = none → F' b = none
theorem New.refl {F H : Hp} (h : Same F H) : New F H F H := ⟨Same.refl _, Same.refl _, h, fun _ _ h => h⟩
theorem New.trans {F H F1 H1 F2 H2 : Hp} (a : New F H F1 H1) (b : New F1 H1 F2 H2) : New F H F2 H2 :=
  ⟨a.fF.trans b.fF, a.hH.trans b.hH, b.sub, fun c h1 h2 => b.nw c (fun z => h1 (a.hH.free z)) (a.nw c h1 h2)⟩
theorem same_upd {F : Hp} {p : Addr} (h : F p = none) (o : HO) : Same F (upd F p o) := fun b u q => by rw [upd_ne (ne_of_none q h)]; exact q
theorem New.one {F H : Hp} (s : Same F H) {p : Addr} (h : H p = none) (o : HO) : New F H (upd F p o) (upd H p o) where
  fF := same_upd (s.free h) o
  hH := same_upd h o
  sub := fun b u q => by
    by_cases e : b = p
    · subst e; rw [upd_same] at q ⊢; exact q
    · rw [upd_ne e] at q ⊢; exact s _ _ q
  nw := fun b h1 h2 => by
    have e : b ≠ p := fun e => h1 (by rw [e]; exact h)
    rw [upd_ne e]; exact h2
theorem New.own {F H : Hp} (s : Same F H) {p : Addr} (h : H p = none) (o : HO) : New F H F (upd H p o) where
  fF := Same.refl _
  hH := same_upd h o
  sub := s.trans (same_upd h o)
  nw := fun b h1 h2 => h2
section
variable {K : Frag} {c : Ct} {F F' H H' : Hp} {σ : Sl} {ρ ρ' : Env} {O : List Addr}
theorem keep_of {H H' : Hp} (h : Same H H') {O : List Addr} (t : ∀ b ∈ O, H b ≠ none) : ∀ b ∈ O, H' b = H b := fun b hb => by
  cases e : H b with
  | none => exact absurd e (t b hb)
  | some o => exact h b o e
theorem EnvR.new (e : EnvR K c F H σ ρ O) (n : New F H F' H') : EnvR K c F' H' σ ρ O where
  sub := n.sub
  f0 := e.f0.trans n.fF
  h0 := fun b o q h => n.hH _ _ (e.h0 b o q h)
  n0 := fun b h1 h2 h3 => n.nw b (fun z => by
    cases q : c.H b with
    | none => exact h1 q
    | some o =>
      rw [e.h0 b o q h2] at z
      cases z) (e.n0 b h1 h2 h3)
  sl := e.sl.mono n.fF (keep_of n.hH e.sl.there)
  nd := e.nd
  ow := fun p hp => ⟨n.nw p (e.sl.there p hp) (e.ow p hp).1, (e.ow p hp).2⟩
  fx := e.fx
theorem EnvR.nox (e : EnvR K c F H σ ρ O) : EnvR K c.nox F H σ ρ O := ⟨e.sub, e.f0, e.h0, e.n0, e.sl, e.nd, e.ow, e.fx⟩
theorem EnvR.wish {W : WX} (e : EnvR K c F H σ ρ O) : EnvR K (c.wish W) F H σ ρ O := ⟨e.sub, e.f0, e.h0, e.n0, e.sl, e.nd, e.ow, e.fx⟩
theorem EnvR.unwish {W : WX} (e : EnvR K (c.wish W) F H σ ρ O) : EnvR K c F H σ ρ O := ⟨e.sub, e.f0, e.h0, e.n0, e.sl, e.nd, e.ow, e.fx⟩
end
def ecV (ca : Str → Addr) : ECls → Value
  | .own x => .ref (ca x)
  | .blt n => .type n
def XR (K : Frag) (ca : Str → Addr) (F H : Hp) (cls : Value) (d : Option Addr) (ξ : Exc) : Prop :=
  cls = ecV ca ξ.c ∧ (ξ.fs ≠ [] → ∃ dd fvs, d = some dd ∧ H dd = some (.xd fvs) ∧ fvs.map (·.1) = ξ.fs.map (·.1) ∧ RpAll K F (fvs.map (·.2)) (ξ.fs.map (·.2)))
abbrev Val (K : Frag) (hk : Bool) (F H : Hp) (v : V) (x : D) : Prop := match hk with
  | true => RpB K F H v x
  | false => Rp K F v x
theorem Val.up {K : Frag} {hk pu : Bool} {F H F' H' : Hp} {v : V} {x : D} (h : Val K hk F H v x) (s : Same F F') (p : pu = true → Same H H') (k : hk = true → pu = true) : RpB K F' H' v x := by
  cases hk with
  | true => exact RpB.mono s (p (k rfl)) h
  | false => exact .d (Rp.mono s h)
theorem Val.up0 {K : Frag} {hk : Bool} {F H : Hp} {v : V} {x : D} (h : Val K hk F H v x) : RpB K F H v x := by
  cases hk with
  | true => exact h
  | false => exact .d h
structure Apart (c : Ct) (F : Hp) (A O : List Addr) : Prop where
  nd : (A ++ O).Nodup
  ow : ∀ p ∈ A, F p = none ∧ (p ∈ c.O ∨ c.H p = none)
def PV (K : Frag) (c : Ct) (hk pu : Bool) (F H : Hp) (σ : Sl) (Q : VK) (x : D) (ρ' : Env) : Prop :=
  ∀ F' H' O' v, EnvR K c F' H' σ ρ' O' → Same F F' → (pu = true → Same H H') → Val K hk F' H' v x → Q v H'
def PO (K : Frag) (c : Ct) (F H : Hp) (σ : Sl) (Q : VK) (o : OV) (ρ' : Env) : Prop :=
  ∀ F' H' O' A v, EnvR K c F' H' σ ρ' O' → Same F F' → OwR K c.ca F' H' v o A → Apart c F' A O' → Q v H'
def PB (K : Frag) (c : Ct) (pu : Bool) (F H : Hp) (σ : Sl) (Q : Bool → Hp → Prop) (b : Bool) (ρ' : Env) : Prop :=
  ∀ F' H' O', EnvR K c F' H' σ ρ' O' → Same F F' → (pu = true → Same H H') → Q b H'
def PX (K : Frag) (c : Ct) (σ : Sl) (ξ : Exc) (ρ' : Env) : Prop :=
  ∀ F' H' O' cls d, EnvR K c F' H' σ ρ' O' → XR K c.ca F' H' cls d ξ → c.W cls d σ H'
def te (K : Frag) (c : Ct) (hk pu : Bool) (m : M D) : TE := fun σ H Q => ∃ F ρ O, EnvR K c F H σ ρ O ∧ (m ρ).post (PV K c hk pu F H σ Q) (PX K c σ)
def to (K : Frag) (c : Ct) (m : M OV) : TE := fun σ H Q => ∃ F ρ O, EnvR K c F H σ ρ O ∧ (m ρ).post (PO K c F H σ Q) (PX K c σ)
def tt (K : Frag) (c : Ct) (pu : Bool) (m : M Bool) : TT := fun σ H Q => ∃ F ρ O, EnvR K c F H σ ρ O ∧ (m ρ).post (PB K c pu F H σ Q) (PX K c σ)
inductive Fl where
  | nx | bk | ct
  | rt (o : OV)
def PS' (K : Frag) (c : Ct) (D : Ends) (f : Fl) (ρ' : Env) : Prop := match f with
  | .nx => ∀ σ' F' H' O', EnvR K c F' H' σ' ρ' O' → D.nx σ' H'
  | .bk => ∀ σ' F' H' O', EnvR K c F' H' σ' ρ' O' → D.bk σ' H'
  | .ct => ∀ σ' F' H' O', EnvR K c F' H' σ' ρ' O' → D.ct σ' H'
  | .rt o => ∀ σ' F' H' O' A v, EnvR K c F' H' σ' ρ' O' → OwR K c.ca F' H' v o A → Apart c F' A O' → D.rt v H'
def PXs (K : Frag) (c : Ct) (ξ : Exc) (ρ' : Env) : Prop :=
  ∀ σ' F' H' O' cls d, EnvR K c F' H' σ' ρ' O' → XR K c.ca F' H' cls d ξ → c.W cls d σ' H'
def ts (K : Frag) (c : Ct) (m : M Fl) : TS := fun D σ H => ∃ F ρ O, EnvR K c F H σ ρ O ∧ (m ρ).post (PS' K c D) (PXs K c)
theorem _root_.L2.PE.imp {X : Cx} {e : Expr} {t t' : TE} (h : PE X e t) (k : ∀ σ H Q, t' σ H Q → t σ H Q) : PE X e t' := ⟨fun pins s σ H Q I q => h.run pins s σ H Q I (k σ H Q q)⟩
theorem _root_.L2.PT.imp {X : Cx} {e : Expr} {t t' : TT} (h : PT X e t) (k : ∀ σ H Q, t' σ H Q → t σ H Q) : PT X e t' := ⟨fun pins s σ H Q I q => h.run pins s σ H Q I (k σ H Q q)⟩
theorem _root_.L2.PA.imp {X : Cx} {e : List Expr} {t t' : TA} (h : PA X e t) (k : ∀ σ H Q, t' σ H Q → t σ H Q) : PA X e t' := ⟨fun pos pins s σ H Q I q => h.run pos pins s σ H Q I (k σ H Q q)⟩
theorem _root_.L2.PS.imp {X : Cx} {e : Stmt} {t t' : TS} (h : PS X e t) (k : ∀ D σ H, t' D σ H → t D σ H) : PS X e t' := ⟨fun pins s σ H Q I q => h.run pins s σ H Q I (k Q σ H q)⟩
theorem _root_.L2.PSs.imp {X : Cx} {e : List Stmt} {t t' : TS} (h : PSs X e t) (k : ∀ D σ H, t' D σ H → t D σ H) : PSs X e t' := ⟨fun pins s σ H Q I q => h.run pins s σ H Q I (k Q σ H q)⟩
section
variable {K : Frag} {c : Ct} {F H : Hp} {σ : Sl} {ρ : Env} {O : List Addr} {hk pu : Bool} {α : Type}
theorem te_step {m : M D} {k : D → Env → Res α} {P : α → Env → Prop} {Q : VK} (e : EnvR K c F H σ ρ O) (h : ((m ρ).bind k).post P (PX K c σ))
    (q : ∀ x ρ1 F1 H1 O1 v, (k x ρ1).post P (PX K c σ) → EnvR K c F1 H1 σ ρ1 O1 → Same F F1 → (pu = true → Same H H1) → Val K hk F1 H1 v x → Q v H1) : te K c hk pu m σ H Q :=
  ⟨F, ρ, O, e, Res.post_imp (Res.post_bind h) (fun x ρ1 h1 F1 H1 O1 v e1 s1 p1 r1 => q x ρ1 F1 H1 O1 v h1 e1 s1 p1 r1) fun _ _ h => h⟩
theorem to_step {m : M OV} {k : OV → Env → Res α} {P : α → Env → Prop} {Q : VK} (e : EnvR K c F H σ ρ O) (h : ((m ρ).bind k).post P (PX K c σ))
    (q : ∀ x ρ1 F1 H1 O1 A v, (k x ρ1).post P (PX K c σ) → EnvR K c F1 H1 σ ρ1 O1 → Same F F1 → OwR K c.ca F1 H1 v x A → Apart c F1 A O1 → Q v H1) : to K c m σ H Q :=
  ⟨F, ρ, O, e, Res.post_imp (Res.post_bind h) (fun x ρ1 h1 F1 H1 O1 A v e1 s1 r1 a1 => q x ρ1 F1 H1 O1 A v h1 e1 s1 r1 a1) fun _ _ h => h⟩
theorem tt_step {m : M Bool} {k : Bool → Env → Res α} {P : α → Env → Prop} {Q : Bool → Hp → Prop} (e : EnvR K c F H σ ρ O) (h : ((m ρ).bind k).post P (PX K c σ))
    (q : ∀ x ρ1 F1 H1 O1, (k x ρ1).post P (PX K c σ) → EnvR K c F1 H1 σ ρ1 O1 → Same F F1 → (pu = true → Same H H1) → Q x H1) : tt K c pu m σ H Q :=
  ⟨F, ρ, O, e, Res.post_imp (Res.post_bind h) (fun x ρ1 h1 F1 H1 O1 e1 s1 p1 => q x ρ1 F1 H1 O1 h1 e1 s1 p1) fun _ _ h => h⟩
theorem te_stepS {m : M D} {k : D → Env → Res α} {P : α → Env → Prop} {Q : VK} (e : EnvR K c F H σ ρ O) (h : ((m ρ).bind k).post P (PXs K c))
    (q : ∀ x ρ1 F1 H1 O1 v, (k x ρ1).post P (PXs K c) → EnvR K c F1 H1 σ ρ1 O1 → Same F F1 → (pu = true → Same H H1) → Val K hk F1 H1 v x → Q v H1) : te K c hk pu m σ H Q :=
  ⟨F, ρ, O, e, Res.post_imp (Res.post_bind h) (fun x ρ1 h1 F1 H1 O1 v e1 s1 p1 r1 => q x ρ1 F1 H1 O1 v h1 e1 s1 p1 r1) fun _ _ h F' H' O' cls d => h σ F' H' O' cls d⟩
theorem to_stepS {m : M OV} {k : OV → Env → Res α} {P : α → Env → Prop} {Q : VK} (e : EnvR K c F H σ ρ O) (h : ((m ρ).bind k).post P (PXs K c))
    (q : ∀ x ρ1 F1 H1 O1 A v, (k x ρ1).post P (PXs K c) → EnvR K c F1 H1 σ ρ1 O1 → Same F F1 → OwR K c.ca F1 H1 v x A → Apart c F1 A O1 → Q v H1) : to K c m σ H Q :=
  ⟨F, ρ, O, e, Res.post_imp (Res.post_bind h) (fun x ρ1 h1 F1 H1 O1 A v e1 s1 r1 a1 => q x ρ1 F1 H1 O1 A v h1 e1 s1 r1 a1) fun _ _ h F' H' O' cls d => h σ F' H' O' cls d⟩
theorem tt_stepS {m : M Bool} {k : Bool → Env → Res α} {P : α → Env → Prop} {Q : Bool → Hp → Prop} (e : EnvR K c F H σ ρ O) (h : ((m ρ).bind k).post P (PXs K c))
    (q : ∀ x ρ1 F1 H1 O1, (k x ρ1).post P (PXs K c) → EnvR K c F1 H1 σ ρ1 O1 → Same F F1 → (pu = true → Same H H1) → Q x H1) : tt K c pu m σ H Q :=
  ⟨F, ρ, O, e, Res.post_imp (Res.post_bind h) (fun x ρ1 h1 F1 H1 O1 e1 s1 p1 => q x ρ1 F1 H1 O1 h1 e1 s1 p1) fun _ _ h F' H' O' cls d => h σ F' H' O' cls d⟩
end
def mVar (i : Nat) : M D := fun ρ => match ρ[i]? with
  | some (some (.d x)) => .ok x ρ
  | _ => .bad
def mC (x : D) : M D := fun ρ => .ok x ρ
def mLook (i : Nat) : M D := fun ρ => match ρ[i]? with
  | some (some o) => ofO o.look ρ
  | _ => .bad
section
variable {X : Cx} {c : Ct} {pos : Pos}
theorem EnvR.var {K : Frag} {F H : Hp} {σ : Sl} {ρ : Env} {O : List Addr} {i : Nat} {o : OV} (e : EnvR K c F H σ ρ O) (h : ρ[i]? = some (some o)) : ∃ v A, σ[i]? = some (some v) ∧ OwR K c.ca F H v o A := by
  obtain ⟨v, A, R, h1, h2, _⟩ := e.sl.at h
  exact ⟨v, A, h1, h2⟩
theorem se_var (i : Nat) {x : Str} (hN : X.N[i]? = some x := by rfl) (hv : Vis X.env.scope x := by first | exact Or.inl rfl | exact Or.inr (Or.inl rfl) | exact Or.inr (Or.inr rfl)) (hd : (x == ("__debug__" : Str)) = false := by decide)
    (hcd : (x == ("__classdict__" : Str)) = false := by decide) : PE X (.Name x pos) (te X.K c false true (mVar i)) := (pe_var hN hv hd hcd).imp fun σ H Q ⟨F, ρ, O, e, h⟩ => by
  unfold mVar at h
  cases q : ρ[i]? with
  | none => rw [q] at h; exact h.elim
  | some w =>
    rw [q] at h
    cases w with
    | none => exact h.elim
    | some o =>
      cases o with
      | d y =>
        obtain ⟨v, A, h1, h2⟩ := e.var q
        cases h2 with
        | d r => exact ⟨v, h1, h F H O v e (Same.refl _) (fun _ => Same.refl _) r⟩
      | lst _ => exact h.elim
      | dct _ => exact h.elim
      | dctT _ => exact h.elim
      | obj _ _ => exact h.elim
theorem se_look (i : Nat) {x : Str} (hN : X.N[i]? = some x := by rfl) (hv : Vis X.env.scope x := by first | exact Or.inl rfl | exact Or.inr (Or.inl rfl) | exact Or.inr (Or.inr rfl)) (hd : (x == ("__debug__" : Str)) = false := by decide)
    (hcd : (x == ("__classdict__" : Str)) = false := by decide) : PE X (.Name x pos) (te X.K c true true (mLook i)) := (pe_var hN hv hd hcd).imp fun σ H Q ⟨F, ρ, O, e, h⟩ => by
  unfold mLook at h
  cases q : ρ[i]? with
  | none => rw [q] at h; exact h.elim
  | some w =>
    rw [q] at h
    cases w with
    | none => exact h.elim
    | some o =>
      obtain ⟨y, h1, h2⟩ := post_ofO h
      obtain ⟨v, A, h3, h4⟩ := e.var q
      exact ⟨v, h3, h2 F H O v e (Same.refl _) (fun _ => Same.refl _) (h4.look h1)⟩
theorem se_c {e : Expr} {v : V} {x : D} (h : PE X e (tC v)) (r : ∀ F, Rp X.K F v x) : PE X e (te X.K c false true (mC x)) := h.imp fun σ H Q ⟨F, ρ, O, e, h⟩ => h F H O v e (Same.refl _) (fun _ => Same.refl _) (r F)
theorem se_int {i j} : PE X (.Constant (.int i) j pos) (te X.K c false true (mC (.int i))) := se_c pe_int fun _ => .int i
theorem se_bl {b j} : PE X (.Constant (.bool b) j pos) (te X.K c false true (mC (.bool b))) := se_c pe_bl fun _ => .bl b
theorem se_non {j} : PE X (.Constant .none j pos) (te X.K c false true (mC .none)) := se_c pe_non fun _ => .non
theorem se_str {x j} : PE X (.Constant (.str x) j pos) (te X.K c false true (mC (.str x))) := se_c pe_str fun _ => .str x
theorem se_gstr {x z : Str} (hm : ∃ t, X.mg x = some (.str z t)) (hg : Gl X x := by rfl) (hd : (x == ("__debug__" : Str)) = false := by decide) : PE X (.Name x pos) (te X.K c false true (mC (.str z))) := by
  obtain ⟨t, hm⟩ := hm
  exact se_c (v := .str z) (pe_glob hg hm ⟨t, rfl⟩ hd) fun _ => .str z
theorem se_gint {x : Str} {i : Int} (hm : ∃ t, X.mg x = some (.int i t)) (hg : Gl X x := by rfl) (hd : (x == ("__debug__" : Str)) = false := by decide) : PE X (.Name x pos) (te X.K c false true (mC (.int i))) := by
  obtain ⟨t, hm⟩ := hm
  exact se_c (v := .int i) (pe_glob hg hm ⟨t, rfl⟩ hd) fun _ => .int i
end
def rD (K : Frag) (g : D → D → Option D) : R2 := fun v w H Q => ∃ F x y z, Same F H ∧ RpB K F H v x ∧ RpB K F H w y ∧ g x y = some z ∧ ∀ F' H' u, New F H F' H' → Rp K F' u z → Q u H'
def mBin (g : D → D → Option D) (a b : M D) : M D := fun ρ => (a ρ).bind fun x ρ1 => (b ρ1).bind fun y ρ2 => ofO (g x y) ρ2
section
variable {X : Cx} {c : Ct} {a b d : Expr} {pos : Pos} {ka kb kd pa pb pd : Bool} {ma mb md : M D} {g g' : D → D → Option D}
theorem bin_step {f : Value → Value → Sem Value} (hk : ka = true → pb = true) {σ : Sl} {H : Hp} {Q : VK} (h : te X.K c false (pa && pb) (mBin g ma mb) σ H Q) : tOp (rD X.K g) (te X.K c ka pa ma) (te X.K c kb pb mb) σ H Q := by
  obtain ⟨F, ρ, O, e, h⟩ := h
  refine te_step e h fun x ρ1 F1 H1 O1 v h1 e1 s1 p1 v1 => te_step e1 h1 fun y ρ2 F2 H2 O2 w h2 e2 s2 p2 v2 => ?_
  obtain ⟨z, hz, h3⟩ := post_ofO h2
  refine ⟨F2, x, y, z, e2.sub, v1.up s2 p2 hk, v2.up0, hz, fun F' H' u n r => h3 F' H' O2 u (e2.new n) ((s1.trans s2).trans n.fF) (fun hp => ?_) r⟩
  obtain ⟨h4, h5⟩ := Bool.and_eq_true_iff.mp hp
  exact ((p1 h4).trans (p2 h5)).trans n.hH
theorem se_bin {op : Operator} (ho : OpR X (binaryOp op) (rD X.K g)) (ha : PE X a (te X.K c ka pa ma)) (hb : PE X b (te X.K c kb pb mb)) (hk : ka = true → pb = true := by decide) :
    PE X (.BinOp a op b pos) (te X.K c false (pa && pb) (mBin g ma mb)) := (pe_op ho ha hb).imp fun σ H Q h => bin_step (f := binaryOp op) hk h
theorem se_cmp {op : CmpOp} (ho : OpR X (compareOp op) (rD X.K g)) (ha : PE X a (te X.K c ka pa ma)) (hb : PE X b (te X.K c kb pb mb)) (hk : ka = true → pb = true := by decide) (hm : behindInMarks op b = false := by first | exact nomark _ | rfl) :
    PE X (.Compare a [op] [b] pos) (te X.K c false (pa && pb) (mBin g ma mb)) := (pe_cmpR ho ha hb hm).imp fun σ H Q h => bin_step (f := compareOp op) hk h
def mB (m : M D) : M Bool := fun ρ => (m ρ).bind fun x ρ1 => match x with
  | .bool b => .ok b ρ1
  | _ => .bad
theorem tb_step {σ : Sl} {H : Hp} {Q : Bool → Hp → Prop} (h : tt X.K c pa (mB ma) σ H Q) : tTest (te X.K c ka pa ma) σ H Q := by
  obtain ⟨F, ρ, O, e, h⟩ := h
  refine te_step e h fun x ρ1 F1 H1 O1 v h1 e1 s1 p1 v1 => ?_
  cases x with
  | bool b =>
    have r := v1.up0
    cases r with
    | d r => cases r; exact ⟨b, rfl, h1 F1 H1 O1 e1 s1 p1⟩
  | _ => exact h1.elim
theorem st_cmp {op : CmpOp} (ho : OpR X (compareOp op) (rD X.K g)) (ha : PE X a (te X.K c ka pa ma)) (hb : PE X b (te X.K c kb pb mb)) (hk : ka = true → pb = true := by decide) (hm : behindInMarks op b = false := by first | exact nomark _ | rfl) :
    PT X (.Compare a [op] [b] pos) (tt X.K c (pa && pb) (mB (mBin g ma mb))) := (pt_cmpR ho ha hb hm).imp fun σ H Q h => by
  have q := tb_step (ka := false) h
  obtain ⟨F, ρ, O, e, q⟩ := q
  exact bin_step (f := compareOp op) hk ⟨F, ρ, O, e, q⟩
theorem st_val {e : Expr} (h : PE X e (te X.K c ka pa ma)) (he : ∀ whole, isTrue e X.env whole = (do let v ← whole; standAt e.pos; holding [v] (truthy v)) := by intro _; rfl) : PT X e (tt X.K c pa (mB ma)) :=
  (pt_val h he).imp fun σ H Q q => tb_step q
def mChain (g g' : D → D → Option D) (a b d : M D) : M D := fun ρ => (a ρ).bind fun x ρ1 => (b ρ1).bind fun y ρ2 => match g x y with
  | some (.bool true) => (d ρ2).bind fun z ρ3 => ofO (g' y z) ρ3
  | some (.bool false) => .ok (.bool false) ρ2
  | _ => .bad
theorem chain_step (hk : ka = true → pb = true) (hk' : kb = true → pd = true) {σ : Sl} {H : Hp} {Q : VK} (h : te X.K c false (pa && pb && pd) (mChain g g' ma mb md) σ H Q) : tChain (rD X.K g) (rD X.K g') (te X.K c ka pa ma) (te X.K c kb pb mb) (te X.K c kd pd md) σ H Q := by
  obtain ⟨F, ρ, O, e, h⟩ := h
  refine te_step e h fun x ρ1 F1 H1 O1 v h1 e1 s1 p1 v1 => te_step e1 h1 fun y ρ2 F2 H2 O2 w h2 e2 s2 p2 v2 => ?_
  cases gz : g x y with
  | none => rw [gz] at h2; exact h2.elim
  | some z =>
    rw [gz] at h2
    cases z with
    | bool k =>
      refine ⟨F2, x, y, .bool k, e2.sub, v1.up s2 p2 hk, v2.up0, gz, fun F' H' u n r => ?_⟩
      cases r
      refine ⟨k, rfl, ?_⟩
      have e2' := e2.new n
      cases k with
      | false =>
        rw [if_neg Bool.false_ne_true]
        refine h2 F' H' O2 _ e2' ((s1.trans s2).trans n.fF) (fun hp => ?_) (.bl false)
        obtain ⟨h4, h5⟩ := Bool.and_eq_true_iff.mp (Bool.and_eq_true_iff.mp hp).1
        exact ((p1 h4).trans (p2 h5)).trans n.hH
      | true =>
        rw [if_pos rfl]
        refine te_step e2' h2 fun z ρ3 F3 H3 O3 w' h3 e3 s3 p3 v3 => ?_
        obtain ⟨z', hz, h4⟩ := post_ofO h3
        refine ⟨F3, y, z, z', e3.sub, ?_, v3.up0, hz, fun F4 H4 u n4 r => h4 F4 H4 O3 u (e3.new n4) ((((s1.trans s2).trans n.fF).trans s3).trans n4.fF) (fun hp => ?_) r⟩
        · exact Val.up (pu := pd) v2 (n.fF.trans s3) (fun q => n.hH.trans (p3 q)) hk'
        · obtain ⟨q1, q2⟩ := Bool.and_eq_true_iff.mp hp
          obtain ⟨q3, q4⟩ := Bool.and_eq_true_iff.mp q1
          exact ((((p1 q3).trans (p2 q4)).trans n.hH).trans (p3 q2)).trans n4.hH
    | _ => exact h2.elim
theorem st_chain {op op' : CmpOp} (ho : OpR X (compareOp op) (rD X.K g)) (ho' : OpR X (compareOp op') (rD X.K g')) (ha : PE X a (te X.K c ka pa ma)) (hb : PE X b (te X.K c kb pb mb)) (hd : PE X d (te X.K c kd pd md))
    (hk : ka = true → pb = true := by decide) (hk' : kb = true → pd = true := by decide) (hm : lastMarks [op, op'] [b, d] = false := by with_unfolding_all rfl) : PT X (.Compare a [op, op'] [b, d] pos) (tt X.K c (pa && pb && pd) (mB (mChain g g' ma mb md))) :=
  (pt_chain ho ho' ha hb hd hm).imp fun σ H Q h => chain_step hk hk' (tb_step (ka := false) h)
end
def mAnd (a b : M Bool) : M Bool := fun ρ => (a ρ).bind fun x ρ1 => if x = true then b ρ1 else .ok false ρ1
def mOr (a b : M Bool) : M Bool := fun ρ => (a ρ).bind fun x ρ1 => if x = true then .ok true ρ1 else b ρ1
def mNot (a : M Bool) : M Bool := fun ρ => (a ρ).bind fun x ρ1 => .ok (!x) ρ1
def mV (a : M Bool) : M D := fun ρ => (a ρ).bind fun x ρ1 => .ok (.bool x) ρ1
def mAndV (a b : M D) : M D := fun ρ => (a ρ).bind fun x ρ1 => match x with
  | .bool true => b ρ1
  | .bool false => .ok (.bool false) ρ1
  | _ => .bad
def mOrV (a b : M D) : M D := fun ρ => (a ρ).bind fun x ρ1 => match x with
  | .bool true => .ok (.bool true) ρ1
  | .bool false => b ρ1
  | _ => .bad
def mNotV (a : M D) : M D := fun ρ => (a ρ).bind fun x ρ1 => match x with
  | .bool b => .ok (.bool (!b)) ρ1
  | _ => .bad
def mIf {α : Type} (t : M Bool) (a b : M α) : M α := fun ρ => (t ρ).bind fun x ρ1 => if x = true then a ρ1 else b ρ1
section
variable {X : Cx} {c : Ct} {a b d : Expr} {rest : List Expr} {pos : Pos} {ka kb kd pa pb pd : Bool} {ma mb md : M D} {ta tb' : M Bool}
theorem st_and1 (ha : PT X a (tt X.K c pa ta)) : PW X (.BoolOp .And [a] pos) (tt X.K c pa ta) := pw_and1 ha
theorem st_or1 (ha : PT X a (tt X.K c pa ta)) : PW X (.BoolOp .Or [a] pos) (tt X.K c pa ta) := pw_or1 ha
theorem _root_.L2.PW.imp {X : Cx} {e : Expr} {t t' : TT} (h : PW X e t) (k : ∀ σ H Q, t' σ H Q → t σ H Q) : PW X e t' := ⟨fun wh pins s σ H Q I q => h.run wh pins s σ H Q I (k σ H Q q)⟩
theorem and_p {p q : Bool} {H H1 H2 : Hp} (p1 : p = true → Same H H1) (p2 : q = true → Same H1 H2) (h : (p && q) = true) : Same H H2 := by
  obtain ⟨h4, h5⟩ := Bool.and_eq_true_iff.mp h
  exact (p1 h4).trans (p2 h5)
theorem st_and (ha : PT X a (tt X.K c pa ta)) (hb : PW X (.BoolOp .And (b :: rest) pos) (tt X.K c pb tb')) : PW X (.BoolOp .And (a :: b :: rest) pos) (tt X.K c (pa && pb) (mAnd ta tb')) := (pw_and ha hb).imp fun σ H Q ⟨F, ρ, O, e, h⟩ => by
  refine tt_step e h fun x ρ1 F1 H1 O1 h1 e1 s1 p1 => ?_
  cases x with
  | true =>
    rw [if_pos rfl] at h1 ⊢
    exact ⟨F1, ρ1, O1, e1, Res.post_imp h1 (fun b ρ2 h2 F2 H2 O2 e2 s2 p2 => h2 F2 H2 O2 e2 (s1.trans s2) (and_p p1 p2)) fun _ _ h => h⟩
  | false =>
    rw [if_neg Bool.false_ne_true] at h1 ⊢
    exact h1 F1 H1 O1 e1 s1 fun hp => p1 (Bool.and_eq_true_iff.mp hp).1
theorem st_or (ha : PT X a (tt X.K c pa ta)) (hb : PW X (.BoolOp .Or (b :: rest) pos) (tt X.K c pb tb')) : PW X (.BoolOp .Or (a :: b :: rest) pos) (tt X.K c (pa && pb) (mOr ta tb')) := (pw_or ha hb).imp fun σ H Q ⟨F, ρ, O, e, h⟩ => by
  refine tt_step e h fun x ρ1 F1 H1 O1 h1 e1 s1 p1 => ?_
  cases x with
  | true =>
    rw [if_pos rfl] at h1 ⊢
    exact h1 F1 H1 O1 e1 s1 fun hp => p1 (Bool.and_eq_true_iff.mp hp).1
  | false =>
    rw [if_neg Bool.false_ne_true] at h1 ⊢
    exact ⟨F1, ρ1, O1, e1, Res.post_imp h1 (fun b ρ2 h2 F2 H2 O2 e2 s2 p2 => h2 F2 H2 O2 e2 (s1.trans s2) (and_p p1 p2)) fun _ _ h => h⟩
theorem st_not (ha : PT X a (tt X.K c pa ta)) : PT X (.UnaryOp .Not a pos) (tt X.K c pa (mNot ta)) := (pt_not ha).imp fun σ H Q ⟨F, ρ, O, e, h⟩ =>
  tt_step e h fun x ρ1 F1 H1 O1 h1 e1 s1 p1 => h1 F1 H1 O1 e1 s1 p1
theorem bval {K : Frag} {k : Bool} {F H : Hp} {v : V} {b : Bool} (h : Val K k F H v (.bool b)) : v = .bl b := by
  have r := h.up0
  cases r with
  | d r => cases r; rfl
theorem se_and (ha : PE X a (te X.K c ka pa ma)) (hb : PE X (.BoolOp .And (b :: rest) pos) (te X.K c false pb mb)) : PE X (.BoolOp .And (a :: b :: rest) pos) (te X.K c false (pa && pb) (mAndV ma mb)) := (pe_and ha hb).imp fun σ H Q ⟨F, ρ, O, e, h⟩ => by
  refine te_step e h fun x ρ1 F1 H1 O1 v h1 e1 s1 p1 v1 => ?_
  cases x with
  | bool k =>
    refine ⟨k, bval v1, ?_⟩
    cases k with
    | true =>
      rw [if_pos rfl]
      exact ⟨F1, ρ1, O1, e1, Res.post_imp h1 (fun b ρ2 h2 F2 H2 O2 v2 e2 s2 p2 => h2 F2 H2 O2 v2 e2 (s1.trans s2) (and_p p1 p2)) fun _ _ h => h⟩
    | false =>
      rw [if_neg Bool.false_ne_true]
      exact h1 F1 H1 O1 _ e1 s1 (fun hp => p1 (Bool.and_eq_true_iff.mp hp).1) (.bl false)
  | _ => exact h1.elim
theorem se_or (ha : PE X a (te X.K c ka pa ma)) (hb : PE X (.BoolOp .Or (b :: rest) pos) (te X.K c false pb mb)) : PE X (.BoolOp .Or (a :: b :: rest) pos) (te X.K c false (pa && pb) (mOrV ma mb)) := (pe_or ha hb).imp fun σ H Q ⟨F, ρ, O, e, h⟩ => by
  refine te_step e h fun x ρ1 F1 H1 O1 v h1 e1 s1 p1 v1 => ?_
  cases x with
  | bool k =>
    refine ⟨k, bval v1, ?_⟩
    cases k with
    | false =>
      rw [if_neg Bool.false_ne_true]
      exact ⟨F1, ρ1, O1, e1, Res.post_imp h1 (fun b ρ2 h2 F2 H2 O2 v2 e2 s2 p2 => h2 F2 H2 O2 v2 e2 (s1.trans s2) (and_p p1 p2)) fun _ _ h => h⟩
    | true =>
      rw [if_pos rfl]
      exact h1 F1 H1 O1 _ e1 s1 (fun hp => p1 (Bool.and_eq_true_iff.mp hp).1) (.bl true)
  | _ => exact h1.elim
theorem se_one {op} (ha : PE X a (te X.K c false pa ma)) : PE X (.BoolOp op [a] pos) (te X.K c false pa ma) := pe_one ha
end
end DL
end
section
set_option maxRecDepth 100000
set_option maxHeartbeats 2000000
namespace DL
open PySem PySem.Spec PyProof.Rows L2
def PAs (K : Frag) (c : Ct) (pu : Bool) (F H : Hp) (σ : Sl) (Q : List V → Hp → Prop) (xs : List D) (ρ' : Env) : Prop :=
  ∀ F' H' O' vs, EnvR K c F' H' σ ρ' O' → Same F F' → (pu = true → Same H H') → RpAll K F' vs xs → Q vs H'
def ta (K : Frag) (c : Ct) (pu : Bool) (m : M (List D)) : TA := fun σ H Q => ∃ F ρ O, EnvR K c F H σ ρ O ∧ (m ρ).post (PAs K c pu F H σ Q) (PX K c σ)
def mNil : M (List D) := fun ρ => .ok [] ρ
def mCons (a : M D) (r : M (List D)) : M (List D) := fun ρ => (a ρ).bind fun x ρ1 => (r ρ1).bind fun xs ρ2 => .ok (x :: xs) ρ2
structure SA (X : Cx) (c : Ct) (es : List Expr) (pu : Bool) (m : M (List D)) : Prop where
  pa : PA X es (ta X.K c pu m)
  len : ∀ ρ xs ρ', m ρ = .ok xs ρ' → xs.length = es.length
section
variable {X : Cx} {c : Ct} {e : Expr} {es : List Expr} {pos : Pos} {p1 p2 pu : Bool} {me : M D} {ms : M (List D)}
theorem sa_nil : SA X c [] true mNil := ⟨pa_nil.imp fun σ H Q ⟨F, ρ, O, e, h⟩ => h F H O [] e (Same.refl _) (fun _ => Same.refl _) .nil, fun ρ xs ρ' h => by cases h; rfl⟩
theorem ta_step {K : Frag} {α : Type} {F H : Hp} {σ : Sl} {ρ : Env} {O : List Addr} {m : M (List D)} {k : List D → Env → Res α} {P : α → Env → Prop} {Q : List V → Hp → Prop} (e : EnvR K c F H σ ρ O) (h : ((m ρ).bind k).post P (PX K c σ))
    (q : ∀ x ρ1 F1 H1 O1 v, m ρ = .ok x ρ1 → (k x ρ1).post P (PX K c σ) → EnvR K c F1 H1 σ ρ1 O1 → Same F F1 → (pu = true → Same H H1) → RpAll K F1 v x → Q v H1) : ta K c pu m σ H Q := by
  refine ⟨F, ρ, O, e, ?_⟩
  have z := Res.post_bind h
  cases r : m ρ with
  | ok x ρ1 => rw [r] at z; exact fun F1 H1 O1 v e1 s1 p1 r1 => q x ρ1 F1 H1 O1 v r z e1 s1 p1 r1
  | ex ξ ρ1 => rw [r] at z; exact z
  | bad => rw [r] at z; exact z
theorem sa_cons (ha : PE X e (te X.K c false p1 me)) (hr : SA X c es p2 ms) (hs : starEach (e :: es) X.env = (false, eval e X.env) :: starEach es X.env := by rfl) : SA X c (e :: es) (p1 && p2) (mCons me ms) := by
  refine ⟨(pa_cons ha hr.pa hs).imp fun σ H Q ⟨F, ρ, O, e, h⟩ => te_step e h fun x ρ1 F1 H1 O1 v h1 e1 s1 q1 v1 => ?_, fun ρ xs ρ' h => ?_⟩
  · refine ta_step e1 h1 fun xs ρ2 F2 H2 O2 vs _ h2 e2 s2 q2 v2 => ?_
    exact h2 F2 H2 O2 _ e2 (s1.trans s2) (and_p q1 q2) (.cons (Rp.mono s2 v1) v2)
  · unfold mCons at h
    cases h1 : me ρ with
    | ok x ρ1 =>
      rw [h1] at h
      have h : ((ms ρ1).bind fun xs ρ2 => .ok (x :: xs) ρ2) = .ok xs ρ' := h
      cases h2 : ms ρ1 with
      | ok ys ρ2 =>
        rw [h2] at h
        have h : Res.ok (x :: ys) ρ2 = .ok xs ρ' := h
        cases h
        rw [List.length_cons, List.length_cons, hr.len _ _ _ h2]
      | ex _ _ => rw [h2] at h; cases h
      | bad => rw [h2] at h; cases h
    | ex _ _ => rw [h1] at h; cases h
    | bad => rw [h1] at h; cases h
end
theorem few {es : List Expr} (h : es.length ≤ 1000) : es.length ≤ sizeLine := Nat.le_of_lt (small1000 h)
def mTup (m : M (List D)) : M D := fun ρ => (m ρ).bind fun xs ρ1 => .ok (.tuple xs) ρ1
def mLst (m : M (List D)) : M OV := fun ρ => (m ρ).bind fun xs ρ1 => .ok (.lst xs) ρ1
section
variable {X : Cx} {c : Ct} {e : Expr} {es : List Expr} {pos : Pos} {p1 p2 pu : Bool} {me : M D} {ms : M (List D)} {mo : M OV}
theorem EnvR.apart {K : Frag} {F H : Hp} {σ : Sl} {ρ : Env} {O : List Addr} (e : EnvR K c F H σ ρ O) {p : Addr} (h : H p = none) : Apart c F [p] O := by
  refine ⟨?_, fun q hq => ?_⟩
  · rw [List.singleton_append, List.nodup_cons]
    exact ⟨fun hm => e.sl.there p hm h, e.nd⟩
  · rw [List.mem_singleton] at hq
    subst hq
    refine ⟨e.sub.free h, ?_⟩
    by_cases hc : q ∈ c.O
    · exact .inl hc
    · refine .inr ?_
      cases z : c.H q with
      | none => rfl
      | some o => rw [e.h0 q o z hc] at h; cases h
theorem Apart.new {F H F' H' : Hp} {A O : List Addr} (a : Apart c F A O) (n : New F H F' H') (t : ∀ b ∈ A, H b ≠ none) : Apart c F' A O := ⟨a.nd, fun p hp => ⟨n.nw p (t p hp) (a.ow p hp).1, (a.ow p hp).2⟩⟩
theorem se_tup {k : Nat} (h : SA X c es pu ms) (hl : es.length ≤ 1000 := by exact Nat.le_of_ble_eq_true rfl) : PE X (.Tuple es k pos) (te X.K c false pu (mTup ms)) := (pe_tup h.pa).imp fun σ H Q ⟨F, ρ, O, e, h1⟩ => by
  refine ta_step e h1 fun xs ρ1 F1 H1 O1 vs hm h2 e1 s1 p1 v1 => ⟨by rw [v1.length, h.len _ _ _ hm]; exact few hl, fun p hp => ?_⟩
  have n := New.one e1.sub hp (.tup vs)
  exact h2 _ _ O1 _ (e1.new n) (s1.trans n.fF) (fun q => (p1 q).trans n.hH) (.tup (.of upd_same) (v1.mono n.fF))
end
def mLstF (m : M (List D)) : M D := fun ρ => (m ρ).bind fun xs ρ1 => .ok (.list xs) ρ1
def frzF (F H : Hp) (A : List Addr) : Hp := fun b => if b ∈ A then H b else F b
theorem frz_in {F H : Hp} {A : List Addr} {b : Addr} (h : b ∈ A) : frzF F H A b = H b := if_pos h
theorem frz_out {F H : Hp} {A : List Addr} {b : Addr} (h : b ∉ A) : frzF F H A b = F b := if_neg h
section
variable {K : Frag} {c : Ct} {F H : Hp} {σ : Sl} {ρ : Env} {O A : List Addr}
theorem frz_same (h : ∀ p ∈ A, F p = none) : Same F (frzF F H A) := fun b u q => by
  by_cases hb : b ∈ A
  · rw [h b hb] at q; cases q
  · rw [frz_out hb]; exact q
theorem EnvR.frz (e : EnvR K c F H σ ρ O) (a : Apart c F A O) : EnvR K c (frzF F H A) H σ ρ O where
  sub := fun b u q => by
    by_cases hb : b ∈ A
    · rw [frz_in hb] at q; exact q
    · rw [frz_out hb] at q; exact e.sub b u q
  f0 := e.f0.trans (frz_same fun p hp => (a.ow p hp).1)
  h0 := e.h0
  n0 := fun b h1 h2 h3 => by
    by_cases hb : b ∈ A
    · rcases (a.ow b hb).2 with z | z
      · exact absurd z h2
      · exact absurd z h1
    · rw [frz_out hb]; exact e.n0 b h1 h2 h3
  sl := e.sl.mono (frz_same fun p hp => (a.ow p hp).1) fun _ _ => rfl
  nd := e.nd
  ow := fun p hp => by
    have hb : p ∉ A := fun z => (List.nodup_append.mp a.nd).2.2 p z p hp rfl
    rw [frz_out hb]
    exact e.ow p hp
  fx := e.fx
theorem OwR.frz {v : V} {o : OV} {x : D} (h : OwR K c.ca F H v o A) (e : o.frz = some x) (hA : ∀ p ∈ A, F p = none) : Rp K (frzF F H A) v x := by
  have s : Same F (frzF F H A) := frz_same hA
  cases h with
  | d r => cases e; exact r.mono s
  | lst h r => cases e; exact .lst ((frz_in (List.mem_singleton_self _)).trans h) (r.mono s)
  | dcK h r => cases e
  | dcT h r => cases e
  | obj _ _ _ => cases e
end
def mFrz (m : M OV) : M D := fun ρ => (m ρ).bind fun o ρ1 => ofO o.frz ρ1
def mFrzV (i : Nat) : M D := fun ρ => match ρ[i]? with
  | some (some o) => match o.frz with
    | some x => .ok x (ρ.set i (some (.d x)))
    | none => .bad
  | _ => .bad
def mMove (i : Nat) : M OV := fun ρ => match ρ[i]? with
  | some (some o) => .ok o (ρ.set i none)
  | _ => .bad
def mD (m : M D) : M OV := fun ρ => (m ρ).bind fun x ρ1 => .ok (.d x) ρ1
section
variable {X : Cx} {c : Ct} {e : Expr} {pos : Pos} {pu : Bool} {me : M D} {mo : M OV}
theorem se_frz (h : PE X e (to X.K c mo)) : PE X e (te X.K c false false (mFrz mo)) := h.imp fun σ H Q ⟨F, ρ, O, e, h1⟩ => by
  refine to_step e h1 fun o ρ1 F1 H1 O1 A v h2 e1 s1 r1 a1 => ?_
  obtain ⟨x, h3, h4⟩ := post_ofO h2
  exact h4 _ _ O1 v (e1.frz a1) (s1.trans (frz_same fun p hp => (a1.ow p hp).1)) (fun q => nomatch q) (r1.frz h3 fun p hp => (a1.ow p hp).1)
theorem so_d (h : PE X e (te X.K c false pu me)) : PE X e (to X.K c (mD me)) := h.imp fun σ H Q ⟨F, ρ, O, e, h1⟩ =>
  te_step e h1 fun x ρ1 F1 H1 O1 v h2 e1 s1 p1 v1 => h2 F1 H1 O1 [] v e1 s1 (.d v1) ⟨e1.nd, fun _ hp => by simp at hp⟩
theorem set_self {α : Type} : ∀ {l : List α} {i : Nat} {x : α}, l[i]? = some x → l.set i x = l
  | [], _, _, h => by simp at h
  | a :: l, 0, x, h => by simp at h; subst h; rfl
  | a :: l, i + 1, x, h => by rw [List.set_cons_succ, set_self (l := l) (by simpa using h)]
theorem EnvR.take {K : Frag} {F H : Hp} {σ : Sl} {ρ : Env} {O : List Addr} {i : Nat} {o : OV} (e : EnvR K c F H σ ρ O) (h : ρ[i]? = some (some o)) :
    ∃ v A R, σ[i]? = some (some v) ∧ OwR K c.ca F H v o A ∧ Apart c F A R ∧ EnvR K c F H σ (ρ.set i none) R ∧ (∀ p ∈ A ++ R, p ∈ O) := by
  obtain ⟨v, A, R, h1, h2, h3, h4⟩ := e.sl.at h
  obtain ⟨k1, k2⟩ := h4 F H (Same.refl _) fun _ _ => rfl
  have mem : ∀ p ∈ A ++ R, p ∈ O := fun p hp => h3.mem_iff.mpr hp
  have nd : (A ++ R).Nodup := h3.nodup_iff.mp e.nd
  exact ⟨v, A, R, h1, h2, ⟨nd, fun p hp => e.ow p (mem p (by simp [hp]))⟩, ⟨e.sub, e.f0, e.h0, e.n0, k1, (List.nodup_append.mp nd).2.1, fun p hp => e.ow p (mem p (by simp [hp])), e.fx⟩, mem⟩
theorem so_move (i : Nat) {x : Str} (hN : X.N[i]? = some x := by rfl) (hv : Vis X.env.scope x := by first | exact Or.inl rfl | exact Or.inr (Or.inl rfl) | exact Or.inr (Or.inr rfl)) (hd : (x == ("__debug__" : Str)) = false := by decide)
    (hcd : (x == ("__classdict__" : Str)) = false := by decide) : PE X (.Name x pos) (to X.K c (mMove i)) := (pe_var hN hv hd hcd).imp fun σ H Q ⟨F, ρ, O, e, h⟩ => by
  unfold mMove at h
  cases q : ρ[i]? with
  | none => rw [q] at h; exact h.elim
  | some w =>
    rw [q] at h
    cases w with
    | none => exact h.elim
    | some o =>
      obtain ⟨v, A, R, h1, h2, h3, h4, _⟩ := e.take q
      exact ⟨v, h1, h F H R A v h4 (Same.refl _) h2 h3⟩
theorem EnvR.put {K : Frag} {F H : Hp} {σ : Sl} {ρ : Env} {O A : List Addr} {i : Nat} {o : OV} {v : V} (e : EnvR K c F H σ ρ O) (r : OwR K c.ca F H v o A) (a : Apart c F A O) (hi : i < σ.length) (hf : (c.fx.all fun j => j != i) = true) :
    ∃ O', EnvR K c F H (σ.set i (some v)) (ρ.set i (some o)) O' := by
  obtain ⟨R, h1, h2, _, h4⟩ := e.sl.put (i := i) hi
  obtain ⟨O', k1, k2⟩ := h4 v o A r
  obtain ⟨n1, n2, n3⟩ := List.nodup_append.mp a.nd
  have nd : (A ++ R).Nodup := List.nodup_append.mpr ⟨n1, h2 n2, fun x hx y hy => n3 x hx y (h1 y hy)⟩
  refine ⟨O', e.sub, e.f0, e.h0, e.n0, k1, k2.nodup_iff.mpr nd, fun p hp => ?_, fun j hj => ?_⟩
  · rcases List.mem_append.mp (k2.mem_iff.mp hp) with z | z
    · exact a.ow p z
    · exact e.ow p (h1 p z)
  · have z := List.all_eq_true.mp hf j hj
    have z : j ≠ i := by simpa using z
    rw [List.getElem?_set_ne (Ne.symm z)]
    exact e.fx j hj
theorem EnvR.putD {K : Frag} {F H : Hp} {σ : Sl} {ρ : Env} {O : List Addr} {i : Nat} {x : D} {v : V} (e : EnvR K c F H σ ρ O) (r : Rp K F v x) (hi : i < σ.length) (hf : (c.fx.all fun j => j != i) = true) :
    ∃ O', EnvR K c F H (σ.set i (some v)) (ρ.set i (some (.d x))) O' := e.put (.d r) ⟨e.nd, fun _ hp => by simp at hp⟩ hi hf
theorem se_frzv (i : Nat) {x : Str} (hN : X.N[i]? = some x := by rfl) (hv : Vis X.env.scope x := by first | exact Or.inl rfl | exact Or.inr (Or.inl rfl) | exact Or.inr (Or.inr rfl)) (hd : (x == ("__debug__" : Str)) = false := by decide)
    (hcd : (x == ("__classdict__" : Str)) = false := by decide) : PE X (.Name x pos) (te X.K c false true (mFrzV i)) := (pe_var hN hv hd hcd).imp fun σ H Q ⟨F, ρ, O, e, h⟩ => by
  unfold mFrzV at h
  cases q : ρ[i]? with
  | none => rw [q] at h; exact h.elim
  | some w =>
    rw [q] at h
    cases w with
    | none => exact h.elim
    | some o =>
      cases l : o.frz with
      | none => simp only [l] at h; exact h.elim
      | some y =>
        simp only [l] at h
        obtain ⟨v, A, R, h1, h2, h3, h4, _⟩ := e.take q
        have e2 := h4.frz h3
        have r2 := h2.frz l fun p hp => (h3.ow p hp).1
        obtain ⟨R', k1, k2, _, k4⟩ := e2.sl.put (i := i) (List.getElem?_eq_some_iff.mp h1).1
        obtain ⟨O', k5, k6⟩ := k4 v (.d y) [] (.d r2)
        rw [set_self h1, List.set_set] at k5
        refine ⟨v, h1, h _ H O' v ⟨e2.sub, e2.f0, e2.h0, e2.n0, k5, k6.nodup_iff.mpr (k2 e2.nd), fun p hp => e2.ow p (k1 p (k6.mem_iff.mp hp)), e2.fx⟩ (frz_same fun p hp => (h3.ow p hp).1) (fun _ => Same.refl _) r2⟩
end
inductive Rf where
  | ok (r : OV) (outs : Env)
  | ex (ξ : Exc)
  | bad
abbrev Fn := List OV → Rf
structure FnEnd (F H : Hp) (O : List Addr) (F' H' : Hp) : Prop where
  fF : Same F F'
  sub : Same F' H'
  hH : ∀ b o, H b = some o → b ∉ O → H' b = some o
  nw : ∀ b, H b ≠ none → b ∉ O → F b = none → F' b = none
def spF (K : Frag) (ca : Str → Addr) (f : Fn) : Sp := fun vs H Q E => ∃ F os O, Same F H ∧ SlR K ca F H (vs.map some) (os.map some) O ∧ O.Nodup ∧ (∀ p ∈ O, F p = none) ∧
  match f os with
  | .ok r outs => ∀ F' H' v A B, FnEnd F H O F' H' → SlR K ca F' H' (vs.map some) outs B → OwR K ca F' H' v r A → (A ++ B).Nodup → (∀ p ∈ A ++ B, F' p = none ∧ (p ∈ O ∨ H p = none)) → Q v H'
  | .ex ξ => ∀ F' H' cls d, FnEnd F H O F' H' → XR K ca F' H' cls d ξ → E cls d H'
  | .bad => False
inductive AV where
  | d (x : D) | o (i : Nat)
def gather : Env → List AV → Option (List OV × Env)
  | ρ, [] => some ([], ρ)
  | ρ, .d x :: r => (gather ρ r).map fun z => (.d x :: z.1, z.2)
  | ρ, .o i :: r => match ρ[i]? with
    | some (some o) => (gather (ρ.set i none) r).map fun z => (o :: z.1, z.2)
    | _ => none
def putBack : Env → List AV → Env → Env
  | ρ, .d _ :: r, _ :: s => putBack ρ r s
  | ρ, .o i :: r, o :: s => putBack (ρ.set i o) r s
  | ρ, _, _ => ρ
def callRf (avs : List AV) (ρ2 : Env) (r : Rf) : Res OV := match r with
  | .ok r outs => .ok r (putBack ρ2 avs outs)
  | .ex ξ => .ex ξ ρ2
  | .bad => .bad
def callEnd (f : Fn) (avs : List AV) (z : Option (List OV × Env)) : Res OV := match z with
  | none => .bad
  | some y => callRf avs y.2 (f y.1)
def mCall (f : Fn) (m : M (List AV)) : M OV := fun ρ => (m ρ).bind fun avs ρ1 => callEnd f avs (gather ρ1 avs)
inductive AvAll (K : Frag) (F : Hp) (σ : Sl) : List V → List AV → Prop where
  | nil : AvAll K F σ [] []
  | d {v : V} {x : D} {vs : List V} {as : List AV} : Rp K F v x → AvAll K F σ vs as → AvAll K F σ (v :: vs) (.d x :: as)
  | o {v : V} {i : Nat} {vs : List V} {as : List AV} : σ[i]? = some (some v) → AvAll K F σ vs as → AvAll K F σ (v :: vs) (.o i :: as)
theorem AvAll.mono {K : Frag} {F F' : Hp} {σ : Sl} (s : Same F F') : ∀ {vs : List V} {as : List AV}, AvAll K F σ vs as → AvAll K F' σ vs as
  | _, _, .nil => .nil
  | _, _, .d r h => .d (r.mono s) (h.mono s)
  | _, _, .o r h => .o r (h.mono s)
def PG' (K : Frag) (c : Ct) (F H : Hp) (σ : Sl) (Q : List V → Hp → Prop) (as : List AV) (ρ' : Env) : Prop :=
  ∀ F' H' O' vs, EnvR K c F' H' σ ρ' O' → Same F F' → AvAll K F' σ vs as → Q vs H'
def tg (K : Frag) (c : Ct) (m : M (List AV)) : TA := fun σ H Q => ∃ F ρ O, EnvR K c F H σ ρ O ∧ (m ρ).post (PG' K c F H σ Q) (PX K c σ)
def gNil : M (List AV) := fun ρ => .ok [] ρ
def gD (a : M D) (r : M (List AV)) : M (List AV) := fun ρ => (a ρ).bind fun x ρ1 => (r ρ1).bind fun xs ρ2 => .ok (.d x :: xs) ρ2
def gO (i : Nat) (r : M (List AV)) : M (List AV) := fun ρ => match ρ[i]? with
  | some (some _) => (r ρ).bind fun xs ρ2 => .ok (.o i :: xs) ρ2
  | _ => .bad
section
variable {K : Frag} {c : Ct} {F H : Hp} {σ : Sl}
theorem gather_ok : ∀ {as : List AV} {vs : List V} {ρ ρ2 : Env} {os : List OV} {O : List Addr}, gather ρ as = some (os, ρ2) → AvAll K F σ vs as → EnvR K c F H σ ρ O →
    ∃ A R, SlR K c.ca F H (vs.map some) (os.map some) A ∧ EnvR K c F H σ ρ2 R ∧ Apart c F A R ∧ (∀ p ∈ A ++ R, p ∈ O)
  | [], _, ρ, ρ2, os, O, h, .nil, e => by
    cases h
    exact ⟨[], O, .nil, e, ⟨e.nd, fun _ hp => by simp at hp⟩, fun p hp => hp⟩
  | .d x :: as, v :: vs, ρ, ρ2, os, O, h, .d r q, e => by
    have h1 : (gather ρ as).map (fun z => (OV.d x :: z.1, z.2)) = some (os, ρ2) := h
    obtain ⟨⟨os', ρ'⟩, h2, h3⟩ := Option.map_eq_some_iff.mp h1
    cases h3
    obtain ⟨A, R, k1, k2, k3, k4⟩ := gather_ok h2 q e
    exact ⟨A, R, .so (.d r) k1, k2, k3, k4⟩
  | .o i :: as, v :: vs, ρ, ρ2, os, O, h, .o r q, e => by
    unfold gather at h
    split at h
    · rename_i o ho
      obtain ⟨⟨os', ρ'⟩, h2, h3⟩ := Option.map_eq_some_iff.mp h
      cases h3
      obtain ⟨w, A1, R1, g1, g2, g3, g4, g5⟩ := e.take ho
      rw [r] at g1; cases g1
      obtain ⟨A, R, k1, k2, k3, k4⟩ := gather_ok h2 q g4
      refine ⟨A1 ++ A, R, .so g2 k1, k2, ⟨?_, fun p hp => ?_⟩, fun p hp => ?_⟩
      · rw [List.append_assoc]
        obtain ⟨n1, n2, n3⟩ := List.nodup_append.mp g3.nd
        exact List.nodup_append.mpr ⟨n1, k3.nd, fun x hx y hy => n3 x hx y (k4 y hy)⟩
      · rcases List.mem_append.mp hp with z | z
        · exact g3.ow p z
        · exact k3.ow p z
      · rw [List.append_assoc] at hp
        rcases List.mem_append.mp hp with z | z
        · exact g5 p (by simp [z])
        · exact g5 p (by simp [k4 p z])
    · cases h
theorem putBack_ok : ∀ {as : List AV} {vs : List V} {ρ outs : Env} {O B : List Addr}, SlR K c.ca F H (vs.map some) outs B → AvAll K F σ vs as → SlR K c.ca F H σ ρ O → (B ++ O).Nodup →
    ∃ O', SlR K c.ca F H σ (putBack ρ as outs) O' ∧ O'.Nodup ∧ ∀ p ∈ O', p ∈ B ++ O
  | [], _, ρ, outs, O, B, h, .nil, e, n => by
    cases h
    exact ⟨O, e, (List.nodup_append.mp n).2.1, fun p hp => by simp [hp]⟩
  | .d x :: as, v :: vs, ρ, none :: outs, O, B, .no h, .d r q, e, n => putBack_ok (as := as) h q e n
  | .d x :: as, v :: vs, ρ, some o :: outs, O, _, .so (A := A) (O := B) g h, .d r q, e, n => by
    rw [List.append_assoc] at n
    obtain ⟨O', k1, k2, k3⟩ := putBack_ok (as := as) h q e (List.nodup_append.mp n).2.1
    exact ⟨O', k1, k2, fun p hp => by rw [List.append_assoc]; exact List.mem_append_right _ (k3 p hp)⟩
  | .o i :: as, v :: vs, ρ, none :: outs, O, B, .no h, .o r q, e, n => by
    obtain ⟨R, h1, h2, h3, _⟩ := e.put (i := i) (List.getElem?_eq_some_iff.mp r).1
    have k := h3 (some v)
    rw [set_self r] at k
    obtain ⟨n1, n2, n3⟩ := List.nodup_append.mp n
    obtain ⟨O', k1, k2, k3⟩ := putBack_ok (as := as) (outs := outs) h q k (List.nodup_append.mpr ⟨n1, h2 n2, fun x hx y hy => n3 x hx y (h1 y hy)⟩)
    exact ⟨O', k1, k2, fun p hp => (List.mem_append.mp (k3 p hp)).elim (fun z => by simp [z]) fun z => by simp [h1 p z]⟩
  | .o i :: as, v :: vs, ρ, some o :: outs, O, _, .so (A := A) (O := B) g h, .o r q, e, n => by
    obtain ⟨R, h1, h2, _, h4⟩ := e.put (i := i) (List.getElem?_eq_some_iff.mp r).1
    obtain ⟨O1, k1, k2⟩ := h4 v o A g
    rw [set_self r] at k1
    rw [List.append_assoc] at n
    obtain ⟨n1, n2, n3⟩ := List.nodup_append.mp n
    obtain ⟨m1, m2, m3⟩ := List.nodup_append.mp n2
    have nd1 : (A ++ R).Nodup := List.nodup_append.mpr ⟨n1, h2 m2, fun x hx y hy => n3 x hx y (by simp [h1 y hy])⟩
    have nd2 : (B ++ O1).Nodup := List.nodup_append.mpr ⟨m1, k2.nodup_iff.mpr nd1, fun x hx y hy => by
      rcases List.mem_append.mp (k2.mem_iff.mp hy) with z | z
      · exact (n3 y z x (by simp [hx])).symm
      · exact m3 x hx y (h1 y z)⟩
    obtain ⟨O', j1, j2, j3⟩ := putBack_ok (as := as) h q k1 nd2
    refine ⟨O', j1, j2, fun p hp => ?_⟩
    rcases List.mem_append.mp (j3 p hp) with z | z
    · simp [z]
    · rcases List.mem_append.mp (k2.mem_iff.mp z) with z | z
      · simp [z]
      · simp [h1 p z]
end
section
variable {X : Cx} {c : Ct} {e : Expr} {es : List Expr} {pos : Pos} {p1 p2 pu : Bool} {me : M D} {ms : M (List AV)} {mo : M OV}
theorem sg_nil : PA X [] (tg X.K c gNil) := pa_nil.imp fun σ H Q ⟨F, ρ, O, e, h⟩ => h F H O [] e (Same.refl _) .nil
theorem tg_step {K : Frag} {α : Type} {F H : Hp} {σ : Sl} {ρ : Env} {O : List Addr} {m : M (List AV)} {k : List AV → Env → Res α} {P : α → Env → Prop} {Q : List V → Hp → Prop} (e : EnvR K c F H σ ρ O) (h : ((m ρ).bind k).post P (PX K c σ))
    (q : ∀ x ρ1 F1 H1 O1 v, (k x ρ1).post P (PX K c σ) → EnvR K c F1 H1 σ ρ1 O1 → Same F F1 → AvAll K F1 σ v x → Q v H1) : tg K c m σ H Q :=
  ⟨F, ρ, O, e, Res.post_imp (Res.post_bind h) (fun x ρ1 h1 F1 H1 O1 v e1 s1 r1 => q x ρ1 F1 H1 O1 v h1 e1 s1 r1) fun _ _ h => h⟩
theorem sg_d (ha : PE X e (te X.K c false p1 me)) (hr : PA X es (tg X.K c ms)) (hs : starEach (e :: es) X.env = (false, eval e X.env) :: starEach es X.env := by rfl) : PA X (e :: es) (tg X.K c (gD me ms)) :=
  (pa_cons ha hr hs).imp fun σ H Q ⟨F, ρ, O, e, h⟩ => te_step e h fun x ρ1 F1 H1 O1 v h1 e1 s1 q1 v1 => tg_step e1 h1 fun xs ρ2 F2 H2 O2 vs h2 e2 s2 v2 => h2 F2 H2 O2 _ e2 (s1.trans s2) (.d (Rp.mono s2 v1) v2)
theorem sg_o (i : Nat) {x : Str} {np : Pos} (hr : PA X es (tg X.K c ms)) (hN : X.N[i]? = some x := by rfl) (hv : Vis X.env.scope x := by first | exact Or.inl rfl | exact Or.inr (Or.inl rfl) | exact Or.inr (Or.inr rfl)) (hd : (x == ("__debug__" : Str)) = false := by decide)
    (hcd : (x == ("__classdict__" : Str)) = false := by decide) (hs : starEach (Expr.Name x np :: es) X.env = (false, eval (Expr.Name x np) X.env) :: starEach es X.env := by rfl) : PA X (.Name x np :: es) (tg X.K c (gO i ms)) :=
  (pa_cons (pe_var hN hv hd hcd) hr hs).imp fun σ H Q ⟨F, ρ, O, e, h⟩ => by
    unfold gO at h
    cases q : ρ[i]? with
    | none => rw [q] at h; exact h.elim
    | some w =>
      rw [q] at h
      cases w with
      | none => exact h.elim
      | some o =>
        obtain ⟨v, A, h1, h2⟩ := e.var q
        exact ⟨v, h1, tg_step e h fun xs ρ2 F2 H2 O2 vs h2 e2 s2 v2 => h2 F2 H2 O2 _ e2 s2 (.o h1 v2)⟩
theorem call_in {K : Frag} {f : Fn} {F H : Hp} {σ : Sl} {ρ : Env} {O : List Addr} {as : List AV} {vs : List V} {Q : VK} {P : OV → Env → Prop} (e : EnvR K c F H σ ρ O) (r : AvAll K F σ vs as)
    (h : (callEnd f as (gather ρ as)).post P (PX K c σ)) (hP : ∀ o ρ' F' H' O' A v, P o ρ' → EnvR K c F' H' σ ρ' O' → Same F F' → OwR K c.ca F' H' v o A → Apart c F' A O' → Q v H') : spF K c.ca f vs H Q (WE c.W σ) := by
  cases g : gather ρ as with
  | none => rw [g] at h; exact h.elim
  | some z =>
    obtain ⟨os, ρ2⟩ := z
    rw [g] at h
    have h : (callRf as ρ2 (f os)).post P (PX K c σ) := h
    obtain ⟨A, R, k1, k2, k3, k4⟩ := gather_ok g r e
    have ndA := (List.nodup_append.mp k3.nd).1
    refine ⟨F, os, A, e.sub, k1, ndA, fun p hp => (k3.ow p hp).1, ?_⟩
    -- what stands behind the call
    have back : ∀ {F' H' : Hp}, FnEnd F H A F' H' → EnvR K c F' H' σ ρ2 R ∧ ∀ p ∈ R, H p ≠ none ∧ p ∉ A := fun {F' H'} n => by
      have hRA : ∀ p ∈ R, p ∉ A := fun p hp hq => (List.nodup_append.mp k3.nd).2.2 p hq p hp rfl
      have hR : ∀ p ∈ R, H p ≠ none ∧ p ∉ A := fun p hp => ⟨k2.sl.there p hp, hRA p hp⟩
      refine ⟨⟨n.sub, k2.f0.trans n.fF, fun b o h1 h2 => ?_, fun b h1 h2 h3 => ?_, k2.sl.mono n.fF fun b hb => ?_, k2.nd, fun p hp => ⟨n.nw p (hR p hp).1 (hR p hp).2 (k2.ow p hp).1, (k2.ow p hp).2⟩, k2.fx⟩, hR⟩
      · refine n.hH b o (k2.h0 b o h1 h2) fun hb => ?_
        rcases (k3.ow b hb).2 with z | z
        · exact h2 z
        · rw [h1] at z; cases z
      · refine n.nw b ?_ (fun hb => ?_) (k2.n0 b h1 h2 h3)
        · cases q : c.H b with
          | none => exact absurd q h1
          | some o => rw [k2.h0 b o q h2]; simp
        · rcases (k3.ow b hb).2 with z | z
          · exact h2 z
          · exact h1 z
      · obtain ⟨z1, z2⟩ := hR b hb
        cases q : H b with
        | none => exact absurd q z1
        | some o => exact n.hH b o q z2
    cases fo : f os with
    | bad => rw [fo] at h; exact h.elim
    | ex ξ =>
      rw [fo] at h
      exact fun F' H' cls d n x => h F' H' R cls d (back n).1 x
    | ok r0 outs =>
      rw [fo] at h
      intro F' H' v A' B n sB ow ndB hB
      obtain ⟨e', hR⟩ := back n
      have cr : ∀ p ∈ A' ++ B, p ∈ c.O ∨ c.H p = none := fun p hp => by
        by_cases hc : p ∈ c.O
        · exact .inl hc
        · refine .inr ?_
          rcases (hB p hp).2 with z | z
          · rcases (k3.ow p z).2 with z | z
            · exact absurd z hc
            · exact z
          · cases q : c.H p with
            | none => rfl
            | some o => rw [e.h0 p o q hc] at z; cases z
      have dis : ∀ p ∈ A' ++ B, p ∉ R := fun p hp hr => by
        rcases (hB p hp).2 with z | z
        · exact (hR p hr).2 z
        · exact (hR p hr).1 z
      obtain ⟨nA, nB, nAB⟩ := List.nodup_append.mp ndB
      obtain ⟨O', j1, j2, j3⟩ := putBack_ok sB (r.mono n.fF) e'.sl (List.nodup_append.mpr ⟨nB, e'.nd, fun x hx y hy z => dis x (by simp [hx]) (z ▸ hy)⟩)
      refine hP r0 _ F' H' O' A' v h ⟨e'.sub, e'.f0, e'.h0, e'.n0, j1, j2, fun p hp => ?_, e'.fx⟩ n.fF ow ⟨List.nodup_append.mpr ⟨nA, j2, fun x hx y hy z => ?_⟩, fun p hp => ⟨(hB p (by simp [hp])).1, cr p (by simp [hp])⟩⟩
      · rcases List.mem_append.mp (j3 p hp) with z | z
        · exact ⟨(hB p (by simp [z])).1, cr p (by simp [z])⟩
        · exact e'.ow p z
      · subst z
        rcases List.mem_append.mp (j3 x hy) with z | z
        · exact nAB x hx x z rfl
        · exact dis x (by simp [hx]) z
variable {k : Nat} {f : Addr} {fd : FuncData} {ps : List Str} {fn : Fn} {x : Str} {p : Pos}
theorem call_step {σ : Sl} {H : Hp} {Q : VK} (h : to X.K c (mCall fn ms) σ H Q) : tCallS (spF X.K c.ca fn) (WE c.W) (tg X.K c ms) σ H Q := by
  obtain ⟨F, ρ, O, e, h⟩ := h
  refine tg_step e h fun as ρ1 F1 H1 O1 vs h1 e1 s1 r1 => ?_
  exact call_in e1 r1 h1 fun o ρ' F' H' O' A v hp e' s' ow ap => hp F' H' O' A v e' (s1.trans s') ow ap
theorem so_call (G : FnOk X.prog X.w X.K X.mg X.base (L2.CX X.prog X.w) k f fd ps (spF X.K c.ca fn)) (hr : Room k X.A) (hm : X.mg x = some (.ref f)) (hk : PySem.W.keepIn X.K (.ref f) = true) (hb : Binds X.K fd ps []) (tk : Takes X c.W)
    (ha : PA X (e :: es) (tg X.K c ms)) (hg : Gl X x := by rfl) (hdb : (x == ("__debug__" : Str)) = false := by decide) (he : starEach (e :: es) X.env = (false, eval e X.env) :: starEach es X.env := by rfl) (hpl : (backTo pos (starEach es X.env)).any (·.1) = false := by rfl) :
    PE X (.Call (.Name x p) (e :: es) [] pos) (to X.K c (mCall fn ms)) := (pe_callS G hr hg hm hk hb (fun σ => passAt tk σ) ha hdb he hpl).imp fun σ H Q h => call_step h
end
def sSeq (a b : M Fl) : M Fl := fun ρ => (a ρ).bind fun f ρ1 => match f with
  | .nx => b ρ1
  | f => .ok f ρ1
def sNil : M Fl := fun ρ => .ok .nx ρ
def sSet (i : Nat) (m : M D) : M Fl := fun ρ => (m ρ).bind fun x ρ1 => .ok .nx (ρ1.set i (some (.d x)))
def sSetO (i : Nat) (m : M OV) : M Fl := fun ρ => (m ρ).bind fun o ρ1 => .ok .nx (ρ1.set i (some o))
def sRet (m : M OV) : M Fl := fun ρ => (m ρ).bind fun o ρ1 => .ok (.rt o) ρ1
def sDrop (m : M OV) : M Fl := fun ρ => (m ρ).bind fun _ ρ1 => .ok .nx ρ1
section
variable {X : Cx} {c : Ct} {e d : Expr} {st : Stmt} {rest xs ys : List Stmt} {pos pos' : Pos} {p1 p2 pu : Bool} {me : M D} {mo : M OV} {a b : M Fl} {x : Str} {t : M Bool}
theorem ss_nil : PSs X [] (ts X.K c sNil) := pss_nil.imp fun D σ H ⟨F, ρ, O, e, h⟩ => h σ F H O e
theorem ts_next {K : Frag} {m : M Fl} {D : Ends} {b : M Fl} {F H : Hp} {σ : Sl} {ρ : Env} {O : List Addr} (e : EnvR K c F H σ ρ O) (h : (sSeq m b ρ).post (PS' K c D) (PXs K c)) : ts K c m { D with nx := ts K c b D } σ H := by
  refine ⟨F, ρ, O, e, Res.post_imp (Res.post_bind h) (fun f ρ1 h1 => ?_) fun _ _ h => h⟩
  cases f with
  | nx => exact fun σ' F' H' O' e' => ⟨F', ρ1, O', e', h1⟩
  | bk => exact h1
  | ct => exact h1
  | rt o => exact h1
theorem ss_cons (h1 : PS X st (ts X.K c a)) (h2 : PSs X rest (ts X.K c b)) : PSs X (st :: rest) (ts X.K c (sSeq a b)) := (pss_cons h1 h2).imp fun D σ H ⟨F, ρ, O, e, h⟩ => ts_next e h
theorem ss_one (h1 : PS X st (ts X.K c a)) : PSs X [st] (ts X.K c a) := pss_one h1
theorem sv_if (ht : PT X d (tt X.K c pu t)) (ha : PSs X xs (ts X.K c a)) (hb : PSs X ys (ts X.K c b)) : PS X (.If d xs ys pos) (ts X.K c (mIf t a b)) := (ps_if ht ha hb).imp fun D σ H ⟨F, ρ, O, e, h⟩ => by
  refine tt_stepS e h fun x ρ1 F1 H1 O1 h1 e1 s1 p1 => ?_
  cases x with
  | true =>
    rw [if_pos rfl] at h1 ⊢
    exact ⟨F1, ρ1, O1, e1, h1⟩
  | false =>
    rw [if_neg Bool.false_ne_true] at h1 ⊢
    exact ⟨F1, ρ1, O1, e1, h1⟩
theorem slen (hi : X.N[i]? = some x) {pins : List (Addr × Obj)} {σ : Sl} {H : Hp} {s : Shared} (I : Inv X pins σ H s) : i < σ.length := by rw [I.len]; exact (List.getElem?_eq_some_iff.mp hi).1
theorem sv_set {i : Nat} (hN : X.N.Nodup) (he : PE X e (te X.K c false pu me)) (hi : X.N[i]? = some x := by rfl) (hx : Loc X.env.scope x := by first | exact Or.inl rfl | exact Or.inr rfl) (hs : swapsWith e (some (.Name x pos')) pos.line X.env = pure false := by rfl)
    (hc : (c.fx.all fun j => j != i) = true := by rfl) (hf : X.fn x = true ∨ X.env.scope.names.lookup x = some .local := by first | exact .inl rfl | exact .inr rfl) : PS X (.Assign [.Name x pos'] e pos) (ts X.K c (sSet i me)) := ⟨fun pins s σ H D I h => by
  refine (ps_set hN hi hx he hs hf).run pins s σ H D I ?_
  obtain ⟨F, ρ, O, e, h⟩ := h
  refine te_stepS e h fun x ρ1 F1 H1 O1 v h1 e1 s1 q1 v1 => ?_
  obtain ⟨O', e'⟩ := e1.putD v1 (slen hi I) hc
  exact h1 _ F1 H1 O' e'⟩
theorem sv_setO {i : Nat} (hN : X.N.Nodup) (he : PE X e (to X.K c mo)) (hi : X.N[i]? = some x := by rfl) (hx : Loc X.env.scope x := by first | exact Or.inl rfl | exact Or.inr rfl) (hs : swapsWith e (some (.Name x pos')) pos.line X.env = pure false := by rfl)
    (hc : (c.fx.all fun j => j != i) = true := by rfl) (hf : X.fn x = true ∨ X.env.scope.names.lookup x = some .local := by first | exact .inl rfl | exact .inr rfl) : PS X (.Assign [.Name x pos'] e pos) (ts X.K c (sSetO i mo)) := ⟨fun pins s σ H D I h => by
  refine (ps_set hN hi hx he hs hf).run pins s σ H D I ?_
  obtain ⟨F, ρ, O, e, h⟩ := h
  refine to_stepS e h fun x ρ1 F1 H1 O1 A v h1 e1 s1 r1 a1 => ?_
  obtain ⟨O', e'⟩ := e1.put r1 a1 (slen hi I) hc
  exact h1 _ F1 H1 O' e'⟩
theorem sv_ret (he : PE X e (to X.K c mo)) : PS X (.Return (some e) pos) (ts X.K c (sRet mo)) := (ps_ret he).imp fun D σ H ⟨F, ρ, O, e, h⟩ =>
  to_stepS e h fun o ρ1 F1 H1 O1 A v h1 e1 s1 r1 a1 => h1 σ F1 H1 O1 A v e1 r1 a1
theorem sv_expr (he : PE X e (to X.K c mo)) (hs : swapsWith e none pos.line X.env = pure false := by rfl) : PS X (.Expr e pos) (ts X.K c (sDrop mo)) := (ps_expr he hs).imp fun D σ H ⟨F, ρ, O, e, h⟩ =>
  to_stepS e h fun o ρ1 F1 H1 O1 A v h1 e1 s1 r1 a1 => h1 σ F1 H1 O1 e1
end
def outsOf (fx : List Nat) (ρ' : Env) : Nat → List OV → Env
  | _, [] => []
  | i, o :: os => (if fx.contains i = true then (match ρ'[i]? with
    | some w => w
    | none => none) else match o with
    | .d x => some (.d x)
    | _ => none) :: outsOf fx ρ' (i + 1) os
def fnOf (n np : Nat) (fx : List Nat) (m : M Fl) : Fn := fun os => if os.length = np then (match m (os.map some ++ List.replicate (n - np) none) with
  | .ok (.rt o) ρ' => .ok o (outsOf fx ρ' 0 os)
  | .ok .nx ρ' => .ok (.d .none) (outsOf fx ρ' 0 os)
  | .ok _ _ => .bad
  | .ex ξ _ => .ex ξ
  | .bad => .bad) else .bad
section
variable {K : Frag} {ca : Str → Addr} {F H : Hp}
theorem SlR.none (K : Frag) (ca : Str → Addr) (F H : Hp) : ∀ σ : Sl, SlR K ca F H σ (List.replicate σ.length none) []
  | [] => .nil
  | _ :: σ => .no (SlR.none K ca F H σ)
theorem SlR.append : ∀ {σ τ : Sl} {ρ π : Env} {O B : List Addr}, SlR K ca F H σ ρ O → SlR K ca F H τ π B → SlR K ca F H (σ ++ τ) (ρ ++ π) (O ++ B)
  | _, _, _, _, _, _, .nil, s => s
  | _, _, _, _, _, _, .no r, s => .no (r.append s)
  | _, _, _, _, _, _, .so (A := A) (O := O) h r, s => by
    rw [List.append_assoc]
    exact .so h (r.append s)
theorem outs_ok {fx : List Nat} : ∀ {os : List OV} {vs : List V} {ρ' : Env} {σ' : Sl} {O B : List Addr} (i : Nat) (F0 H0 : Hp) (pre : Sl), SlR K ca F0 H0 (vs.map some) (os.map some) B → Same F0 F → SlR K ca F H σ' ρ' O → O.Nodup →
    (∀ j ∈ fx, i ≤ j → σ'[j]? = (vs.map some)[j - i]? ∨ (vs.map some)[j - i]? = Option.none) → ∃ B' R, SlR K ca F H (vs.map some) (outsOf fx ρ' i os) B' ∧ O.Perm (B' ++ R)
  | [], [], ρ', σ', O, B, i, F0, H0, pre, h, s, e, n, k => ⟨[], O, .nil, List.Perm.refl _⟩
  | [], v :: vs, _, _, _, _, _, _, _, _, h, _, _, _, _ => by cases h
  | o :: os, [], _, _, _, _, _, _, _, _, h, _, _, _, _ => by cases h
  | o :: os, v :: vs, ρ', σ', O, B, i, F0, H0, pre, h, s, e, n, k => by
    have h' : SlR K ca F0 H0 (some v :: vs.map some) (some o :: os.map some) B := h
    cases h' with
    | so g r =>
      have k' : ∀ j ∈ fx, i + 1 ≤ j → σ'[j]? = (vs.map some)[j - (i + 1)]? ∨ (vs.map some)[j - (i + 1)]? = Option.none := fun j hj hl => by
        have q := k j hj (by omega)
        have e1 : j - i = (j - (i + 1)) + 1 := by omega
        rw [e1, List.map_cons, List.getElem?_cons_succ] at q
        exact q
      by_cases hi : fx.contains i = true
      · have q := k i (by simpa using hi) (Nat.le_refl _)
        rw [Nat.sub_self, List.map_cons, List.getElem?_cons_zero] at q
        have q : σ'[i]? = some (some v) := by
          rcases q with q | q
          · exact q
          · cases q
        cases w : ρ'[i]? with
        | none =>
          obtain ⟨B', R, z1, z2⟩ := outs_ok (os := os) (i + 1) F0 H0 pre r s e n k'
          refine ⟨B', R, ?_, z2⟩
          unfold outsOf
          rw [if_pos hi, w]
          exact .no z1
        | some w' =>
          cases w' with
          | none =>
            obtain ⟨B', R, z1, z2⟩ := outs_ok (os := os) (i + 1) F0 H0 pre r s e n k'
            refine ⟨B', R, ?_, z2⟩
            unfold outsOf
            rw [if_pos hi, w]
            exact .no z1
          | some o' =>
            obtain ⟨v', A, R, t1, t2, t3, t4⟩ := e.at w
            rw [q] at t1; cases t1
            obtain ⟨u1, _⟩ := t4 F H (Same.refl _) fun _ _ => rfl
            have nd := t3.nodup_iff.mp n
            -- the others' outs off the slots without i
            have oo : outsOf fx ρ' (i + 1) os = outsOf fx (ρ'.set i none) (i + 1) os := by
              have gen : ∀ (os : List OV) (j : Nat), i < j → outsOf fx ρ' j os = outsOf fx (ρ'.set i none) j os := by
                intro os
                induction os with
                | nil => intro j _; rfl
                | cons o os ih =>
                  intro j hj
                  unfold outsOf
                  rw [ih (j + 1) (by omega), List.getElem?_set_ne (Nat.ne_of_lt hj)]
              exact gen os (i + 1) (Nat.lt_succ_self i)
            obtain ⟨B', R', z1, z2⟩ := outs_ok (os := os) (i + 1) F0 H0 pre r s u1 (List.nodup_append.mp nd).2.1 k'
            refine ⟨A ++ B', R', ?_, ?_⟩
            · unfold outsOf
              rw [if_pos hi, w, oo]
              exact .so t2 z1
            · rw [List.append_assoc]
              exact t3.trans (List.Perm.append_left A z2)
      · obtain ⟨B', R, z1, z2⟩ := outs_ok (os := os) (i + 1) F0 H0 pre r s e n k'
        refine ⟨B', R, ?_, z2⟩
        unfold outsOf
        rw [if_neg hi]
        cases o with
        | d x =>
          cases g with
          | d g => exact .so (.d (g.mono s)) z1
        | lst _ => exact .no z1
        | dct _ => exact .no z1
        | dctT _ => exact .no z1
        | obj _ _ => exact .no z1
end
section
variable {P : Program} {w : World} {K : Frag} {mg : Str → Option Value} {base : Heap} {x qual : Str} {params : Arguments} {body : List Stmt} {scope : Scope} {dvs : List V} {kws : List (Str × V)} {f : Addr} {fd : FuncData} {N ps : List Str} {k : Nat}
theorem fn_rule {ca : Str → Addr} {m : M Fl} (fx : List Nat) (Fd : FunD K x qual params body scope dvs kws f fd) (S : FnScope N ps scope)
    (hb : ∀ (cdv : Value) (A : Around) (outer : List PySem.Env) (s : Shared) (H : Hp) (E : XK) (F : Hp) (O : List Addr) (σ : Sl), Room k (A.deeper (envOfC qual scope s.heap.objs.size f cdv)) →
      Takes (cxOf (L2.CX P w) P w K mg base N qual scope f cdv A outer s H E) (fun cls d _ H' => E cls d H') →
      PSs (cxOf (L2.CX P w) P w K mg base N qual scope f cdv A outer s H E) body (ts K ⟨ca, F, H, O, fx, σ, fun cls d _ H' => E cls d H'⟩ m)) :
    FnOk P w K mg base (L2.CX P w) (k + 1) f fd ps (spF K ca (fnOf N.length ps.length fx m)) := by
  have lenO : ∀ {os : List OV} {vs : List V} {H : Hp} {F : Hp} {O : List Addr}, SlR K ca F H (vs.map some) (os.map some) O → vs.length = os.length := fun {os vs H F O} h => by
    have := h.length
    rwa [List.length_map, List.length_map] at this
  refine Fd.ok S (fun vs H Q E h => ?_) fun cdv A outer s H vs Q E hr h => ?_
  · obtain ⟨F, os, O, h1, h2, h3, h4, h5⟩ := h
    rw [lenO h2]
    unfold fnOf at h5
    by_cases hl : os.length = ps.length
    · exact hl
    · rw [if_neg hl] at h5
      exact h5.elim
  · obtain ⟨F, os, O, h1, h2, h3, h4, h5⟩ := h
    unfold fnOf at h5
    by_cases hl : os.length = ps.length
    · rw [if_pos hl] at h5
      refine ⟨_, hb cdv A outer s H E F O (start N vs) hr (takes_of rfl rfl rfl rfl), F, os.map some ++ List.replicate (N.length - ps.length) none, O, ?_, ?_⟩
      · refine ⟨h1, Same.refl _, fun b o q _ => q, fun b _ _ q => q, ?_, h3, fun p hp => ⟨h4 p hp, .inl hp⟩, fun i _ => rfl⟩
        have z := h2.append (SlR.none K ca F H (List.replicate (N.length - vs.length) none))
        rw [List.append_nil, List.length_replicate, lenO h2, hl] at z
        unfold L2.start
        rw [lenO h2, hl]
        exact z
      · -- the end
        have fin : ∀ {σ' : Sl} {F' H' : Hp} {O' : List Addr} {ρ' : Env}, EnvR K ⟨ca, F, H, O, fx, start N vs, fun cls d _ H' => E cls d H'⟩ F' H' σ' ρ' O' →
            FnEnd F H O F' H' ∧ ∃ B R, SlR K ca F' H' (vs.map some) (outsOf fx ρ' 0 os) B ∧ O'.Perm (B ++ R) := fun {σ' F' H' O' ρ'} e => by
          refine ⟨⟨e.f0, e.sub, e.h0, fun b h1 h2 h3 => e.n0 b h1 h2 h3⟩, ?_⟩
          refine outs_ok 0 F H σ' h2 e.f0 e.sl e.nd fun j hj _ => ?_
          have q := e.fx j hj
          rw [q, Nat.sub_zero]
          unfold L2.start
          by_cases hj2 : j < (vs.map some).length
          · exact .inl (List.getElem?_append_left hj2)
          · exact .inr (List.getElem?_eq_none (Nat.le_of_not_lt hj2))
        cases r : m (os.map some ++ List.replicate (N.length - ps.length) none) with
        | bad => rw [r] at h5; exact h5.elim
        | ex ξ ρ' =>
          rw [r] at h5
          exact fun σ' F' H' O' cls d e x => h5 F' H' cls d (fin e).1 x
        | ok fl ρ' =>
          rw [r] at h5
          cases fl with
          | bk => exact h5.elim
          | ct => exact h5.elim
          | nx =>
            intro σ' F' H' O' e
            obtain ⟨n, B, R, z1, z2⟩ := fin e
            have nd := z2.nodup_iff.mp e.nd
            exact h5 F' H' .non [] B n z1 (.d .non) (List.nodup_append.mp nd).1 fun p hp => e.ow p (z2.mem_iff.mpr (by simp at hp; simp [hp]))
          | rt o =>
            intro σ' F' H' O' A1 v e r1 a1
            obtain ⟨n, B, R, z1, z2⟩ := fin e
            have nd := z2.nodup_iff.mp e.nd
            obtain ⟨q1, q2, q3⟩ := List.nodup_append.mp a1.nd
            refine h5 F' H' v A1 B n z1 r1 (List.nodup_append.mpr ⟨q1, (List.nodup_append.mp nd).1, fun x hx y hy => q3 x hx y (z2.mem_iff.mpr (by simp [hy]))⟩) fun p hp => ?_
            rcases List.mem_append.mp hp with z | z
            · exact a1.ow p z
            · exact e.ow p (z2.mem_iff.mpr (by simp [z]))
    · rw [if_neg hl] at h5
      exact h5.elim
end
end DL
end
section
set_option maxRecDepth 100000
set_option maxHeartbeats 2000000
namespace DL
open PySem PySem.Spec PyProof.Rows L2
section
variable {K : Frag} {F H : Hp} {v : V}
theorem inv_int {i : Int} (h : RpB K F H v (.int i)) : v = .int i := by cases h with | d r => cases r; rfl
theorem inv_str {x : Str} (h : RpB K F H v (.str x)) : v = .str x := by cases h with | d r => cases r; rfl
theorem inv_bool {b : Bool} (h : RpB K F H v (.bool b)) : v = .bl b := by cases h with | d r => cases r; rfl
theorem inv_none (h : RpB K F H v .none) : v = .non := by cases h with | d r => cases r; rfl
theorem inv_list {ds : List D} (s : Same F H) (h : RpB K F H v (.list ds)) : ∃ p vs, v = .ref p ∧ H p = some (.lst vs) ∧ RpAll K F vs ds := by
  cases h with
  | d r => cases r with | lst h r => exact ⟨_, _, rfl, s _ _ h, r⟩
  | lst h r => exact ⟨_, _, rfl, h, r⟩
theorem inv_tup {ds : List D} (h : RpB K F H v (.tuple ds)) : ∃ p vs, v = .ref p ∧ SqT K F p vs ∧ RpAll K F vs ds := by
  cases h with
  | d r => cases r with | tup h r => exact ⟨_, _, rfl, h, r⟩
theorem zip_head {α β γ : Type} {f : α → γ} {kvs : List α} {ds : List β} {x : γ} {y : β} {r : List (γ × β)} (h : (kvs.map f).zip ds = (x, y) :: r) : ∃ a, a ∈ kvs ∧ f a = x := by
  cases kvs with
  | nil => simp at h
  | cons a kvs =>
    cases ds with
    | nil => simp at h
    | cons d ds =>
      simp at h
      exact ⟨a, List.mem_cons_self, h.1.1⟩
theorem inv_scr {ds : List D} (s : Same F H) (h : RpB K F H v (.dict [(.none, .list ds)])) : ∃ p vs, v = .ref p ∧ SqL K H p vs ∧ RpAll K F vs ds := by
  have no : ∀ {k : Key}, kD k ≠ PyData.none := fun {k} e => by cases k <;> cases e
  generalize e : PyData.dict [(PyData.none, PyData.list ds)] = z at h
  cases h with
  | d r =>
    cases r with
    | scr h r =>
      cases e
      exact ⟨_, _, rfl, sq_l s h, r⟩
    | dcK h r =>
      obtain ⟨a, _, e2⟩ := zip_head (PyData.dict.inj e).symm
      exact absurd e2 no
    | _ => cases e
  | lst h r => cases e
  | dcK h r =>
    obtain ⟨a, _, e2⟩ := zip_head (PyData.dict.inj e).symm
    exact absurd e2 no
end
mutual
theorem Rp.dp {K : Frag} {F : Hp} : ∀ {v : V} {x : D}, Rp K F v x → x.canLay0 = true → Dp K F v x
  | _, _, .non, _ => .non
  | _, _, .bl b, _ => .bl b
  | _, _, .int i, _ => .int i
  | _, _, .str x, _ => .str x
  | _, _, .lst h r, q => .lst (.of h) (RpAll.dp r q)
  | _, _, .tup h r, q => .tup h (RpAll.dp r q)
  | _, _, .scr _ _, q => by simp [PyData.canLay0] at q
  | _, _, .dcK _ _, q => by simp [PyData.canLay0] at q
theorem RpAll.dp {K : Frag} {F : Hp} : ∀ {vs : List V} {xs : List D}, RpAll K F vs xs → PyData.canLayAll0 xs = true → DpAll K F vs xs
  | _, _, .nil, _ => .nil
  | _, _, .cons h r, q => by
    obtain ⟨q1, q2⟩ : _ ∧ _ := by simpa [PyData.canLayAll0] using q
    exact .cons (Rp.dp h q1) (RpAll.dp r q2)
end
section
variable {X : Cx}
theorem opr_imp {f : Value → Value → Sem Value} {r r' : R2} (h : OpR X f r) (k : ∀ v w H Q, r' v w H Q → r v w H Q) : OpR X f r' := fun pins s σ H x y v u Q I rx ry q => h pins s σ H x y v u Q I rx ry (k x y H Q q)
def addD : D → D → Option D
  | .int i, .int j => some (.int (i + j))
  | .str x, .str y => if x.length + y.length ≤ sizeLine then some (.str (x ++ y)) else none
  | .tuple xs, .tuple ys => if xs.length + ys.length ≤ sizeLine then some (.tuple (xs ++ ys)) else none
  | .list xs, .list ys => if xs.length + ys.length ≤ sizeLine then some (.list (xs ++ ys)) else none
  | _, _ => none
theorem od_add : OpR X (binaryOp .Add) (rD X.K addD) := by
  refine opr_imp (op_add.or (op_add_str.or (op_catA.or op_cat))) fun v w H Q ⟨F, x, y, z, s, rv, rw', hz, q⟩ => ?_
  unfold addD at hz
  split at hz
  · cases hz
    exact .inl ⟨_, _, inv_int rv, inv_int rw', q F H _ (New.refl s) (.int _)⟩
  · split at hz
    · rename_i hl
      cases hz
      exact .inr (.inl ⟨_, _, inv_str rv, inv_str rw', hl, q F H _ (New.refl s) (.str _)⟩)
    · cases hz
  · split at hz
    · rename_i hl
      cases hz
      obtain ⟨a, vs, e1, h1, r1⟩ := inv_tup rv
      obtain ⟨b, ws, e2, h2, r2⟩ := inv_tup rw'
      refine .inr (.inr (.inl ⟨a, b, vs, ws, e1, e2, sq_t s h1, sq_t s h2, by rw [r1.length, r2.length]; exact hl, fun e => ?_, fun _ e => ?_, fun _ _ p hp => ?_⟩))
      · subst e
        cases r1
        exact q F H _ (New.refl s) (.tup h2 r2)
      · subst e
        cases r2
        rw [List.append_nil] at q
        exact q F H _ (New.refl s) (.tup h1 r1)
      · have n := New.one s hp (.tup (vs ++ ws))
        exact q _ _ _ n (.tup (.of upd_same) ((r1.append r2).mono n.fF))
    · cases hz
  · split at hz
    · rename_i hl
      cases hz
      obtain ⟨a, vs, e1, h1, r1⟩ := inv_list s rv
      obtain ⟨b, ws, e2, h2, r2⟩ := inv_list s rw'
      refine .inr (.inr (.inr ⟨a, b, vs, ws, e1, e2, h1, h2, by rw [r1.length, r2.length]; exact hl, fun p hp => ?_⟩))
      have n := New.one s hp (.lst (vs ++ ws))
      exact q _ _ _ n (.lst upd_same ((r1.append r2).mono n.fF))
    · cases hz
  · cases hz
def subD : D → D → Option D
  | .int i, .int j => some (.int (i - j))
  | _, _ => none
theorem od_sub : OpR X (binaryOp .Sub) (rD X.K subD) := by
  refine opr_imp op_sub fun v w H Q ⟨F, x, y, z, s, rv, rw', hz, q⟩ => ?_
  unfold subD at hz
  split at hz
  · cases hz
    exact ⟨_, _, inv_int rv, inv_int rw', q F H _ (New.refl s) (.int _)⟩
  · cases hz
instance : DecidableRel CMulW := fun i j => inferInstanceAs (Decidable (i.natAbs.log2 + j.natAbs.log2 < 1000000))
instance : DecidableRel CDivW := fun _ j => inferInstanceAs (Decidable (0 < j ∧ j.natAbs.log2 < 9000))
theorem rep_size (c : Array Nat) : ∀ (n : Nat) (a : Array Nat), ((List.replicate n c).foldl (· ++ ·) a).size = a.size + n * c.size
  | 0, a => by simp
  | n + 1, a => by
    rw [List.replicate_succ, List.foldl_cons, rep_size c n, Array.size_append, Nat.succ_mul]
    omega
def repS (z : Str) (n : Nat) : Str := ⟨(List.replicate n z.cps).foldl (· ++ ·) #[]⟩
theorem op_mulS : OpR X (binaryOp .Mult) (fun x y H Q => ∃ z n, x = .str z ∧ y = .int n ∧ 1 < n ∧ n < 2 ^ 20 ∧ 0 < z.length ∧ z.length * n.toNat ≤ 4096 ∧ Q (.str (repS z n.toNat)) H) := by
  intro pins s σ H x y v u Q I rx ry h
  obtain ⟨z, n, rfl, rfl, h1, h2, h3, h4, q⟩ := h
  obtain ⟨t, rfl⟩ := rx
  obtain ⟨t', rfl⟩ := ry
  have c1 : ¬ n < 1 := by omega
  have c2 : (n == 1 || z.length == 0) = false := by
    have a : (n == 1) = false := beq_eq_false_iff_ne.mpr (by omega)
    have b : (z.length == 0) = false := beq_eq_false_iff_ne.mpr (by omega)
    rw [a, b]; rfl
  refine PySem.P.mul_str (by
    have a : ¬ n < -(2 ^ 63 : Int) := by omega
    have b : ¬ n ≥ 2 ^ 63 := by omega
    rw [decide_eq_false a, decide_eq_false b]; rfl) (fun _ _ => ?_) (fun _ _ => ?_) ?_
  · have hz : (z.length : Int) ≤ 4096 := by
      have : z.length * 1 ≤ z.length * n.toNat := Nat.mul_le_mul_left _ (by omega)
      omega
    have : (4096 : Int) ≤ (2 ^ 63 - 1) / n := by
      refine (Int.le_ediv_iff_mul_le (by omega)).mpr ?_
      omega
    omega
  · have : (4096 : Nat) ≤ sizeLine := by decide
    exact decide_eq_false (by omega)
  · rw [if_neg c1, c2]
    refine ⟨?_, ⟨.str (repS z n.toNat), H, I.tok _, ⟨_, rfl⟩, q⟩⟩
    have : (4096 : Nat) ≤ sizeLine := by decide
    show ((List.replicate n.toNat z.cps).foldl (· ++ ·) #[]).size ≤ sizeLine
    rw [rep_size]
    have e : n.toNat * z.cps.size = z.length * n.toNat := Nat.mul_comm _ _
    rw [e]
    simp
    omega
def mulD : D → D → Option D
  | .str z, .int n => if 1 < n ∧ n < 2 ^ 20 ∧ 0 < z.length ∧ z.length * n.toNat ≤ 4096 then some (.str (repS z n.toNat)) else none
  | .int i, .int j => if CMulW i j then some (.int (i * j)) else none
  | .list xs, .int k => if -(2 ^ 63) ≤ k ∧ k < 2 ^ 63 ∧ xs.length * k.toNat ≤ sizeLine then some (.list (List.replicate k.toNat xs).flatten) else none
  | _, _ => none
theorem RpAll.rep {K : Frag} {F : Hp} {vs : List V} {xs : List D} (h : RpAll K F vs xs) : ∀ k : Nat, RpAll K F (List.replicate k vs).flatten (List.replicate k xs).flatten
  | 0 => .nil
  | k + 1 => by
    rw [List.replicate_succ, List.replicate_succ, List.flatten_cons, List.flatten_cons]
    exact h.append (RpAll.rep h k)
theorem od_mul : OpR X (binaryOp .Mult) (rD X.K mulD) := by
  refine opr_imp (op_mulS.or (op_mulW.or op_rep)) fun v w H Q ⟨F, x, y, z, s, rv, rw', hz, q⟩ => ?_
  unfold mulD at hz
  split at hz
  · split at hz
    · rename_i hc
      cases hz
      exact .inl ⟨_, _, inv_str rv, inv_int rw', hc.1, hc.2.1, hc.2.2.1, hc.2.2.2, q F H _ (New.refl s) (.str _)⟩
    · cases hz
  · split at hz
    · rename_i hc
      cases hz
      exact .inr (.inl ⟨_, _, inv_int rv, inv_int rw', hc, q F H _ (New.refl s) (.int _)⟩)
    · cases hz
  · split at hz
    · rename_i hc
      cases hz
      obtain ⟨a, vs, e1, h1, r1⟩ := inv_list s rv
      refine .inr (.inr ⟨a, _, vs, e1, inv_int rw', h1, hc.1, hc.2.1, by rw [r1.length]; exact hc.2.2, fun p hp => ?_⟩)
      exact q _ _ _ (New.one s hp _) (.lst upd_same ((r1.rep _).mono (New.one s hp _).fF))
    · cases hz
  · cases hz
def divD : D → D → Option D
  | .int i, .int j => if CDivW i j then some (.int (i / j)) else none
  | _, _ => none
theorem od_div : OpR X (binaryOp .FloorDiv) (rD X.K divD) := by
  refine opr_imp op_fdivW fun v w H Q ⟨F, x, y, z, s, rv, rw', hz, q⟩ => ?_
  unfold divD at hz
  split at hz
  · split at hz
    · rename_i hc
      cases hz
      exact ⟨_, _, inv_int rv, inv_int rw', hc, q F H _ (New.refl s) (.int _)⟩
    · cases hz
  · cases hz
def modD : D → D → Option D
  | .int i, .int j => if 0 < j then some (.int (i % j)) else none
  | _, _ => none
theorem od_mod : OpR X (binaryOp .Mod) (rD X.K modD) := by
  refine opr_imp op_mod fun v w H Q ⟨F, x, y, z, s, rv, rw', hz, q⟩ => ?_
  unfold modD at hz
  split at hz
  · split at hz
    · rename_i hc
      cases hz
      exact ⟨_, _, inv_int rv, inv_int rw', hc, q F H _ (New.refl s) (.int _)⟩
    · cases hz
  · cases hz
instance : DecidableRel CPow := fun i j => inferInstanceAs (Decidable (0 ≤ j ∧ j ≤ 1000000 ∧ i.natAbs < 2 ^ 64))
def powD : D → D → Option D
  | .int i, .int j => if CPow i j then some (.int (i ^ j.toNat)) else none
  | _, _ => none
theorem od_pow : OpR X (binaryOp .Pow) (rD X.K powD) := by
  refine opr_imp op_pow fun v w H Q ⟨F, x, y, z, s, rv, rw', hz, q⟩ => ?_
  unfold powD at hz
  split at hz
  · split at hz
    · rename_i hc
      cases hz
      exact ⟨_, _, inv_int rv, inv_int rw', hc, q F H _ (New.refl s) (.int _)⟩
    · cases hz
  · cases hz
def ltD : D → D → Option D
  | .int i, .int j => some (.bool (decide (i < j)))
  | _, _ => none
def leD : D → D → Option D
  | .int i, .int j => some (.bool (decide (i ≤ j)))
  | _, _ => none
def gtD : D → D → Option D
  | .int i, .int j => some (.bool (decide (j < i)))
  | _, _ => none
def geD : D → D → Option D
  | .int i, .int j => some (.bool (decide (j ≤ i)))
  | _, _ => none
theorem od_lt : OpR X (compareOp .Lt) (rD X.K ltD) := by
  refine opr_imp op_lt fun v w H Q ⟨F, x, y, z, s, rv, rw', hz, q⟩ => ?_
  unfold ltD at hz
  split at hz
  · cases hz
    exact ⟨_, _, inv_int rv, inv_int rw', q F H _ (New.refl s) (.bl _)⟩
  · cases hz
theorem od_le : OpR X (compareOp .LtE) (rD X.K leD) := by
  refine opr_imp op_le fun v w H Q ⟨F, x, y, z, s, rv, rw', hz, q⟩ => ?_
  unfold leD at hz
  split at hz
  · cases hz
    exact ⟨_, _, inv_int rv, inv_int rw', q F H _ (New.refl s) (.bl _)⟩
  · cases hz
theorem od_gt : OpR X (compareOp .Gt) (rD X.K gtD) := by
  refine opr_imp op_gt fun v w H Q ⟨F, x, y, z, s, rv, rw', hz, q⟩ => ?_
  unfold gtD at hz
  split at hz
  · cases hz
    exact ⟨_, _, inv_int rv, inv_int rw', q F H _ (New.refl s) (.bl _)⟩
  · cases hz
theorem od_ge : OpR X (compareOp .GtE) (rD X.K geD) := by
  refine opr_imp op_ge fun v w H Q ⟨F, x, y, z, s, rv, rw', hz, q⟩ => ?_
  unfold geD at hz
  split at hz
  · cases hz
    exact ⟨_, _, inv_int rv, inv_int rw', q F H _ (New.refl s) (.bl _)⟩
  · cases hz
def eqD : D → D → Option D
  | .str x, .str y => some (.bool (decide (x = y)))
  | .list (_ :: _), .list [] => some (.bool false)
  | x, y => if SeqAt.shaped x = true ∧ SeqAt.shaped y = true then some (.bool (PyData.eqv x y)) else none
def neD : D → D → Option D
  | .str x, .str y => some (.bool (!decide (x = y)))
  | .list (_ :: _), .list [] => some (.bool true)
  | x, y => if SeqAt.shaped x = true ∧ SeqAt.shaped y = true then some (.bool (!PyData.eqv x y)) else none
theorem dec_vstr (x y : Str) : decide (V.str x = V.str y) = decide (x = y) := by
  by_cases h : x = y
  · rw [decide_eq_true h, h, decide_eq_true rfl]
  · rw [decide_eq_false h, decide_eq_false fun e => h (V.str.inj e)]
theorem dp_of {K : Frag} {F H : Hp} {v : V} {x : D} (s : Same F H) (h : RpB K F H v x) (q : SeqAt.shaped x = true) : Dp K H v x := by
  have q := SeqAt.canLay_of_shaped q
  cases h with
  | d r => exact (r.mono s).dp q
  | lst h r => exact .lst (.of h) (RpAll.dp (r.mono s) (by simpa [PyData.canLay0] using q))
  | dcK _ _ => simp [PyData.canLay0] at q
theorem lst_of {K : Frag} {F H : Hp} {v : V} {ds : List D} (s : Same F H) (h : RpB K F H v (.list ds)) : ∃ a xs, v = .ref a ∧ SqL K H a xs ∧ xs.length = ds.length := by
  cases h with
  | d r => cases r with
    | lst h r => exact ⟨_, _, rfl, .of (s _ _ h), r.length⟩
  | lst h r => exact ⟨_, _, rfl, .of h, r.length⟩
def rLen (K : Frag) (b : Bool) : R2 := fun x y H Q => ∃ a c xs ys, x = .ref a ∧ y = .ref c ∧ SqL K H a xs ∧ SqL K H c ys ∧ xs.length ≠ ys.length ∧ Q (.bl b) H
theorem op_eqLen (hu : X.A.units + 64 < cLine) : OpR X (compareOp .Eq) (rLen X.K false) := by
  intro pins s σ H x y v u Q I rx ry h
  obtain ⟨a, b, xs, ys, rfl, rfl, ha, hb, hl, q⟩ := h
  cases (show v = Value.ref a from rx)
  cases (show u = Value.ref b from ry)
  obtain ⟨us, r1, p1, _⟩ := I.list ha
  obtain ⟨ws, r2, p2, _⟩ := I.list hb
  have hz : (us.toArray.size != ws.toArray.size) = true := by
    rw [List.size_toArray, List.size_toArray, ← r1.length, ← r2.length]
    simpa using hl
  exact SeqAt.RcAt.lists_lengths p1.isList p2.isList hz (by omega) X.prog X.w X.xe _ ⟨.bl false, H, I, rfl, q⟩
theorem op_neLen (hu : X.A.units + 64 < cLine) : OpR X (compareOp .NotEq) (rLen X.K true) := by
  intro pins s σ H x y v u Q I rx ry h
  obtain ⟨a, b, xs, ys, rfl, rfl, ha, hb, hl, q⟩ := h
  cases (show v = Value.ref a from rx)
  cases (show u = Value.ref b from ry)
  obtain ⟨us, r1, p1, _⟩ := I.list ha
  obtain ⟨ws, r2, p2, _⟩ := I.list hb
  have hz : (us.toArray.size != ws.toArray.size) = true := by
    rw [List.size_toArray, List.size_toArray, ← r1.length, ← r2.length]
    simpa using hl
  exact SeqAt.RcNeAt.lists_lengths p1.isList p2.isList hz (by omega) X.prog X.w X.xe _ ⟨.bl true, H, I, rfl, q⟩
theorem od_eq (hu : X.A.units + 64 < cLine) : OpR X (compareOp .Eq) (rD X.K eqD) := by
  refine opr_imp ((op_eq.or (op_eqD hu)).or (op_eqLen hu)) fun v w H Q ⟨F, x, y, z, s, rv, rw', hz, q⟩ => ?_
  unfold eqD at hz
  split at hz
  · cases hz
    rw [inv_str rv, inv_str rw']
    refine .inl (.inl ⟨rfl, ?_⟩)
    rw [dec_vstr]
    exact q F H _ (New.refl s) (.bl _)
  · cases hz
    obtain ⟨a, xs, rfl, h1, l1⟩ := lst_of s rv
    obtain ⟨b, ys, rfl, h2, l2⟩ := lst_of s rw'
    exact .inr ⟨a, b, xs, ys, rfl, rfl, h1, h2, by rw [l1, l2]; simp, q F H _ (New.refl s) (.bl _)⟩
  · split at hz
    · rename_i hc
      cases hz
      exact .inl (.inr ⟨_, _, dp_of s rv hc.1, dp_of s rw' hc.2, hc.1, hc.2, q F H _ (New.refl s) (.bl _)⟩)
    · cases hz
theorem od_ne (hu : X.A.units + 64 < cLine) : OpR X (compareOp .NotEq) (rD X.K neD) := by
  refine opr_imp ((op_ne.or (op_neD hu)).or (op_neLen hu)) fun v w H Q ⟨F, x, y, z, s, rv, rw', hz, q⟩ => ?_
  unfold neD at hz
  split at hz
  · cases hz
    rw [inv_str rv, inv_str rw']
    refine .inl (.inl ⟨rfl, ?_⟩)
    rw [dec_vstr]
    exact q F H _ (New.refl s) (.bl _)
  · cases hz
    obtain ⟨a, xs, rfl, h1, l1⟩ := lst_of s rv
    obtain ⟨b, ys, rfl, h2, l2⟩ := lst_of s rw'
    exact .inr ⟨a, b, xs, ys, rfl, rfl, h1, h2, by rw [l1, l2]; simp, q F H _ (New.refl s) (.bl _)⟩
  · split at hz
    · rename_i hc
      cases hz
      exact .inl (.inr ⟨_, _, dp_of s rv hc.1, dp_of s rw' hc.2, hc.1, hc.2, q F H _ (New.refl s) (.bl _)⟩)
    · cases hz
def isD : D → D → Option D
  | .none, .none => some (.bool true)
  | .bool a, .bool b => some (.bool (decide (a = b)))
  | _, .none => some (.bool false)
  | _, _ => none
theorem non_of {K : Frag} {F H : Hp} {v : V} {x : D} (h : RpB K F H v x) (e : x ≠ .none) : v ≠ .non := by
  cases h with
  | d r => cases r with
    | non => exact absurd rfl e
    | _ => intro q; cases q
  | _ => intro q; cases q
theorem isD_bool {x y z : D} (h : isD x y = some z) : ∃ b, z = .bool b := by
  unfold isD at h
  split at h <;> first | (cases h; exact ⟨_, rfl⟩) | cases h
theorem is_cases {K : Frag} {F H : Hp} {v w : V} {x y : D} {b : Bool} (hz : isD x y = some (.bool b)) (rv : RpB K F H v x) (rw' : RpB K F H w y) : (w = .non ∧ b = decide (v = .non)) ∨ ∃ a c : Bool, v = .bl a ∧ w = .bl c ∧ b = decide (a = c) := by
  unfold isD at hz
  split at hz
  · cases hz
    exact .inl ⟨inv_none rw', by rw [inv_none rv] <;> rfl⟩
  · cases hz
    exact .inr ⟨_, _, inv_bool rv, inv_bool rw', rfl⟩
  · rename_i x' hne
    cases hz
    refine .inl ⟨inv_none rw', (decide_eq_false (non_of rv fun e => ?_)).symm⟩
    first
      | exact hne e
      | (subst e; contradiction)
  · cases hz
theorem od_is : OpR X (compareOp .Is) (rD X.K isD) := by
  refine opr_imp (op_isN.or op_isBl) fun v w H Q ⟨F, x, y, z, s, rv, rw', hz, q⟩ => ?_
  obtain ⟨b, rfl⟩ := isD_bool hz
  rcases is_cases hz rv rw' with ⟨e, rfl⟩ | ⟨a, c, e1, e2, rfl⟩
  · exact .inl ⟨e, q F H _ (New.refl s) (.bl _)⟩
  · exact .inr ⟨a, c, e1, e2, q F H _ (New.refl s) (.bl _)⟩
def allStr (xs : List D) : Option (List Str) := match xs with
  | [] => some []
  | .str x :: r => (allStr r).map fun l => x :: l
  | _ => none
def memD (x : D) (xs : List D) : Option Bool := match x, allStr xs with
  | .str z, some l => some (decide (z ∈ l))
  | _, _ => if SeqAt.shaped x = true ∧ SeqAt.shaped (.list xs) = true then some (xs.any fun y => PyData.eqv y x) else none
def strIn (x z : Str) : Bool := match x.cps.toList with
  | [c] => decide (c ∈ z.cps.toList)
  | _ => !(Builtin.Str.occurrences z x 0 z.length 1).isEmpty
theorem strIn_cases (x z : Str) : (∃ c, x = ⟨#[c]⟩ ∧ strIn x z = decide (c ∈ z.cps.toList)) ∨ strIn x z = !(Builtin.Str.occurrences z x 0 z.length 1).isEmpty := by
  unfold strIn
  split
  · rename_i c h
    refine .inl ⟨c, ?_, rfl⟩
    obtain ⟨a⟩ := x
    have e : a = #[c] := by
      apply Array.toList_inj.mp
      exact h
    rw [e]
  · exact .inr rfl
def inB : D → D → Option Bool
  | .str x, .str z => some (strIn x z)
  | x, .list xs => memD x xs
  | x, .tuple xs => memD x xs
  | _, _ => none
def inD (x y : D) : Option D := (inB x y).map .bool
def ninD (x y : D) : Option D := (inB x y).map fun b => .bool (!b)
theorem allStr_ok {K : Frag} {F : Hp} : ∀ {xs : List D} {l : List Str} {vs : List V}, allStr xs = some l → RpAll K F vs xs → vs = l.map V.str
  | [], l, vs, h, r => by
    cases r
    cases h
    rfl
  | x :: xs, l, vs, h, r => by
    cases r with
    | cons r1 r2 =>
      unfold allStr at h
      split at h
      · rename_i e
        cases e
      · rename_i z r' e
        cases e
        obtain ⟨l', h1, rfl⟩ := Option.map_eq_some_iff.mp h
        cases r1
        rw [allStr_ok h1 r2]
        rfl
      · cases h
theorem flat_strs' (l : List Str) : (l.map V.str).all flatV = true := by
  induction l with
  | nil => rfl
  | cons x l ih => rw [List.map_cons, List.all_cons, ih]; rfl
theorem inV_strs (z : Str) (l : List Str) : inV (.str z) (l.map V.str) = decide (z ∈ l) := by
  induction l with
  | nil => rfl
  | cons x l ih =>
    have e : inV (.str z) ((x :: l).map V.str) = ((x == z) || inV (.str z) (l.map V.str)) := rfl
    rw [e, ih]
    by_cases h : x = z
    · subst h; simp
    · have h2 : ¬ z = x := fun e => h e.symm
      simp [h, h2]
theorem sq_dp {K : Frag} {F H : Hp} {p : Addr} {vs : List V} {xs : List D} (s : Same F H) (h : SqT K F p vs) (r : RpAll K F vs xs) (q : SeqAt.shaped (.list xs) = true) : Dp K H (.ref p) (.tuple xs) :=
  .tup (sq_t s h) (RpAll.dp (r.mono s) (SeqAt.canLay_of_shaped q))
theorem room_all {A : Around} {x : D} {xs : List D} (h : SeqAt.shaped x = true) (hu : A.units + 65 < cLine) : A.units + 1 + min (PyData.depthAll xs) x.depth < cLine := by
  have h1 := SeqAt.depth_of_shaped h
  have h2 : min (PyData.depthAll xs) x.depth ≤ x.depth := Nat.min_le_right _ _
  omega
def rInTup (K : Frag) (neg : Bool) : R2 := fun x y H Q => ∃ d ds, Dp K H x d ∧ Dp K H y (.tuple ds) ∧ SeqAt.shaped d = true ∧ SeqAt.shaped (.list ds) = true ∧ Q (.bl (if neg then !(ds.any fun z => PyData.eqv z d) else ds.any fun z => PyData.eqv z d)) H
theorem or_inTup (hu : X.A.units + 65 < cLine) : OpR X (compareOp .In) (rInTup X.K false) := by
  intro pins s σ H x y v u Q I rx ry h
  obtain ⟨d, ds, hd, he, sd, se, q⟩ := h
  obtain ⟨as, r1⟩ := Dp.reads I d x v hd rx
  obtain ⟨bs, r2⟩ := Dp.reads I (.tuple ds) y u he ry
  exact SeqAt.in_tuple_reads r2 r1 (SeqAt.canLay_of_shaped se) (SeqAt.canLay_of_shaped sd) (room_all sd hu) ⟨.bl _, H, I, rfl, q⟩
theorem or_ninTup (hu : X.A.units + 65 < cLine) : OpR X (compareOp .NotIn) (rInTup X.K true) := by
  intro pins s σ H x y v u Q I rx ry h
  obtain ⟨d, ds, hd, he, sd, se, q⟩ := h
  obtain ⟨as, r1⟩ := Dp.reads I d x v hd rx
  obtain ⟨bs, r2⟩ := Dp.reads I (.tuple ds) y u he ry
  exact SeqAt.notIn_tuple_reads r2 r1 (SeqAt.canLay_of_shaped se) (SeqAt.canLay_of_shaped sd) (room_all sd hu) ⟨.bl _, H, I, rfl, q⟩
theorem mem_cases {x : D} {xs : List D} {b : Bool} (h : memD x xs = some b) : (∃ z l, x = .str z ∧ allStr xs = some l ∧ b = decide (z ∈ l)) ∨ (SeqAt.shaped x = true ∧ SeqAt.shaped (.list xs) = true ∧ b = xs.any fun y => PyData.eqv y x) := by
  unfold memD at h
  split at h
  · rename_i z l hl
    cases h
    exact .inl ⟨_, _, rfl, hl, rfl⟩
  · split at h
    · rename_i hc
      cases h
      exact .inr ⟨hc.1, hc.2, rfl⟩
    · cases h
theorem od_in (hu : X.A.units + 65 < cLine) : OpR X (compareOp .In) (rD X.K inD) := by
  refine opr_imp (op_in_sign.or (op_in_str.or (op_in_seq.or ((op_inD hu).or (or_inTup hu))))) fun v w H Q ⟨F, x, y, z, s, rv, rw', hz, q⟩ => ?_
  obtain ⟨b, hb, rfl⟩ := Option.map_eq_some_iff.mp hz
  have qq := q F H _ (New.refl s) (.bl b)
  unfold inB at hb
  split at hb
  · cases hb
    rename_i x z
    rcases strIn_cases x z with ⟨c, e, e2⟩ | e2
    · rw [e2] at qq
      exact .inl ⟨c, z, by rw [inv_str rv, e], inv_str rw', qq⟩
    · rw [e2] at qq
      exact .inr (.inl ⟨_, _, inv_str rv, inv_str rw', qq⟩)
  · obtain ⟨p, vs, e, h1, r1⟩ := inv_list s rw'
    rcases mem_cases hb with ⟨t, l, rfl, hl, rfl⟩ | ⟨c1, c2, rfl⟩
    · have ev := allStr_ok hl r1
      subst ev
      rw [inv_str rv]
      refine .inr (.inr (.inl ⟨p, _, e, .inl (.of h1), rfl, flat_strs' l, ?_⟩))
      rw [if_neg Bool.false_ne_true, inV_strs]
      exact qq
    · exact .inr (.inr (.inr (.inl ⟨_, _, dp_of s rv c1, dp_of s rw' c2, c1, c2, qq⟩)))
  · obtain ⟨p, vs, e, h1, r1⟩ := inv_tup rw'
    rcases mem_cases hb with ⟨t, l, rfl, hl, rfl⟩ | ⟨c1, c2, rfl⟩
    · have ev := allStr_ok hl r1
      subst ev
      rw [inv_str rv]
      refine .inr (.inr (.inl ⟨p, _, e, .inr (sq_t s h1), rfl, flat_strs' l, ?_⟩))
      rw [if_neg Bool.false_ne_true, inV_strs]
      exact qq
    · rw [e]
      refine .inr (.inr (.inr (.inr ⟨_, _, dp_of s rv c1, sq_dp s h1 r1 c2, c1, c2, ?_⟩)))
      rw [if_neg Bool.false_ne_true]
      exact qq
  · cases hb
theorem od_nin (hu : X.A.units + 65 < cLine) : OpR X (compareOp .NotIn) (rD X.K ninD) := by
  refine opr_imp (op_notIn_sign.or (op_notin_str.or (op_notIn_seq.or ((op_notInD hu).or (or_ninTup hu))))) fun v w H Q ⟨F, x, y, z, s, rv, rw', hz, q⟩ => ?_
  obtain ⟨b, hb, rfl⟩ := Option.map_eq_some_iff.mp hz
  have qq := q F H _ (New.refl s) (.bl (!b))
  unfold inB at hb
  split at hb
  · cases hb
    rename_i x z
    rcases strIn_cases x z with ⟨c, e, e2⟩ | e2
    · rw [e2] at qq
      exact .inl ⟨c, z, by rw [inv_str rv, e], inv_str rw', qq⟩
    · rw [e2] at qq
      exact .inr (.inl ⟨_, _, inv_str rv, inv_str rw', qq⟩)
  · obtain ⟨p, vs, e, h1, r1⟩ := inv_list s rw'
    rcases mem_cases hb with ⟨t, l, rfl, hl, rfl⟩ | ⟨c1, c2, rfl⟩
    · have ev := allStr_ok hl r1
      subst ev
      rw [inv_str rv]
      refine .inr (.inr (.inl ⟨p, _, e, .inl (.of h1), rfl, flat_strs' l, ?_⟩))
      rw [if_pos rfl, inV_strs]
      exact qq
    · exact .inr (.inr (.inr (.inl ⟨_, _, dp_of s rv c1, dp_of s rw' c2, c1, c2, qq⟩)))
  · obtain ⟨p, vs, e, h1, r1⟩ := inv_tup rw'
    rcases mem_cases hb with ⟨t, l, rfl, hl, rfl⟩ | ⟨c1, c2, rfl⟩
    · have ev := allStr_ok hl r1
      subst ev
      rw [inv_str rv]
      refine .inr (.inr (.inl ⟨p, _, e, .inr (sq_t s h1), rfl, flat_strs' l, ?_⟩))
      rw [if_pos rfl, inV_strs]
      exact qq
    · rw [e]
      refine .inr (.inr (.inr (.inr ⟨_, _, dp_of s rv c1, sq_dp s h1 r1 c2, c1, c2, ?_⟩)))
      rw [if_pos rfl]
      exact qq
  · cases hb
end
end DL
end
section
set_option maxRecDepth 100000
set_option maxHeartbeats 2000000
namespace DL
open PySem PySem.Spec PyProof.Rows L2
def PN (K : Frag) (c : Ct) (pu : Bool) (F H : Hp) (σ : Sl) (Q : VK) (xs : List D) (ρ' : Env) : Prop :=
  ∀ F' H' O' p vs, EnvR K c F' H' σ ρ' O' → Same F F' → (pu = true → Same H H') → H' p = some (.lst vs) → RpAll K F' vs xs → Apart c F' [p] O' → Q (.ref p) H'
def tn (K : Frag) (c : Ct) (pu : Bool) (m : M (List D)) : TE := fun σ H Q => ∃ F ρ O, EnvR K c F H σ ρ O ∧ (m ρ).post (PN K c pu F H σ Q) (PX K c σ)
section
variable {X : Cx} {c : Ct} {e : Expr} {pos : Pos} {pu : Bool} {ml : M (List D)}
theorem so_n (h : PE X e (tn X.K c pu ml)) : PE X e (to X.K c (mLst ml)) := h.imp fun σ H Q ⟨F, ρ, O, e, h1⟩ =>
  ⟨F, ρ, O, e, Res.post_imp (Res.post_bind h1) (fun xs ρ1 h2 F' H' O' p vs e' s' p' h3 h4 h5 => h2 F' H' O' [p] _ e' s' (.lst h3 h4) h5) fun _ _ h => h⟩
theorem se_n (h : PE X e (tn X.K c pu ml)) : PE X e (te X.K c false pu (mLstF ml)) := h.imp fun σ H Q ⟨F, ρ, O, e, h1⟩ =>
  ⟨F, ρ, O, e, Res.post_imp (Res.post_bind h1) (fun xs ρ1 h2 F' H' O' p vs e' s' p' h3 h4 h5 => by
    have s2 : Same F' (frzF F' H' [p]) := frz_same fun q hq => (h5.ow q hq).1
    exact h2 _ H' O' _ (e'.frz h5) (s'.trans s2) p' (.lst ((frz_in (List.mem_singleton_self _)).trans h3) (h4.mono s2))) fun _ _ h => h⟩
theorem n_lst {es : List Expr} {ms : M (List D)} (h : SA X c es pu ms) (hl : es.length ≤ 1000 := by exact Nat.le_of_ble_eq_true rfl) : PE X (.List es pos) (tn X.K c pu ms) := (pe_lst h.pa).imp fun σ H Q ⟨F, ρ, O, e, h1⟩ => by
  have h1' : ((ms ρ).bind fun xs ρ1 => .ok xs ρ1).post (PN X.K c pu F H σ Q) (PX X.K c σ) := by
    cases q : ms ρ <;> rw [q] at h1 <;> exact h1
  refine ta_step e h1' fun xs ρ1 F1 H1 O1 vs hm h2 e1 s1 p1 v1 => ⟨by rw [v1.length, h.len _ _ _ hm]; exact few hl, fun p hp => ?_⟩
  have n := New.own e1.sub hp (.lst vs)
  exact h2 _ _ O1 p vs (e1.new n) s1 (fun q => (p1 q).trans n.hH) upd_same v1 (e1.apart hp)
end
def NewL (K : Frag) (F H : Hp) (xs : List D) (Q : VK) : Prop := ∀ H' p vs, H p = none → New F H F H' → H' p = some (.lst vs) → RpAll K F vs xs → Q (.ref p) H'
theorem newL_upd {K : Frag} {F H : Hp} {xs : List D} {vs : List V} {Q : VK} (s : Same F H) (q : NewL K F H xs Q) (r : RpAll K F vs xs) : ∀ p, H p = none → Q (.ref p) (upd H p (.lst vs)) := fun p hp => q _ p vs hp (New.own s hp _) upd_same r
def rD1 (K : Frag) (g : D → Option D) : List V → Hp → VK → Prop := fun vs H Q => ∃ F v x z, vs = [v] ∧ Same F H ∧ RpB K F H v x ∧ g x = some z ∧ ∀ F' H' u, New F H F' H' → Rp K F' u z → Q u H'
def rN1 (K : Frag) (g : D → Option (List D)) : List V → Hp → VK → Prop := fun vs H Q => ∃ F v x z, vs = [v] ∧ Same F H ∧ RpB K F H v x ∧ g x = some z ∧ NewL K F H z Q
def mF1 (g : D → Option D) (m : M D) : M D := fun ρ => (m ρ).bind fun x ρ1 => ofO (g x) ρ1
def mFN (g : D → Option (List D)) (m : M D) : M (List D) := fun ρ => (m ρ).bind fun x ρ1 => ofO (g x) ρ1
def PA1 (K : Frag) (c : Ct) (pu : Bool) (F H : Hp) (σ : Sl) (Q : List V → Hp → Prop) (x : D) (ρ' : Env) : Prop :=
  ∀ F' H' O' v, EnvR K c F' H' σ ρ' O' → Same F F' → (pu = true → Same H H') → RpB K F' H' v x → Q [v] H'
def ta1 (K : Frag) (c : Ct) (pu : Bool) (m : M D) : TA := fun σ H Q => ∃ F ρ O, EnvR K c F H σ ρ O ∧ (m ρ).post (PA1 K c pu F H σ Q) (PX K c σ)
section
variable {X : Cx} {c : Ct} {e : Expr} {pos p : Pos} {ka pu : Bool} {me : M D} {g : D → Option D} {gl : D → Option (List D)} {id T : String} {f : Value} {x : Str}
theorem call_imp {r r' : List V → Hp → VK → Prop} (h : CallR X f r) (k : ∀ vs H Q, r' vs H Q → r vs H Q) : CallR X f r' := fun pins s σ H xs us Q I rx q => h pins s σ H xs us Q I rx (k xs H Q q)
theorem sa_1 (ha : PE X e (te X.K c ka pu me)) (hs : starEach [e] X.env = (false, eval e X.env) :: starEach [] X.env := by rfl) : PA X [e] (ta1 X.K c pu me) := (pa_cons ha pa_nil hs).imp fun σ H Q ⟨F, ρ, O, e, h⟩ =>
  ⟨F, ρ, O, e, Res.post_imp h (fun x ρ1 h1 F1 H1 O1 v e1 s1 q1 v1 => h1 F1 H1 O1 v e1 s1 q1 v1.up0) fun _ _ h => h⟩
theorem ta1_d {σ : Sl} {H : Hp} {Q : VK} (h : te X.K c false pu (mF1 g me) σ H Q) : ta1 X.K c pu me σ H fun vs H1 => rD1 X.K g vs H1 Q := by
  obtain ⟨F, ρ, O, e, h⟩ := h
  refine ⟨F, ρ, O, e, Res.post_imp (Res.post_bind h) (fun x ρ1 h1 F1 H1 O1 v e1 s1 q1 v1 => ?_) fun _ _ h => h⟩
  obtain ⟨z, hz, h2⟩ := post_ofO h1
  exact ⟨F1, v, x, z, rfl, e1.sub, v1, hz, fun F' H' u n r => h2 F' H' O1 u (e1.new n) (s1.trans n.fF) (fun hp => (q1 hp).trans n.hH) r⟩
theorem ta1_n {σ : Sl} {H : Hp} {Q : VK} (h : tn X.K c pu (mFN gl me) σ H Q) : ta1 X.K c pu me σ H fun vs H1 => rN1 X.K gl vs H1 Q := by
  obtain ⟨F, ρ, O, e, h⟩ := h
  refine ⟨F, ρ, O, e, Res.post_imp (Res.post_bind h) (fun x ρ1 h1 F1 H1 O1 v e1 s1 q1 v1 => ?_) fun _ _ h => h⟩
  obtain ⟨z, hz, h2⟩ := post_ofO h1
  exact ⟨F1, v, x, z, rfl, e1.sub, v1, hz, fun H' p vs hp n h3 r => h2 F1 H' O1 p vs (e1.new n) s1 (fun hp => (q1 hp).trans n.hH) h3 r (e1.apart hp)⟩
theorem se_b1 (hc : CallR X (.builtin id) (rD1 X.K g)) (hm : X.mg x = none) (ha : PE X e (te X.K c ka pu me)) (hg : Gl X x := by rfl) (hv : bootBuiltins x = some (.builtin id) := by decide +kernel) (hn : x ≠ "__name__" := by decide) (hdb : (x == ("__debug__" : Str)) = false := by decide)
    (hs : starEach [e] X.env = (false, eval e X.env) :: starEach [] X.env := by rfl) (hpl : (backTo pos (starEach [] X.env)).any (·.1) = false := by rfl) : PE X (.Call (.Name x p) [e] [] pos) (te X.K c false pu (mF1 g me)) :=
  (pe_callB hc hg hm hv (sa_1 ha hs) hn hdb hs hpl).imp fun σ H Q h => ta1_d h
theorem se_t1 (hc : CallR X (.type T) (rD1 X.K g)) (hm : X.mg x = none) (ha : PE X e (te X.K c ka pu me)) (hg : Gl X x := by rfl) (hv : bootBuiltins x = some (.type T) := by decide +kernel) (hn : x ≠ "__name__" := by decide) (hdb : (x == ("__debug__" : Str)) = false := by decide)
    (hs : starEach [e] X.env = (false, eval e X.env) :: starEach [] X.env := by rfl) (hpl : (backTo pos (starEach [] X.env)).any (·.1) = false := by rfl) : PE X (.Call (.Name x p) [e] [] pos) (te X.K c false pu (mF1 g me)) :=
  (pe_callTy hc hg hm hv (sa_1 ha hs) hn hdb hs hpl).imp fun σ H Q h => ta1_d h
theorem n_b1 (hc : CallR X (.builtin id) (rN1 X.K gl)) (hm : X.mg x = none) (ha : PE X e (te X.K c ka pu me)) (hg : Gl X x := by rfl) (hv : bootBuiltins x = some (.builtin id) := by decide +kernel) (hn : x ≠ "__name__" := by decide) (hdb : (x == ("__debug__" : Str)) = false := by decide)
    (hs : starEach [e] X.env = (false, eval e X.env) :: starEach [] X.env := by rfl) (hpl : (backTo pos (starEach [] X.env)).any (·.1) = false := by rfl) : PE X (.Call (.Name x p) [e] [] pos) (tn X.K c pu (mFN gl me)) :=
  (pe_callB hc hg hm hv (sa_1 ha hs) hn hdb hs hpl).imp fun σ H Q h => ta1_n h
theorem n_t1 (hc : CallR X (.type T) (rN1 X.K gl)) (hm : X.mg x = none) (ha : PE X e (te X.K c ka pu me)) (hg : Gl X x := by rfl) (hv : bootBuiltins x = some (.type T) := by decide +kernel) (hn : x ≠ "__name__" := by decide) (hdb : (x == ("__debug__" : Str)) = false := by decide)
    (hs : starEach [e] X.env = (false, eval e X.env) :: starEach [] X.env := by rfl) (hpl : (backTo pos (starEach [] X.env)).any (·.1) = false := by rfl) : PE X (.Call (.Name x p) [e] [] pos) (tn X.K c pu (mFN gl me)) :=
  (pe_callTy hc hg hm hv (sa_1 ha hs) hn hdb hs hpl).imp fun σ H Q h => ta1_n h
end
theorem inv_dict {K : Frag} {F H : Hp} {v : V} {kvs : List (D × D)} (s : Same F H) (h : RpB K F H v (.dict kvs)) :
    (∃ p vs ds, v = .ref p ∧ kvs = [(.none, .list ds)] ∧ SqL K H p vs ∧ RpAll K F vs ds) ∨
    (∃ p kws ds, v = .ref p ∧ Rd H p (.dK kws) ∧ RpAll K F (kws.map (·.2)) ds ∧ kvs = (kws.map fun q => kD q.1).zip ds) := by
  generalize e : PyData.dict kvs = z at h
  cases h with
  | d r =>
    cases r with
    | scr h r => cases e; exact .inl ⟨_, _, _, rfl, rfl, sq_l s h, r⟩
    | dcK h r => cases e; exact .inr (⟨_, _, _, rfl, .inr ⟨_, s _ _ h⟩, r, rfl⟩)
    | _ => cases e
  | lst h r => cases e
  | dcK h r => cases e; exact .inr (⟨_, _, _, rfl, h, r, rfl⟩)
def cells (kvs : List (D × D)) : Option (List D) := match kvs with
  | [(.none, .list ds)] => some ds
  | _ => none
theorem cells_ok {kvs : List (D × D)} {ds : List D} (h : cells kvs = some ds) : kvs = [(.none, .list ds)] := by
  unfold cells at h
  split at h
  · cases h; rfl
  · cases h
theorem cells_no {α : Type} {f : α → D} (hf : ∀ a, f a ≠ .none) {kws : List α} {ds : List D} : cells ((kws.map f).zip ds) = none := by
  cases h : cells ((kws.map f).zip ds) with
  | none => rfl
  | some es =>
    obtain ⟨a, _, e2⟩ := zip_head (cells_ok h)
    exact absurd e2 (hf a)
theorem kD_no (k : Key) : kD k ≠ .none := fun e => by cases k <;> cases e
def lenD : D → Option D
  | .str x => if x.length ≤ sizeLine then some (.int x.length) else none
  | .list xs => some (.int xs.length)
  | .tuple xs => some (.int xs.length)
  | .dict kvs => match cells kvs with
    | some ds => some (.int ds.length)
    | none => some (.int kvs.length)
  | _ => none
theorem zip_len {α : Type} {kvs : List α} {f : α → D} {g : α → V} {K : Frag} {F : Hp} {ds : List D} (r : RpAll K F (kvs.map g) ds) : ((kvs.map f).zip ds).length = kvs.length := by
  have h := r.length
  rw [List.length_map] at h
  rw [List.length_zip, List.length_map, ← h, Nat.min_self]
theorem call_lenK {X : Cx} : CallR X (.builtin "len") (fun xs H Q => ∃ a kvs, xs = [V.ref a] ∧ Rd H a (.dK kvs) ∧ Q (.int kvs.length) H) := by
  intro pins s σ H xs us Q I r h
  obtain ⟨a, kvs, rfl, ha, q⟩ := h
  rw [Vals.ref1 r]
  exact d_len I ha fun t s' I' => ⟨.int kvs.length, H, I', ⟨_, rfl⟩, q⟩
theorem cd_len {X : Cx} : CallR X (.builtin "len") (rD1 X.K lenD) := by
  refine call_imp (CallR.or call_len call_lenK) fun vs H Q ⟨F, v, x, z, hv, s, rv, hz, q⟩ => ?_
  subst hv
  unfold lenD at hz
  split at hz
  · split at hz
    · rename_i hl
      cases hz
      exact .inl ⟨v, _, rfl, by rw [inv_str rv]; exact ⟨hl, rfl⟩, q F H _ (New.refl s) (.int _)⟩
    · cases hz
  · cases hz
    obtain ⟨p, ws, rfl, h1, r1⟩ := inv_list s rv
    exact .inl ⟨_, _, rfl, .inl ⟨ws, .of h1, r1.length.symm⟩, q F H _ (New.refl s) (.int _)⟩
  · cases hz
    obtain ⟨p, ws, rfl, h1, r1⟩ := inv_tup rv
    exact .inl ⟨_, _, rfl, .inr ⟨ws, sq_t s h1, r1.length.symm⟩, q F H _ (New.refl s) (.int _)⟩
  · rename_i kvs
    rcases inv_dict s rv with ⟨p, ws, ds, rfl, e1, h1, r1⟩ | ⟨p, kws, ds, rfl, h1, r1, e1⟩
    · subst e1
      cases hz
      exact .inl ⟨_, _, rfl, .inl ⟨ws, h1, r1.length.symm⟩, q F H _ (New.refl s) (.int _)⟩
    · subst e1
      rw [cells_no (f := fun q : Key × V => kD q.1) fun a => kD_no a.1] at hz
      simp only [Option.some.injEq] at hz
      subst hz
      refine .inr ⟨p, kws, rfl, h1, ?_⟩
      have z := q F H (.int ((((kws.map fun q => kD q.1).zip ds).length : Nat) : Int)) (New.refl s) (.int _)
      rw [zip_len r1] at z
      exact z
  · cases hz
def intD : D → Option D
  | .int i => some (.int i)
  | .bool b => some (.int (if b then 1 else 0))
  | _ => none
theorem cd_int {X : Cx} : CallR X (.type "int") (rD1 X.K intD) := by
  refine call_imp call_int1 fun vs H Q ⟨F, v, x, z, hv, s, rv, hz, q⟩ => ?_
  subst hv
  unfold intD at hz
  split at hz
  · cases hz; exact .inl ⟨_, by rw [inv_int rv], q F H _ (New.refl s) (.int _)⟩
  · cases hz; exact .inr ⟨_, by rw [inv_bool rv], q F H _ (New.refl s) (.int _)⟩
  · cases hz
def strD : D → Option D
  | .int i => if i.natAbs.log2 < 1920 then some (.str (toString i)) else none
  | _ => none
theorem cd_str {X : Cx} : CallR X (.type "str") (rD1 X.K strD) := by
  refine call_imp call_str_int fun vs H Q ⟨F, v, x, z, hv, s, rv, hz, q⟩ => ?_
  subst hv
  unfold strD at hz
  split at hz
  · split at hz
    · rename_i hl
      cases hz; exact ⟨_, by rw [inv_int rv], hl, q F H _ (New.refl s) (.str _)⟩
    · cases hz
  · cases hz
def absD : D → Option D
  | .int i => some (.int (if i < 0 then -i else i))
  | _ => none
theorem cd_abs {X : Cx} : CallR X (.builtin "abs") (rD1 X.K absD) := by
  refine call_imp call_abs fun vs H Q ⟨F, v, x, z, hv, s, rv, hz, q⟩ => ?_
  subst hv
  unfold absD at hz
  split at hz
  · cases hz; exact ⟨_, by rw [inv_int rv], q F H _ (New.refl s) (.int _)⟩
  · cases hz
def boolsD : List D → Option (List Bool)
  | [] => some []
  | .bool b :: r => (boolsD r).map (b :: ·)
  | _ => none
theorem bools_ok {K : Frag} {F : Hp} : ∀ {ds : List D} {bs : List Bool} {vs : List V}, boolsD ds = some bs → RpAll K F vs ds → vs = bs.map V.bl
  | [], _, _, h, .nil => by cases h; rfl
  | .bool b :: r, _, _, h, .cons (vs := vs) r1 r2 => by
    unfold boolsD at h
    cases e : boolsD r with
    | none => rw [e] at h; cases h
    | some bs =>
      rw [e] at h
      cases h
      cases r1
      rw [bools_ok e r2]
      rfl
  | .none :: _, _, _, h, _ => by cases h
  | .int _ :: _, _, _, h, _ => by cases h
  | .str _ :: _, _, _, h, _ => by cases h
  | .list _ :: _, _, _, h, _ => by cases h
  | .tuple _ :: _, _, _, h, _ => by cases h
  | .dict _ :: _, _, _, h, _ => by cases h
def allD : D → Option D
  | .list ds => (boolsD ds).map fun bs => .bool (bs.all id)
  | _ => none
theorem cd_all {X : Cx} (hc : X.calm = true) : CallR X (.builtin "all") (rD1 X.K allD) := by
  refine call_imp (cr_all hc) fun vs H Q ⟨F, v, x, z, hv, s, rv, hz, q⟩ => ?_
  subst hv
  unfold allD at hz
  split at hz
  · obtain ⟨bs, h1, rfl⟩ := Option.map_eq_some_iff.mp hz
    obtain ⟨p, ws, rfl, h2, r1⟩ := inv_list s rv
    have e := bools_ok h1 r1
    subst e
    exact ⟨p, bs, rfl, .of h2, q F H _ (New.refl s) (.bl _)⟩
  · cases hz
def listD : D → Option (List D)
  | .list xs => some xs
  | .tuple xs => some xs
  | .dict kvs => cells kvs
  | _ => none
theorem cd_list {X : Cx} : CallR X (.type "list") (rN1 X.K listD) := by
  refine call_imp call_list_of fun vs H Q ⟨F, v, x, z, hv, s, rv, hz, q⟩ => ?_
  subst hv
  unfold listD at hz
  split at hz
  · cases hz
    obtain ⟨p, ws, rfl, h2, r1⟩ := inv_list s rv
    exact ⟨p, ws, rfl, .inl (.of h2), newL_upd s q r1⟩
  · cases hz
    obtain ⟨p, ws, rfl, h2, r1⟩ := inv_tup rv
    exact ⟨p, ws, rfl, .inr (sq_t s h2), newL_upd s q r1⟩
  · have e := cells_ok hz
    subst e
    obtain ⟨p, ws, rfl, h2, r1⟩ := inv_scr s rv
    exact ⟨p, ws, rfl, .inl h2, newL_upd s q r1⟩
  · cases hz
def tupD : D → Option D
  | .list xs => some (.tuple xs)
  | .tuple xs => some (.tuple xs)
  | _ => none
theorem cd_tup {X : Cx} : CallR X (.type "tuple") (rD1 X.K tupD) := by
  refine call_imp call_tuple_of fun vs H Q ⟨F, v, x, z, hv, s, rv, hz, q⟩ => ?_
  subst hv
  unfold tupD at hz
  split at hz
  · cases hz
    obtain ⟨p, ws, rfl, h2, r1⟩ := inv_list s rv
    refine ⟨p, ws, rfl, .inl ⟨.of h2, fun l hl => ?_⟩⟩
    have n := New.one s hl (.tup ws)
    exact q _ _ _ n (.tup (.of upd_same) (r1.mono n.fF))
  · cases hz
    obtain ⟨p, ws, rfl, h2, r1⟩ := inv_tup rv
    exact ⟨p, ws, rfl, .inr ⟨sq_t s h2, q F H _ (New.refl s) (.tup h2 r1)⟩⟩
  · cases hz
def ixD : D → D → Option D
  | .list xs, .int i => atI xs i
  | .tuple xs, .int i => atI xs i
  | .str z, .int i => if z.length ≤ sizeLine then (atI z.cps.toList i).map fun c => .str ⟨#[c]⟩ else none
  | .dict kvs, .int i => (cells kvs).bind fun ds => atI ds i
  | _, _ => none
theorem atI_rp {K : Frag} {F : Hp} {vs : List V} {ds : List D} {i : Int} {d : D} (r : RpAll K F vs ds) (h : atI ds i = some d) : ∃ v, atI vs i = some v ∧ Rp K F v d := by
  unfold atI at h ⊢
  rw [r.length]
  cases e : ixN ds.length i with
  | none => rw [e] at h; cases h
  | some j =>
    rw [e] at h
    exact r.getD h
theorem ixr_imp {r r' : R2} (h : IxR X r) (k : ∀ v w H Q, r' v w H Q → r v w H Q) : IxR X r' := fun value slice pins s σ H x y v u Q I rx ry q hs => h value slice pins s σ H x y v u Q I rx ry (k x y H Q q) hs
theorem xd_seq {X : Cx} : IxR X (rD X.K ixD) := by
  refine ixr_imp ix_seq fun v w H Q ⟨F, x, y, z, s, rv, rw', hz, q⟩ => ?_
  unfold ixD at hz
  split at hz
  · obtain ⟨p, ws, rfl, h2, r1⟩ := inv_list s rv
    obtain ⟨u, h3, h4⟩ := atI_rp r1 hz
    exact .inl ⟨p, ws, _, u, rfl, inv_int rw', .of h2, h3, q F H u (New.refl s) h4⟩
  · obtain ⟨p, ws, rfl, h2, r1⟩ := inv_tup rv
    obtain ⟨u, h3, h4⟩ := atI_rp r1 hz
    exact .inr (.inl ⟨p, ws, _, u, rfl, inv_int rw', sq_t s h2, h3, q F H u (New.refl s) h4⟩)
  · split at hz
    · rename_i hl
      obtain ⟨c, h1, rfl⟩ := Option.map_eq_some_iff.mp hz
      exact .inr (.inr ⟨_, _, c, inv_str rv, inv_int rw', hl, h1, q F H _ (New.refl s) (.str _)⟩)
    · cases hz
  · rename_i kvs i
    cases e : cells kvs with
    | none => rw [e] at hz; cases hz
    | some ds =>
      rw [e] at hz
      have e := cells_ok e
      subst e
      obtain ⟨p, ws, rfl, h2, r1⟩ := inv_scr s rv
      obtain ⟨u, h3, h4⟩ := atI_rp r1 hz
      exact .inl ⟨p, ws, _, u, rfl, inv_int rw', h2, h3, q F H u (New.refl s) h4⟩
  · cases hz
theorem se_ix {X : Cx} {c : Ct} {a b : Expr} {pos : Pos} {ka kb pa pb : Bool} {ma mb : M D} (ha : PE X a (te X.K c ka pa ma)) (hb : PE X b (te X.K c kb pb mb)) (hk : ka = true → pb = true := by decide) (hs : PlainIx b := by exact fun _ _ => rfl) :
    PE X (.Subscript a b pos) (te X.K c false (pa && pb) (mBin ixD ma mb)) := (pe_ix xd_seq ha hb hs).imp fun σ H Q h => bin_step (f := fun v _ => pure v) hk h
def cutD (xs : List D) (lo hi : Option Int) : List D := (xs.drop (HT.sIx xs.length 0 lo)).take (HT.sIx xs.length xs.length hi - HT.sIx xs.length 0 lo)
theorem cut_rp {K : Frag} {F : Hp} {vs : List V} {ds : List D} {lo hi : Option Int} (r : RpAll K F vs ds) : RpAll K F (cutV vs lo hi) (cutD ds lo hi) := by
  unfold cutV cutD
  rw [r.length]
  exact (r.drop _).take _
def slD (x : D) (lo hi : Option Int) : Option D := match x with
  | .list xs => some (.list (cutD xs lo hi))
  | .tuple xs => some (.tuple (cutD xs lo hi))
  | .str z => if z.length ≤ sizeLine then some (.str (cutS z lo hi)) else none
  | _ => none
def rSlD (K : Frag) : V → Option Int → Option Int → Hp → VK → Prop := fun v lo hi H Q => ∃ F x z, Same F H ∧ RpB K F H v x ∧ slD x lo hi = some z ∧ ∀ F' H' u, New F H F' H' → Rp K F' u z → Q u H'
theorem sl_whole {α : Type} {xs : List α} {lo hi : Option Int} (h : HT.sIx xs.length 0 lo = 0 ∧ HT.sIx xs.length xs.length hi = xs.length) : (xs.drop (HT.sIx xs.length 0 lo)).take (HT.sIx xs.length xs.length hi - HT.sIx xs.length 0 lo) = xs := by
  rw [h.1, h.2, List.drop_zero, Nat.sub_zero, List.take_length]
theorem sl_d {X : Cx} : L2.SlR X (rSlD X.K) := by
  have h0 := L2.SlR.or (X := X) sl_list (L2.SlR.or sl_tupA sl_str)
  intro pins s σ H x v vl vu lo hi sl Q I rx hs pl pu ⟨F, d, z, sm, rv, hz, q⟩
  refine h0 pins s σ H x v vl vu lo hi sl Q I rx hs pl pu ?_
  unfold slD at hz
  split at hz
  · cases hz
    obtain ⟨p, ws, rfl, h2, r1⟩ := inv_list sm rv
    refine .inl ⟨p, ws, rfl, .of h2, fun l hl => ?_⟩
    have n := New.one sm hl (.lst (cutV ws lo hi))
    exact q _ _ _ n (.lst upd_same ((cut_rp r1).mono n.fF))
  · cases hz
    obtain ⟨p, ws, rfl, h2, r1⟩ := inv_tup rv
    refine .inr (.inl ⟨p, ws, rfl, sq_t sm h2, fun hw => ?_, fun hw l hl => ?_⟩)
    · refine q F H _ (New.refl sm) ?_
      rename_i xs
      have e : cutD xs lo hi = xs := sl_whole (by rw [← r1.length]; exact hw)
      rw [e]
      exact .tup h2 r1
    · have n := New.one sm hl (.tup (cutV ws lo hi))
      exact q _ _ _ n (.tup (.of upd_same) ((cut_rp r1).mono n.fF))
  · split at hz
    · rename_i hl
      cases hz
      exact .inr (.inr ⟨_, inv_str rv, hl, q F H _ (New.refl sm) (.str _)⟩)
    · cases hz
  · cases hz
def PPt (K : Frag) (c : Ct) (pu : Bool) (F H : Hp) (σ : Sl) (Q : Option Int → Hp → Prop) (x : Option Int) (ρ' : Env) : Prop :=
  ∀ F' H' O', EnvR K c F' H' σ ρ' O' → Same F F' → (pu = true → Same H H') → Q x H'
def tp (K : Frag) (c : Ct) (pu : Bool) (m : M (Option Int)) : TO := fun σ H Q => ∃ F ρ O, EnvR K c F H σ ρ O ∧ (m ρ).post (PPt K c pu F H σ Q) (PX K c σ)
def bNo : M (Option Int) := fun ρ => .ok none ρ
def bTo (m : M D) : M (Option Int) := fun ρ => (m ρ).bind fun x ρ1 => match x with
  | .int i => .ok (some i) ρ1
  | _ => .bad
def mSl (a : M D) (l u : M (Option Int)) : M D := fun ρ => (a ρ).bind fun x ρ1 => (l ρ1).bind fun i ρ2 => (u ρ2).bind fun j ρ3 => ofO (slD x i j) ρ3
section
variable {X : Cx} {c : Ct} {a b : Expr} {lo hi : Option Expr} {pos p2 : Pos} {ka kb pa pb pl pu : Bool} {ma mb : M D} {ml mu : M (Option Int)}
theorem L2po_imp {o : Option Expr} {t t' : TO} (h : L2.PO X o t) (k : ∀ σ H Q, t' σ H Q → t σ H Q) : L2.PO X o t' := ⟨fun pins s σ H Q I q => h.run pins s σ H Q I (k σ H Q q)⟩
theorem sb_no : L2.PO X none (tp X.K c true bNo) := L2po_imp po_none fun σ H Q ⟨F, ρ, O, e, h⟩ => h F H O e (Same.refl _) fun _ => Same.refl _
theorem sb_to (h : PE X b (te X.K c kb pb mb)) : L2.PO X (some b) (tp X.K c pb (bTo mb)) := L2po_imp (po_some h) fun σ H Q ⟨F, ρ, O, e, h⟩ => by
  refine te_step e h fun x ρ1 F1 H1 O1 v h1 e1 s1 p1 v1 => ?_
  cases x with
  | int i => exact ⟨i, inv_int v1.up0, h1 F1 H1 O1 e1 s1 p1⟩
  | _ => exact h1.elim
theorem tp_step {α : Type} {K : Frag} {m : M (Option Int)} {k : Option Int → Env → Res α} {P : α → Env → Prop} {Q : Option Int → Hp → Prop} {F H : Hp} {σ : Sl} {ρ : Env} {O : List Addr} (e : EnvR K c F H σ ρ O) (h : ((m ρ).bind k).post P (PX K c σ))
    (q : ∀ x ρ1 F1 H1 O1, (k x ρ1).post P (PX K c σ) → EnvR K c F1 H1 σ ρ1 O1 → Same F F1 → (pu = true → Same H H1) → Q x H1) : tp K c pu m σ H Q :=
  ⟨F, ρ, O, e, Res.post_imp (Res.post_bind h) (fun x ρ1 h1 F1 H1 O1 e1 s1 p1 => q x ρ1 F1 H1 O1 h1 e1 s1 p1) fun _ _ h => h⟩
theorem se_sl (ha : PE X a (te X.K c ka pa ma)) (hl : L2.PO X lo (tp X.K c pl ml)) (hu : L2.PO X hi (tp X.K c pu mu)) (hk : ka = true → (pl && pu) = true := by decide) :
    PE X (.Subscript a (.Slice lo hi none p2) pos) (te X.K c false (pa && (pl && pu)) (mSl ma ml mu)) := (pe_slice sl_d ha hl hu).imp fun σ H Q ⟨F, ρ, O, e, h⟩ => by
  refine te_step e h fun x ρ1 F1 H1 O1 v h1 e1 s1 p1 v1 => tp_step e1 h1 fun i ρ2 F2 H2 O2 h2 e2 s2 p2 => tp_step e2 h2 fun j ρ3 F3 H3 O3 h3 e3 s3 p3 => ?_
  obtain ⟨z, hz, h4⟩ := post_ofO h3
  refine ⟨F3, x, z, e3.sub, v1.up (s2.trans s3) (fun q => and_p p2 p3 q) hk, hz, fun F' H' u n r => h4 F' H' O3 u (e3.new n) (((s1.trans s2).trans s3).trans n.fF) (fun q => ?_) r⟩
  obtain ⟨q1, q2⟩ := Bool.and_eq_true_iff.mp q
  exact ((p1 q1).trans (and_p p2 p3 q2)).trans n.hH
end
end DL
end
section
set_option maxRecDepth 100000
set_option maxHeartbeats 4000000
namespace DL
open PySem PySem.Spec PyProof.Rows L2
structure ItD (K : Frag) (F : Hp) (J : It) (xs : List D) : Prop where
  few : xs.length ≤ sizeLine
  go : ∀ F2 H2, Same F F2 → Same F2 H2 → ∀ i, i < xs.length → J.go i H2
  yl : ∀ F2 H2, Same F F2 → Same F2 H2 → ∀ i x H3, i < xs.length → J.yld i H2 x H3 → ∃ F3 d, New F2 H2 F3 H3 ∧ xs[i]? = some d ∧ Rp K F3 x d
  st : ∀ F2 H2, Same F F2 → Same F2 H2 → ∀ i, xs.length ≤ i → J.stop i H2
def PIx (K : Frag) (c : Ct) (pu : Bool) (F H : Hp) (σ : Sl) (R : It → Hp → Prop) (xs : List D) (ρ' : Env) : Prop :=
  ∀ F' H' O' J, EnvR K c F' H' σ ρ' O' → Same F F' → (pu = true → Same H H') → ItD K F' J xs → R J H'
def ti (K : Frag) (c : Ct) (pu : Bool) (m : M (List D)) : TI := fun σ H R => ∃ F ρ O, EnvR K c F H σ ρ O ∧ (m ρ).post (PIx K c pu F H σ R) (PX K c σ)
theorem getR {K : Frag} {F : Hp} {vs : List V} {ds : List D} {i : Nat} (r : RpAll K F vs ds) (h : i < ds.length) : ∃ v, vs[i]? = some v ∧ Rp K F v ds[i] := r.getD (by simp [h])
theorem itD_list {K : Frag} {F : Hp} {a : Addr} {vs : List V} {ds : List D} (hz : ds.length ≤ sizeLine) (h : SqL K F a vs) (r : RpAll K F vs ds) : ItD K F (Itl K a) ds where
  few := hz
  go := fun F2 H2 s1 s2 i hi => by
    obtain ⟨v, h1, _⟩ := getR r hi
    exact ⟨vs, v, sq_l (s1.trans s2) h, h1⟩
  yl := fun F2 H2 s1 s2 i x H3 hi ⟨e, y⟩ => by
    subst e
    obtain ⟨v, h1, h2⟩ := getR r hi
    have e := y vs (sq_l (s1.trans s2) h)
    rw [h1] at e
    cases e
    exact ⟨F2, _, New.refl s2, by simp [hi], h2.mono s1⟩
  st := fun F2 H2 s1 s2 i hi => ⟨vs, sq_l (s1.trans s2) h, by rw [r.length]; exact hi⟩
theorem itD_tup {K : Frag} {F : Hp} {a : Addr} {vs : List V} {ds : List D} (hz : ds.length ≤ sizeLine) (h : SqT K F a vs) (r : RpAll K F vs ds) : ItD K F (Itt K a) ds where
  few := hz
  go := fun F2 H2 s1 s2 i hi => by
    obtain ⟨v, h1, _⟩ := getR r hi
    exact ⟨vs, v, sq_t (s1.trans s2) h, h1⟩
  yl := fun F2 H2 s1 s2 i x H3 hi ⟨e, y⟩ => by
    subst e
    obtain ⟨v, h1, h2⟩ := getR r hi
    have e := y vs (sq_t (s1.trans s2) h)
    rw [h1] at e
    cases e
    exact ⟨F2, _, New.refl s2, by simp [hi], h2.mono s1⟩
  st := fun F2 H2 s1 s2 i hi => ⟨vs, sq_t (s1.trans s2) h, by rw [r.length]; exact hi⟩
def charsD (z : Str) : List D := z.cps.toList.map fun c => .str ⟨#[c]⟩
theorem itD_str {K : Frag} {F : Hp} {z : Str} (hz : z.length ≤ sizeLine) : ItD K F (Its z) (charsD z) where
  few := by unfold charsD; rw [List.length_map, Array.length_toList]; exact hz
  go := fun F2 H2 s1 s2 i hi => by
    unfold charsD at hi
    rw [List.length_map, Array.length_toList] at hi
    exact hi
  yl := fun F2 H2 s1 s2 i x H3 hi ⟨e, c, h1, h2⟩ => by
    subst e h2
    refine ⟨F2, _, New.refl s2, ?_, .str ⟨#[c]⟩⟩
    unfold charsD
    rw [List.getElem?_map, Array.getElem?_toList, h1]
    rfl
  st := fun F2 H2 s1 s2 i hi => by
    unfold charsD at hi
    rw [List.length_map, Array.length_toList] at hi
    exact hi
theorem kV_rp {K : Frag} {F : Hp} (k : Key) : Rp K F (kV k) (kD k) := by
  cases k with
  | inl i => exact .int i
  | inr x => exact .str x
theorem zip_keys {α β γ : Type} {f : α → γ} : ∀ {kvs : List α} {ds : List β}, kvs.length = ds.length → ((kvs.map f).zip ds).map (·.1) = kvs.map f
  | [], [], _ => rfl
  | a :: kvs, d :: ds, h => by
    rw [List.map_cons, List.zip_cons_cons, List.map_cons, zip_keys (by simpa using h)]
  | [], _ :: _, h => by simp at h
  | _ :: _, [], h => by simp at h
theorem itD_keys {K : Frag} {F : Hp} {d : Addr} {o : Obj} {kvs : List (Key × V)} (hz : kvs.length ≤ sizeLine) (h : F d = some (.frz o (.dK kvs))) : ItD K F (Itk d o kvs) (kvs.map fun q => kD q.1) where
  few := by rw [List.length_map]; exact hz
  go := fun F2 H2 s1 s2 i hi => ⟨s2 _ _ (s1 _ _ h), by simpa using hi⟩
  yl := fun F2 H2 s1 s2 i x H3 hi y => by
    obtain ⟨e, k, v, h1, h2⟩ := y
    subst e h2
    refine ⟨F2, kD k, New.refl s2, ?_, kV_rp k⟩
    rw [List.getElem?_map, h1]
    rfl
  st := fun F2 H2 s1 s2 i hi => ⟨s2 _ _ (s1 _ _ h), by simpa using hi⟩
def itemsD : D → Option (List D)
  | .list xs => some xs
  | .tuple xs => some xs
  | .str z => if z.length ≤ sizeLine then some (charsD z) else none
  | .dict kvs => match cells kvs with
    | some ds => some ds
    | none => some (kvs.map (·.1))
  | _ => none
def mItems (m : M D) : M (List D) := fun ρ => (m ρ).bind fun x ρ1 => ofO (itemsD x) ρ1
section
variable {X : Cx} {c : Ct} {tg e : Expr} {pos : Pos} {pu : Bool} {me : M D}
theorem pe_fits {t : TE} (h : PE X e t) : PE X e (fun σ H Q => t σ H fun v H1 => (∀ p, v = .ref p → (∀ xs, SqL X.K H1 p xs ∨ SqT X.K H1 p xs → xs.length ≤ sizeLine) ∧ ∀ kvs, Rd H1 p (.dK kvs) → kvs.length ≤ sizeLine) → Q v H1) := ⟨fun pins s σ H Q I hw => by
  refine thn (h.run pins s σ H _ I hw) fun u s1 ⟨x, H1, I1, r1, q1⟩ => ⟨x, H1, I1, r1, q1 fun p e => ?_⟩
  subst e
  refine ⟨fun xs hx => ?_, fun kvs hk => (dk_rd I1.hok hk).1⟩
  rcases hx with hx | hx
  · obtain ⟨_, _, _, hz⟩ := I1.list hx
    exact hz
  · obtain ⟨_, _, _, hz⟩ := I1.tuple hx
    exact hz⟩
theorem PI.imp {wi wi' : TI} (h : PI X tg e wi) (k : ∀ σ H R, wi' σ H R → wi σ H R) : PI X tg e wi' := ⟨fun pins s σ H R I q => h.run pins s σ H R I (k σ H R q)⟩
theorem si_val (he : PE X e (te X.K c false pu me)) : PI X tg e (ti X.K c pu (mItems me)) := ⟨fun pins s σ H R I h => by
  obtain ⟨F, ρ, O, ev, h⟩ := h
  have hb := Res.post_bind h
  have hf := pe_fits he
  -- the readings' common part
  have go : ∀ {P : V → Hp → Prop} (x : D), (∀ ρ1, me ρ = .ok x ρ1 → (ofO (itemsD x) ρ1).post (PIx X.K c pu F H σ R) (PX X.K c σ) → ∀ F1 H1 O1 v, EnvR X.K c F1 H1 σ ρ1 O1 → Same F F1 → (pu = true → Same H H1) → Rp X.K F1 v x →
      (∀ p, v = .ref p → (∀ xs, SqL X.K H1 p xs ∨ SqT X.K H1 p xs → xs.length ≤ sizeLine) ∧ ∀ kvs, Rd H1 p (.dK kvs) → kvs.length ≤ sizeLine) → P v H1) → (∀ ρ1 y, me ρ = .ok y ρ1 → y = x) →
      te X.K c false pu me σ H fun v H1 => (∀ p, v = .ref p → (∀ xs, SqL X.K H1 p xs ∨ SqT X.K H1 p xs → xs.length ≤ sizeLine) ∧ ∀ kvs, Rd H1 p (.dK kvs) → kvs.length ≤ sizeLine) → P v H1 := fun {P} x k u => by
    refine ⟨F, ρ, O, ev, ?_⟩
    cases r : me ρ with
    | bad => rw [r] at hb; exact hb
    | ex ξ ρ1 => rw [r] at hb; exact hb
    | ok y ρ1 =>
      rw [r] at hb
      have e := u ρ1 y r
      subst e
      exact fun F1 H1 O1 v e1 s1 p1 v1 fits => k ρ1 r hb F1 H1 O1 v e1 s1 p1 v1 fits
  cases r : me ρ with
  | bad => rw [r] at hb; exact hb.elim
  | ex ξ ρ1 => exact (pi_list (tg := tg) hf).run pins s σ H R I (go .none (fun ρ1 q => by rw [r] at q; cases q) fun ρ1 y q => by rw [r] at q; cases q)
  | ok x ρ1 =>
    rw [r] at hb
    obtain ⟨xs, hx, h1⟩ := post_ofO hb
    have u : ∀ ρ1 y, me ρ = .ok y ρ1 → y = x := fun ρ2 y q => by rw [r] at q; cases q; rfl
    cases x with
    | list ds =>
      cases hx
      refine (pi_list (tg := tg) hf).run pins s σ H R I (go (.list xs) (fun ρ2 q hq F1 H1 O1 v e1 s1 p1 v1 fits => ?_) u)
      rw [r] at q; cases q
      cases v1 with
      | lst ha rr =>
        have sl : SqL X.K F1 _ _ := .of ha
        exact ⟨_, rfl, ⟨_, sq_l e1.sub sl⟩, h1 F1 H1 O1 _ e1 s1 p1 (itD_list (by rw [← rr.length]; exact (fits _ rfl).1 _ (.inl (sq_l e1.sub sl))) sl rr)⟩
    | tuple ds =>
      cases hx
      refine (pi_tup (tg := tg) hf).run pins s σ H R I (go (.tuple xs) (fun ρ2 q hq F1 H1 O1 v e1 s1 p1 v1 fits => ?_) u)
      rw [r] at q; cases q
      cases v1 with
      | tup ha rr => exact ⟨_, rfl, ⟨_, sq_t e1.sub ha⟩, h1 F1 H1 O1 _ e1 s1 p1 (itD_tup (by rw [← rr.length]; exact (fits _ rfl).1 _ (.inr (sq_t e1.sub ha))) ha rr)⟩
    | str z =>
      unfold itemsD at hx
      simp only at hx
      split at hx
      · rename_i hz
        cases hx
        refine (pi_str (tg := tg) hf).run pins s σ H R I (go (.str z) (fun ρ2 q hq F1 H1 O1 v e1 s1 p1 v1 fits => ?_) u)
        rw [r] at q; cases q
        cases v1
        exact ⟨z, rfl, h1 F1 H1 O1 _ e1 s1 p1 (itD_str hz)⟩
      · cases hx
    | dict kvs =>
      unfold itemsD at hx
      simp only at hx
      split at hx
      · rename_i ds hc
        cases hx
        have hc := cells_ok hc
        subst hc
        refine (pi_list (tg := tg) hf).run pins s σ H R I (go (.dict [(.none, .list xs)]) (fun ρ2 q hq F1 H1 O1 v e1 s1 p1 v1 fits => ?_) u)
        rw [r] at q; cases q
        obtain ⟨p, ws, rfl, h2', r1⟩ := inv_scr (Same.refl F1) (.d v1)
        have h2 := sq_l e1.sub h2'
        exact ⟨_, rfl, ⟨_, h2⟩, h1 F1 H1 O1 _ e1 s1 p1 (itD_list (by rw [← r1.length]; exact (fits _ rfl).1 _ (.inl h2)) h2' r1)⟩
      · rename_i hno
        · cases hx
          refine (pi_keys (tg := tg) hf).run pins s σ H R I (go (.dict kvs) (fun ρ2 q hq F1 H1 O1 v e1 s1 p1 v1 fits => ?_) u)
          rw [r] at q; cases q
          generalize e2 : PyData.dict kvs = z at v1
          cases v1 with
          | @dcK a ob kws ds2 ha rr =>
            cases e2
            have hl := rr.length
            rw [List.length_map] at hl
            refine ⟨a, ob, rfl, .inl ⟨kws, e1.sub _ _ ha, ?_⟩⟩
            have z := h1 F1 H1 O1 (Itk a ob kws) e1 s1 p1
            rw [zip_keys hl] at z
            exact z (itD_keys ((fits _ rfl).2 _ (.inr ⟨_, e1.sub _ _ ha⟩)) ha)
          | scr ha rr => cases e2; simp [cells] at hno
          | _ => cases e2
    | _ => cases hx⟩
end
end DL
end
section
set_option maxRecDepth 100000
set_option maxHeartbeats 4000000
namespace DL
open PySem PySem.Spec PyProof.Rows L2
def rangeL (lo : Int) (n : Nat) : List D := (List.range n).map fun k => .int (lo + (k : Nat))
theorem itD_range {K : Frag} {F : Hp} {lo : Int} {n : Nat} (hz : n ≤ sizeLine) : ItD K F (Itr lo n) (rangeL lo n) where
  few := by unfold rangeL; rw [List.length_map, List.length_range]; exact hz
  go := fun F2 H2 s1 s2 i hi => by
    unfold rangeL at hi
    rw [List.length_map, List.length_range] at hi
    exact hi
  yl := fun F2 H2 s1 s2 i x H3 hi y => by
    obtain ⟨e, rfl⟩ := y
    subst e
    unfold rangeL at hi ⊢
    rw [List.length_map, List.length_range] at hi
    exact ⟨F2, _, New.refl s2, by simp [hi], .int _⟩
  st := fun F2 H2 s1 s2 i hi => by
    unfold rangeL at hi
    rw [List.length_map, List.length_range] at hi
    exact hi
def intOf : D → Option Int
  | .int i => some i
  | _ => none
def range1 (x : D) : Option (List D) := (intOf x).bind fun n => if n.toNat ≤ sizeLine ∧ -(2 ^ 62) ≤ n then some (rangeL 0 n.toNat) else none
def range2 (x y : D) : Option (List D) := (intOf x).bind fun i => (intOf y).bind fun j => if (j - i).toNat ≤ sizeLine ∧ -(2 ^ 62) ≤ i ∧ i < 2 ^ 62 ∧ -(2 ^ 62) ≤ j ∧ j < 2 ^ 62 then some (rangeL i (j - i).toNat) else none
def mRange1 (a : M D) : M (List D) := fun ρ => (a ρ).bind fun x ρ1 => ofO (range1 x) ρ1
def mRange2 (a b : M D) : M (List D) := fun ρ => (a ρ).bind fun x ρ1 => (b ρ1).bind fun y ρ2 => ofO (range2 x y) ρ2
theorem intOf_ok {x : D} {i : Int} (h : intOf x = some i) : x = .int i := by
  unfold intOf at h
  split at h
  · cases h; rfl
  · cases h
theorem itD_zip {K : Frag} {F : Hp} {a b : Addr} {vs ws : List V} {ds es : List D} (hz : ds.length ≤ sizeLine) (h : SqL K F a vs) (g : SqL K F b ws) (r : RpAll K F vs ds) (q : RpAll K F ws es) : ItD K F (Itz K a b) ((ds.zip es).map fun p => .tuple [p.1, p.2]) where
  few := by rw [List.length_map, List.length_zip]; exact Nat.le_trans (Nat.min_le_left _ _) hz
  go := fun F2 H2 s1 s2 i hi => by
    rw [List.length_map, List.length_zip] at hi
    obtain ⟨v, h1, _⟩ := getR r (Nat.lt_of_lt_of_le hi (Nat.min_le_left _ _))
    obtain ⟨w, h2, _⟩ := getR q (Nat.lt_of_lt_of_le hi (Nat.min_le_right _ _))
    exact ⟨vs, ws, v, w, sq_l (s1.trans s2) h, sq_l (s1.trans s2) g, h1, h2⟩
  yl := fun F2 H2 s1 s2 i x H3 hi y => by
    obtain ⟨T, v, w, rfl, hT, rfl, y1, y2⟩ := y
    rw [List.length_map, List.length_zip] at hi
    obtain ⟨v', h1, r1⟩ := getR r (Nat.lt_of_lt_of_le hi (Nat.min_le_left _ _))
    obtain ⟨w', h2, r2⟩ := getR q (Nat.lt_of_lt_of_le hi (Nat.min_le_right _ _))
    have e1 := y1 vs (sq_l (s1.trans s2) h)
    have e2 := y2 ws (sq_l (s1.trans s2) g)
    rw [h1] at e1; cases e1
    rw [h2] at e2; cases e2
    have n := New.one s2 hT (.tup [v, w])
    refine ⟨_, _, n, ?_, .tup (.of upd_same) (.cons (r1.mono (s1.trans n.fF)) (.cons (r2.mono (s1.trans n.fF)) .nil))⟩
    rw [List.getElem?_map, List.getElem?_eq_getElem (by rw [List.length_zip]; exact hi), List.getElem_zip]
    rfl
  st := fun F2 H2 s1 s2 i hi => by
    rw [List.length_map, List.length_zip] at hi
    refine ⟨vs, ws, sq_l (s1.trans s2) h, sq_l (s1.trans s2) g, ?_⟩
    rw [r.length, q.length]
    omega
theorem itD_zipT {K : Frag} {F : Hp} {a b : Addr} {vs ws : List V} {ds es : List D} (hz : ds.length ≤ sizeLine) (h : SqT K F a vs) (g : SqT K F b ws) (r : RpAll K F vs ds) (q : RpAll K F ws es) : ItD K F (RZ.ItzT K a b) ((ds.zip es).map fun p => .tuple [p.1, p.2]) where
  few := by rw [List.length_map, List.length_zip]; exact Nat.le_trans (Nat.min_le_left _ _) hz
  go := fun F2 H2 s1 s2 i hi => by
    rw [List.length_map, List.length_zip] at hi
    obtain ⟨v, h1, _⟩ := getR r (Nat.lt_of_lt_of_le hi (Nat.min_le_left _ _))
    obtain ⟨w, h2, _⟩ := getR q (Nat.lt_of_lt_of_le hi (Nat.min_le_right _ _))
    exact ⟨vs, ws, v, w, sq_t (s1.trans s2) h, sq_t (s1.trans s2) g, h1, h2⟩
  yl := fun F2 H2 s1 s2 i x H3 hi y => by
    obtain ⟨T, v, w, rfl, hT, rfl, y1, y2⟩ := y
    rw [List.length_map, List.length_zip] at hi
    obtain ⟨v', h1, r1⟩ := getR r (Nat.lt_of_lt_of_le hi (Nat.min_le_left _ _))
    obtain ⟨w', h2, r2⟩ := getR q (Nat.lt_of_lt_of_le hi (Nat.min_le_right _ _))
    have e1 := y1 vs (sq_t (s1.trans s2) h)
    have e2 := y2 ws (sq_t (s1.trans s2) g)
    rw [h1] at e1; cases e1
    rw [h2] at e2; cases e2
    have n := New.one s2 hT (.tup [v, w])
    refine ⟨_, _, n, ?_, .tup (.of upd_same) (.cons (r1.mono (s1.trans n.fF)) (.cons (r2.mono (s1.trans n.fF)) .nil))⟩
    rw [List.getElem?_map, List.getElem?_eq_getElem (by rw [List.length_zip]; exact hi), List.getElem_zip]
    rfl
  st := fun F2 H2 s1 s2 i hi => by
    rw [List.length_map, List.length_zip] at hi
    refine ⟨vs, ws, sq_t (s1.trans s2) h, sq_t (s1.trans s2) g, ?_⟩
    rw [r.length, q.length]
    omega
def enumD (xs : List D) : List D := (xs.zipIdx).map fun p => .tuple [.int (p.2 : Nat), p.1]
theorem itD_enum {K : Frag} {F : Hp} {a : Addr} {vs : List V} {ds : List D} (hz : ds.length ≤ sizeLine) (h : SqL K F a vs) (r : RpAll K F vs ds) : ItD K F (Ite K a) (enumD ds) where
  few := by unfold enumD; rw [List.length_map, List.length_zipIdx]; exact hz
  go := fun F2 H2 s1 s2 i hi => by
    unfold enumD at hi
    rw [List.length_map, List.length_zipIdx] at hi
    obtain ⟨v, h1, _⟩ := getR r hi
    exact ⟨vs, v, sq_l (s1.trans s2) h, h1⟩
  yl := fun F2 H2 s1 s2 i x H3 hi y => by
    obtain ⟨T, v, rfl, hT, rfl, y1⟩ := y
    unfold enumD at hi ⊢
    rw [List.length_map, List.length_zipIdx] at hi
    obtain ⟨v', h1, r1⟩ := getR r hi
    have e1 := y1 vs (sq_l (s1.trans s2) h)
    rw [h1] at e1; cases e1
    have n := New.one s2 hT (.tup [.int (i : Nat), v])
    refine ⟨_, _, n, ?_, .tup (.of upd_same) (.cons (.int _) (.cons (r1.mono (s1.trans n.fF)) .nil))⟩
    simp [hi]
  st := fun F2 H2 s1 s2 i hi => by
    unfold enumD at hi
    rw [List.length_map, List.length_zipIdx] at hi
    exact ⟨vs, sq_l (s1.trans s2) h, by rw [r.length]; exact hi⟩
section
variable {X : Cx} {c : Ct} {tg e e2 : Expr} {pos p tpos apos cpos : Pos} {pu p1 p2 : Bool} {me ma mb : M D} {elts : List Expr} {kk : Nat}
theorem ta_1 {F H : Hp} {σ : Sl} {ρ : Env} {O : List Addr} (e : EnvR X.K c F H σ ρ O) {m : M D} {k : D → M (List D)} {R : It → Hp → Prop} {Q : List V → Hp → Prop} (h : ((m ρ).bind k).post (PIx X.K c pu F H σ R) (PX X.K c σ))
    (q : ∀ x ρ1 F1 H1 O1 v, (k x ρ1).post (PIx X.K c pu F H σ R) (PX X.K c σ) → EnvR X.K c F1 H1 σ ρ1 O1 → Same F F1 → (pu = true → Same H H1) → RpB X.K F1 H1 v x → Q [v] H1) : ta1 X.K c pu m σ H Q :=
  ⟨F, ρ, O, e, Res.post_imp (Res.post_bind h) (fun x ρ1 h1 F1 H1 O1 v e1 s1 p1 r1 => q x ρ1 F1 H1 O1 v h1 e1 s1 p1 r1) fun _ _ h => h⟩
theorem si_range1 (hm : X.mg "range" = none) (ha : PE X e (te X.K c false pu ma)) (hg : Gl X "range" := by rfl) (hs : starEach [e] X.env = [(false, eval e X.env)] := by rfl) : PI X tg (.Call (.Name "range" p) [e] [] pos) (ti X.K c pu (mRange1 ma)) :=
  PI.imp (pi_range1 hg hm (sa_1 ha (by rw [hs]; rfl)) hs) fun σ H R ⟨F, ρ, O, ev, h⟩ => by
    refine ta_1 ev h fun x ρ1 F1 H1 O1 v h1 e1 s1 q1 r1 => ?_
    obtain ⟨xs, hx, h2⟩ := post_ofO h1
    obtain ⟨n, hn, hx'⟩ := Option.bind_eq_some_iff.mp hx
    have en := intOf_ok hn
    subst en
    clear hx h1
    have hx := hx'
    split at hx
    · rename_i hz
      cases hx
      have hs : sizeLine = 16777216 := sizeLine_eq
      exact ⟨n, by rw [inv_int r1], hz.2, by omega, h2 F1 H1 O1 _ e1 s1 q1 (itD_range hz.1)⟩
    · cases hx
def zipD : D → D → Option (List D)
  | .list xs, .list ys => some ((xs.zip ys).map fun p => .tuple [p.1, p.2])
  | .tuple xs, .tuple ys => some ((xs.zip ys).map fun p => .tuple [p.1, p.2])
  | _, _ => none
def mZip (a b : M D) : M (List D) := fun ρ => (a ρ).bind fun x ρ1 => (b ρ1).bind fun y ρ2 => ofO (zipD x y) ρ2
theorem si_zip (hm : X.mg "zip" = none) (ha : PE X e (te X.K c false p1 ma)) (hb : PE X e2 (te X.K c false p2 mb)) (hg : Gl X "zip" := by rfl) (hs : starEach [e, e2] X.env = (false, eval e X.env) :: starEach [e2] X.env := by rfl) (hs2 : starEach [e2] X.env = (false, eval e2 X.env) :: starEach [] X.env := by rfl) (hpl : (backTo pos (starEach [e2] X.env)).any (·.1) = false := by rfl) :
    PI X (.Tuple elts kk tpos) (.Call (.Name "zip" p) [e, e2] [] pos) (ti X.K c (p1 && p2) (mZip ma mb)) :=
  PI.imp (RZ.pi_zipA hg hm (pa_cons (pe_fits ha) (pa_cons hb pa_nil hs2) hs) hs hpl) fun σ H R ⟨F, ρ, O, ev, h⟩ => by
    refine te_step ev h fun x ρ1 F1 H1 O1 v h1 e1 s1 q1 r1 fits => te_step e1 h1 fun y ρ2 F2 H2 O2 w h2 e2 s2 q2 r2 => ?_
    obtain ⟨xs, hx, h3⟩ := post_ofO h2
    unfold zipD at hx
    split at hx
    · cases hx
      cases r1 with
      | lst a1 b1 =>
        cases r2 with
        | lst a2 b2 => exact ⟨_, _, _, _, rfl, .inl ⟨sq_l (s2.trans e2.sub) (.of a1), sq_l e2.sub (.of a2), h3 F2 H2 O2 _ e2 (s1.trans s2) (and_p q1 q2) (itD_zip (by rw [← b1.length]; exact (fits _ rfl).1 _ (.inl (sq_l e1.sub (.of a1)))) (sq_l s2 (.of a1)) (.of a2) (b1.mono s2) b2)⟩⟩
    · cases hx
      cases r1 with
      | tup a1 b1 =>
        cases r2 with
        | tup a2 b2 => exact ⟨_, _, _, _, rfl, .inr ⟨sq_t (s2.trans e2.sub) a1, sq_t e2.sub a2, h3 F2 H2 O2 _ e2 (s1.trans s2) (and_p q1 q2) (itD_zipT (by rw [← b1.length]; exact (fits _ rfl).1 _ (.inr (sq_t e1.sub a1))) (sq_t s2 a1) a2 (b1.mono s2) b2)⟩⟩
    · cases hx
def enumO : D → Option (List D)
  | .list xs => some (enumD xs)
  | _ => none
def mEnum (a : M D) : M (List D) := fun ρ => (a ρ).bind fun x ρ1 => ofO (enumO x) ρ1
end
def PGt (K : Frag) (c : Ct) (F H : Hp) (σ : Sl) (Q : Sl → Hp → Prop) (ρ' : Env) : Prop := ∀ σ' F' H' O', New F H F' H' → EnvR K c F' H' σ' ρ' O' → σ'.length = σ.length → Q σ' H'
def tgD (K : Frag) (c : Ct) (t : D → Env → Option Env) : TG := fun v σ H Q => ∃ F ρ O x ρ', EnvR K c F H σ ρ O ∧ Rp K F v x ∧ t x ρ = some ρ' ∧ PGt K c F H σ Q ρ'
def tgsD (K : Frag) (c : Ct) (t : List D → Env → Option Env) : TGs := fun vs σ H Q => ∃ F ρ O xs ρ', EnvR K c F H σ ρ O ∧ RpAll K F vs xs ∧ t xs ρ = some ρ' ∧ PGt K c F H σ Q ρ'
def tName (i : Nat) : D → Env → Option Env := fun x ρ => some (ρ.set i (some (.d x)))
def tsNil : List D → Env → Option Env := fun xs ρ => match xs with
  | [] => some ρ
  | _ => none
def tsCons (t : D → Env → Option Env) (u : List D → Env → Option Env) : List D → Env → Option Env := fun xs ρ => match xs with
  | x :: r => (t x ρ).bind fun ρ1 => u r ρ1
  | [] => none
def tTup (n : Nat) (u : List D → Env → Option Env) : D → Env → Option Env := fun x ρ => match x with
  | .tuple xs => if xs.length = n then u xs ρ else none
  | _ => none
section
variable {X : Cx} {c : Ct} {e : Expr} {es : List Expr} {pos : Pos} {t : D → Env → Option Env} {u : List D → Env → Option Env} {x : Str}
theorem tg_name {i : Nat} (hN : X.N.Nodup) (hi : X.N[i]? = some x := by rfl) (hx : Loc X.env.scope x := by first | exact Or.inl rfl | exact Or.inr rfl) (hc : (c.fx.all fun j => j != i) = true := by rfl) (hf : X.fn x = true ∨ X.env.scope.names.lookup x = some .local := by first | exact .inl rfl | exact .inr rfl) :
    PG X (.Name x pos) (tgD X.K c (tName i)) := ⟨fun pins s σ H v w Q I r ⟨F, ρ, O, d, ρ', ev, rv, ht, q⟩ => by
  refine (pg_name (pos := pos) hN hi hx hf).run pins s σ H v w Q I r ?_
  cases ht
  obtain ⟨O', e'⟩ := ev.putD rv (slen hi I) hc
  exact q _ F H O' (New.refl ev.sub) e' (List.length_set ..)⟩
theorem tg_nil : PGs X [] (tgsD X.K c tsNil) := ⟨fun pins s σ H vs us Q I r ⟨F, ρ, O, xs, ρ', ev, rv, ht, q⟩ => by
  refine pgs_nil.run pins s σ H vs us Q I r ?_
  cases rv with
  | nil => cases ht; exact ⟨rfl, q σ F H O (New.refl ev.sub) ev rfl⟩
  | cons _ _ => cases ht⟩
theorem tg_cons (h1 : PG X e (tgD X.K c t)) (h2 : PGs X es (tgsD X.K c u)) (hs : (assignEach (e :: es) X.env).map (·.2) = assign e X.env :: (assignEach es X.env).map (·.2) := by rfl) : PGs X (e :: es) (tgsD X.K c (tsCons t u)) := ⟨fun pins s σ H vs us Q I r ⟨F, ρ, O, xs, ρ', ev, rv, ht, q⟩ => by
  refine (pgs_cons h1 h2 hs).run pins s σ H vs us Q I r ?_
  cases rv with
  | nil => cases ht
  | cons r1 r2 =>
    obtain ⟨ρ1, h3, h4⟩ := Option.bind_eq_some_iff.mp ht
    exact ⟨_, _, rfl, F, ρ, O, _, ρ1, ev, r1, h3, fun σ1 F1 H1 O1 n1 e1 l1 => ⟨F1, ρ1, O1, _, ρ', e1, r2.mono n1.fF, h4, fun σ2 F2 H2 O2 n2 e2 l2 => q σ2 F2 H2 O2 (n1.trans n2) e2 (l2.trans l1)⟩⟩⟩
theorem tg_tup {k n : Nat} (hc : X.calm = true) (h : PGs X es (tgsD X.K c u)) (hn : (assignEach es X.env).length = n := by rfl) (hst : (assignEach es X.env).findIdx? (·.1) = none := by rfl) : PG X (.Tuple es k pos) (tgD X.K c (tTup n u)) := ⟨fun pins s σ H v w Q I r ⟨F, ρ, O, d, ρ', ev, rv, ht, q⟩ => by
  refine (pg_tup (pos := pos) (k := k) hc h hn hst).run pins s σ H v w Q I r ?_
  unfold tTup at ht
  split at ht
  · split at ht
    · rename_i hl
      cases rv with
      | tup ha rr => exact ⟨_, _, rfl, sq_t ev.sub ha, by rw [rr.length]; exact hl, F, ρ, O, _, ρ', ev, rr, ht, q⟩
    · cases ht
  · cases ht⟩
end
abbrev Ct.at (c : Ct) (F H : Hp) (O : List Addr) (σ : Sl) : Ct := ⟨c.ca, F, H, O, c.fx, σ, c.W⟩
theorem EnvR.self {K : Frag} {c : Ct} {F H : Hp} {σ : Sl} {ρ : Env} {O : List Addr} (e : EnvR K c F H σ ρ O) : EnvR K (c.at F H O σ) F H σ ρ O :=
  ⟨e.sub, Same.refl _, fun b o q _ => q, fun b _ _ q => q, e.sl, e.nd, fun p hp => ⟨(e.ow p hp).1, .inl hp⟩, fun i _ => rfl⟩
theorem EnvR.trans {K : Frag} {c : Ct} {F1 H1 F H : Hp} {σ1 σ : Sl} {ρ1 ρ : Env} {O1 O : List Addr} (a : EnvR K c F1 H1 σ1 ρ1 O1) (b : EnvR K (c.at F1 H1 O1 σ1) F H σ ρ O) : EnvR K c F H σ ρ O where
  sub := b.sub
  f0 := a.f0.trans b.f0
  h0 := fun x o q h => b.h0 x o (a.h0 x o q h) fun z => by
    rcases (a.ow x z).2 with w | w
    · exact h w
    · rw [w] at q; cases q
  n0 := fun x h1 h2 h3 => by
    cases q : c.H x with
    | none => exact absurd q h1
    | some o =>
      refine b.n0 x (fun z => ?_) (fun z => ?_) (a.n0 x h1 h2 h3)
      · have z : H1 x = none := z
        rw [a.h0 x o q h2] at z; cases z
      · rcases (a.ow x z).2 with w | w
        · exact h2 w
        · exact h1 w
  sl := b.sl
  nd := b.nd
  ow := fun p hp => ⟨(b.ow p hp).1, by
    rcases (b.ow p hp).2 with z | z
    · exact (a.ow p z).2
    · by_cases hc : p ∈ c.O
      · exact .inl hc
      · refine .inr ?_
        cases q : c.H p with
        | none => rfl
        | some o =>
          have z : H1 p = none := z
          rw [a.h0 p o q hc] at z; cases z⟩
  fx := fun i hi => (b.fx i hi).trans (a.fx i hi)
theorem Apart.trans {K : Frag} {c : Ct} {F1 H1 F : Hp} {σ1 : Sl} {ρ1 : Env} {O1 O A : List Addr} (a : EnvR K c F1 H1 σ1 ρ1 O1) (b : Apart (c.at F1 H1 O1 σ1) F A O) : Apart c F A O := ⟨b.nd, fun p hp => ⟨(b.ow p hp).1, by
    rcases (b.ow p hp).2 with z | z
    · exact (a.ow p z).2
    · by_cases hc : p ∈ c.O
      · exact .inl hc
      · refine .inr ?_
        cases q : c.H p with
        | none => rfl
        | some o =>
          have z : H1 p = none := z
          rw [a.h0 p o q hc] at z; cases z⟩⟩
def forGo (tg : D → Env → Option Env) (b : M Fl) : List D → M Fl
  | [] => fun ρ => .ok .nx ρ
  | x :: xs => fun ρ => match tg x ρ with
    | none => .bad
    | some ρ1 => (b ρ1).bind fun f ρ2 => match f with
      | .nx => forGo tg b xs ρ2
      | .ct => forGo tg b xs ρ2
      | .bk => .ok .nx ρ2
      | .rt o => .ok (.rt o) ρ2
def sFor (it : M (List D)) (tg : D → Env → Option Env) (b : M Fl) : M Fl := fun ρ => (it ρ).bind fun xs ρ1 => forGo tg b xs ρ1
section
variable {X : Cx} {c : Ct} {tg e d : Expr} {body : List Stmt} {pos : Pos} {pu : Bool} {mi : M (List D)} {b : M Fl} {t : D → Env → Option Env}
def tsE (K : Frag) (c : Ct) (m : M Fl) : TS := fun D σ H => ∃ F0 H0 O0 σ0, ts K (c.at F0 H0 O0 σ0) m D σ H
def tgE (K : Frag) (c : Ct) (t : D → Env → Option Env) : TG := fun v σ H Q => ∃ F0 H0 O0 σ0, tgD K (c.at F0 H0 O0 σ0) t v σ H Q
theorem ss_at (hb : ∀ F H O σ, PSs X body (ts X.K (c.at F H O σ) b)) : PSs X body (tsE X.K c b) := ⟨fun pins s σ H D I ⟨F0, H0, O0, σ0, q⟩ => (hb F0 H0 O0 σ0).run pins s σ H D I q⟩
theorem tg_at (hg : ∀ F H O σ, PG X tg (tgD X.K (c.at F H O σ) t)) : PG X tg (tgE X.K c t) := ⟨fun pins s σ H v u Q I r ⟨F0, H0, O0, σ0, q⟩ => (hg F0 H0 O0 σ0).run pins s σ H v u Q I r q⟩
theorem exc_at {K : Frag} {F1 H1 : Hp} {σ1 : Sl} {ρ1 : Env} {O1 : List Addr} {ξ : Exc} {ρ' : Env} (a : EnvR K c F1 H1 σ1 ρ1 O1) (h : PXs K c ξ ρ') : PXs K (c.at F1 H1 O1 σ1) ξ ρ' := fun σ F H O cls d e x => h σ F H O cls d (a.trans e) x
theorem sv_for (hp : PassesOwn (model X.prog X.w) X.A X.env X.xe) (hc : X.calm = true) (hi : PI X tg e (ti X.K c pu mi)) (hg : ∀ F H O σ, PG X tg (tgD X.K (c.at F H O σ) t)) (hb : ∀ F H O σ, PSs X body (ts X.K (c.at F H O σ) b)) (hs : ∀ x, foldedSetIterable e X.env x = pure x := by intro _; rfl) :
    PS X (.For tg e body [] pos) (ts X.K c (sFor mi t b)) := (ps_for hp hc hi (tg_at hg) (ss_at hb) hs).imp fun Dn σ H ⟨F, ρ, O, ev, h⟩ => by
  refine ⟨F, ρ, O, ev, Res.post_imp (Res.post_bind h) (fun xs ρ1 h1 F1 H1 O1 J e1 s1 p1 it => ?_) fun _ _ h F' H' O' cls d => h σ F' H' O' cls d⟩
  refine ⟨fun i m σ' H' => m = xs.length - i ∧ i ≤ xs.length ∧ ∃ F2 ρ2 O2, EnvR X.K c F2 H' σ' ρ2 O2 ∧ Same F1 F2 ∧ (forGo t b (xs.drop i) ρ2).post (PS' X.K c Dn) (PXs X.K c), ⟨xs.length, by simp, Nat.zero_le _, F1, ρ1, O1, e1, Same.refl _, h1⟩, ?_⟩
  rintro i m σ' H' ⟨rfl, hi, F2, ρ2, O2, e2, s2, h2⟩
  by_cases hlt : i < xs.length
  · rw [List.drop_eq_getElem_cons hlt] at h2
    refine .inr ⟨it.go F2 H' s2 e2.sub i hlt, fun σ3 H3 => ∃ F3 ρ3 O3, EnvR X.K c F3 H3 σ3 ρ3 O3 ∧ Same F1 F3 ∧ (forGo t b (xs.drop (i + 1)) ρ3).post (PS' X.K c Dn) (PXs X.K c), fun σ3 H3 ⟨F3, ρ3, O3, e3, s3, h3⟩ => ⟨xs.length - (i + 1), by omega, rfl, hlt, F3, ρ3, O3, e3, s3, h3⟩, fun x H3 y => ?_⟩
    obtain ⟨F3, dx, n3, hd, r3⟩ := it.yl F2 H' s2 e2.sub i x H3 hlt y
    rw [List.getElem?_eq_getElem hlt] at hd
    cases hd
    have h2' : (match t xs[i] ρ2 with
      | none => Res.bad
      | some ρ1 => (b ρ1).bind fun f ρ2 => match f with
        | .nx => forGo t b (xs.drop (i + 1)) ρ2
        | .ct => forGo t b (xs.drop (i + 1)) ρ2
        | .bk => .ok .nx ρ2
        | .rt o => .ok (.rt o) ρ2).post (PS' X.K c Dn) (PXs X.K c) := h2
    cases ht : t xs[i] ρ2 with
    | none => rw [ht] at h2'; exact h2'.elim
    | some ρ3 =>
      rw [ht] at h2'
      have e3 := e2.new n3
      refine ⟨F3, H3, O2, σ', F3, ρ2, O2, _, ρ3, e3.self, r3, ht, fun σ4 F4 H4 O4 n4 e4 _ => ?_⟩
      refine ⟨F3, H3, O2, σ', F4, ρ3, O4, e4, Res.post_imp (Res.post_bind h2') (fun f ρ5 h5 => ?_) fun _ _ h => exc_at e3 h⟩
      cases f with
      | nx => exact fun σ6 F6 H6 O6 e6 => ⟨F6, ρ5, O6, e3.trans e6, (s2.trans n3.fF).trans e6.f0, h5⟩
      | ct => exact fun σ6 F6 H6 O6 e6 => ⟨F6, ρ5, O6, e3.trans e6, (s2.trans n3.fF).trans e6.f0, h5⟩
      | bk => exact fun σ6 F6 H6 O6 e6 => h5 σ6 F6 H6 O6 (e3.trans e6)
      | rt o => exact fun σ6 F6 H6 O6 A v e6 r6 a6 => h5 σ6 F6 H6 O6 A v (e3.trans e6) r6 (Apart.trans e3 a6)
  · have e : i = xs.length := by omega
    subst e
    rw [List.drop_length] at h2
    exact .inl ⟨it.st F2 H' s2 e2.sub _ (Nat.le_refl _), h2 σ' F2 H' O2 e2⟩
def whileGo (t : M Bool) (b : M Fl) : Nat → M Fl
  | 0 => fun _ => .bad
  | n + 1 => fun ρ => (t ρ).bind fun x ρ1 => if x = true then (b ρ1).bind fun f ρ2 => match f with
      | .nx => whileGo t b n ρ2
      | .ct => whileGo t b n ρ2
      | .bk => .ok .nx ρ2
      | .rt o => .ok (.rt o) ρ2
    else .ok .nx ρ1
open Classical in
noncomputable def sWhile (t : M Bool) (b : M Fl) : M Fl := fun ρ => if h : ∃ n, whileGo t b n ρ ≠ .bad then whileGo t b (Classical.choose h) ρ else .bad
theorem whileGo_more {t : M Bool} {b : M Fl} : ∀ {n : Nat} {ρ : Env}, whileGo t b n ρ ≠ .bad → whileGo t b (n + 1) ρ = whileGo t b n ρ
  | 0, ρ, h => absurd rfl h
  | n + 1, ρ, h => by
    have e : whileGo t b (n + 1) ρ = ((t ρ).bind fun x ρ1 => if x = true then (b ρ1).bind fun f ρ2 => match f with
      | .nx => whileGo t b n ρ2
      | .ct => whileGo t b n ρ2
      | .bk => .ok .nx ρ2
      | .rt o => .ok (.rt o) ρ2
      else .ok .nx ρ1) := rfl
    have e2 : whileGo t b (n + 1 + 1) ρ = ((t ρ).bind fun x ρ1 => if x = true then (b ρ1).bind fun f ρ2 => match f with
      | .nx => whileGo t b (n + 1) ρ2
      | .ct => whileGo t b (n + 1) ρ2
      | .bk => .ok .nx ρ2
      | .rt o => .ok (.rt o) ρ2
      else .ok .nx ρ1) := rfl
    rw [e] at h ⊢
    rw [e2]
    cases ht : t ρ with
    | bad => rfl
    | ex ξ ρ1 => rfl
    | ok x ρ1 =>
      rw [ht] at h
      cases x with
      | false => rfl
      | true =>
        show ((b ρ1).bind _) = ((b ρ1).bind _)
        have h : ((b ρ1).bind fun f ρ2 => match f with
          | .nx => whileGo t b n ρ2
          | .ct => whileGo t b n ρ2
          | .bk => .ok .nx ρ2
          | .rt o => .ok (.rt o) ρ2) ≠ .bad := h
        cases hb : b ρ1 with
        | bad => rfl
        | ex ξ ρ2 => rfl
        | ok f ρ2 =>
          rw [hb] at h
          cases f with
          | nx => exact whileGo_more (n := n) h
          | ct => exact whileGo_more (n := n) h
          | bk => rfl
          | rt o => rfl
theorem whileGo_le {t : M Bool} {b : M Fl} {n m : Nat} {ρ : Env} (hl : n ≤ m) (h : whileGo t b n ρ ≠ .bad) : whileGo t b m ρ = whileGo t b n ρ := by
  induction m with
  | zero =>
    have e : n = 0 := by omega
    subst e
    rfl
  | succ m ih =>
    by_cases e : n = m + 1
    · subst e; rfl
    · have hl : n ≤ m := by omega
      have q := ih hl
      rw [whileGo_more (by rw [q]; exact h), q]
theorem sWhile_eq {t : M Bool} {b : M Fl} {n : Nat} {ρ : Env} (h : whileGo t b n ρ ≠ .bad) : sWhile t b ρ = whileGo t b n ρ := by
  unfold sWhile
  have hx : ∃ n, whileGo t b n ρ ≠ .bad := ⟨n, h⟩
  rw [dif_pos hx]
  have hc := Classical.choose_spec hx
  rcases Nat.le_total n (Classical.choose hx) with hl | hl
  · exact whileGo_le hl h
  · exact (whileGo_le hl hc).symm
theorem sv_while {tst : M Bool} (hp : PassesOwn (model X.prog X.w) X.A X.env X.xe) (hd : PT X d (tt X.K c pu tst)) (hb : PSs X body (ts X.K c b)) : PS X (.While d body [] pos) (ts X.K c (sWhile tst b)) := (ps_while hp hd hb).imp fun Dn σ H ⟨F, ρ, O, ev, h⟩ => by
  unfold sWhile at h
  split at h
  · rename_i hx
    generalize Classical.choose hx = n at h
    refine ⟨fun m σ H => ∃ F ρ O, EnvR X.K c F H σ ρ O ∧ (whileGo tst b m ρ).post (PS' X.K c Dn) (PXs X.K c), ⟨n, F, ρ, O, ev, h⟩, ?_⟩
    rintro m σ1 H1 ⟨F1, ρ1, O1, e1, h1⟩
    cases m with
    | zero => exact h1.elim
    | succ m =>
      refine tt_stepS e1 h1 fun x ρ2 F2 H2 O2 h2 e2 s2 p2 => ?_
      cases x with
      | false => exact h2 σ1 F2 H2 O2 e2
      | true =>
        rw [if_pos rfl] at h2 ⊢
        refine ⟨fun σ3 H3 => ∃ F3 ρ3 O3, EnvR X.K c F3 H3 σ3 ρ3 O3 ∧ (whileGo tst b m ρ3).post (PS' X.K c Dn) (PXs X.K c), fun σ3 H3 q => ⟨m, Nat.lt_succ_self m, q⟩, ?_⟩
        refine ⟨F2, ρ2, O2, e2, Res.post_imp (Res.post_bind h2) (fun f ρ3 h3 => ?_) fun _ _ h => h⟩
        cases f with
        | nx => exact fun σ4 F4 H4 O4 e4 => ⟨F4, ρ3, O4, e4, h3⟩
        | ct => exact fun σ4 F4 H4 O4 e4 => ⟨F4, ρ3, O4, e4, h3⟩
        | bk => exact h3
        | rt o => exact h3
  · exact h.elim
end
end DL
end
section
set_option maxRecDepth 100000
set_option maxHeartbeats 4000000
namespace DL
open PySem PySem.Spec PyProof.Rows L2
def wipeE (ρ : Env) : List Nat → Env
  | [] => ρ
  | v :: vs => (wipeE ρ vs).set v none
def backE (ρ1 : Env) : List Nat → Env → Env
  | [], ρ2 => ρ2
  | v :: vs, ρ2 => backE ρ1 vs (ρ2.set v (match ρ1[v]? with
    | some w => w
    | none => none))
def dataAt (ρ1 : Env) : List Nat → Bool
  | [] => true
  | v :: vs => (match ρ1[v]? with
    | some (some (.d _)) => !vs.contains v
    | some (some _) => false
    | _ => true) && dataAt ρ1 vs
section
variable {K : Frag} {c : Ct} {F H : Hp} {σ : Sl} {ρ : Env} {O : List Addr}
theorem EnvR.wipe1 (e : EnvR K c F H σ ρ O) {i : Nat} (hf : (c.fx.all fun j => j != i) = true) : ∃ R, EnvR K c F H (σ.set i none) (ρ.set i none) R ∧ ∀ b ∈ R, b ∈ O := by
  by_cases hi : i < σ.length
  · obtain ⟨R, h1, h2, h3, _⟩ := e.sl.put (i := i) hi
    refine ⟨R, ⟨e.sub, e.f0, e.h0, e.n0, h3 none, h2 e.nd, fun p hp => e.ow p (h1 p hp), fun j hj => ?_⟩, h1⟩
    have z := List.all_eq_true.mp hf j hj
    have z : j ≠ i := by simpa using z
    rw [List.getElem?_set_ne (Ne.symm z)]
    exact e.fx j hj
  · have hl := e.sl.length
    rw [List.set_eq_of_length_le (by omega), List.set_eq_of_length_le (by omega)]
    exact ⟨O, e, fun _ h => h⟩
theorem EnvR.wipe (e : EnvR K c F H σ ρ O) : ∀ {vs : List Nat}, (vs.all fun i => c.fx.all fun j => j != i) = true → ∃ R, EnvR K c F H (L2.wipe σ vs) (wipeE ρ vs) R ∧ ∀ b ∈ R, b ∈ O
  | [], _ => ⟨O, e, fun _ h => h⟩
  | v :: vs, hf => by
    rw [List.all_cons, Bool.and_eq_true] at hf
    obtain ⟨R, h1, h2⟩ := EnvR.wipe e hf.2
    obtain ⟨R', h3, h4⟩ := h1.wipe1 hf.1
    exact ⟨R', h3, fun b hb => h2 b (h4 b hb)⟩
theorem slr_set_one {v : Option V} {w : Option OV} {R : List Addr} {i : Nat} {τ : Sl} (e : SlR K c.ca F H (τ.set i none) ρ O) (hv : τ[i]? = some v) (hw : w = none ∨ ∃ u x, v = some u ∧ w = some (.d x) ∧ Rp K F u x) :
    ∃ O', SlR K c.ca F H τ (ρ.set i w) O' ∧ (∀ b ∈ O', b ∈ O) ∧ (O.Nodup → O'.Nodup) := by
  have hi : i < (τ.set i none).length := by rw [List.length_set]; exact (List.getElem?_eq_some_iff.mp hv).1
  obtain ⟨R, h1, h2, h3, h4⟩ := e.put (i := i) hi
  have es : (τ.set i none).set i v = τ := by rw [List.set_set, set_self hv]
  rcases hw with rfl | ⟨u, x, rfl, rfl, r⟩
  · have z := h3 v
    rw [es] at z
    exact ⟨R, z, h1, h2⟩
  · obtain ⟨O', k1, k2⟩ := h4 u (.d x) [] (.d r)
    rw [es] at k1
    exact ⟨O', k1, fun b hb => h1 b (by simpa using k2.mem_iff.mp hb), fun n => k2.nodup_iff.mpr (by simpa using h2 n)⟩
theorem slr_back {F1 H1 : Hp} {ρ1 : Env} {O1 : List Addr} (a : SlR K c.ca F1 H1 σ ρ1 O1) (s : Same F1 F) : ∀ {vs : List Nat} {ρ2 : Env} {O2 : List Addr}, SlR K c.ca F H (L2.wipe σ vs) ρ2 O2 → dataAt ρ1 vs = true →
    ∃ O3, SlR K c.ca F H σ (backE ρ1 vs ρ2) O3 ∧ (∀ b ∈ O3, b ∈ O2) ∧ (O2.Nodup → O3.Nodup)
  | [], ρ2, O2, e, _ => ⟨O2, e, fun _ h => h, fun h => h⟩
  | v :: vs, ρ2, O2, e, hd => by
    unfold dataAt at hd
    rw [Bool.and_eq_true] at hd
    have e' : SlR K c.ca F H ((L2.wipe σ vs).set v none) ρ2 O2 := e
    by_cases hv : v < (L2.wipe σ vs).length
    · obtain ⟨O', k1, k2, k3⟩ := slr_set_one (R := []) (w := match ρ1[v]? with
        | some w => w
        | none => none) e' (List.getElem?_eq_getElem hv) (by
        cases q : ρ1[v]? with
        | none => exact .inl rfl
        | some w =>
          cases w with
          | none => exact .inl rfl
          | some o =>
            have hd1 := hd.1
            rw [q] at hd1
            cases o with
            | d x =>
              refine .inr ?_
              obtain ⟨u, A, R, t1, t2, _⟩ := a.at q
              cases t2 with
              | d r =>
                have hn : v ∉ vs := by simpa using hd1
                have z := wipe_out (σ := σ) hn
                rw [t1, List.getElem?_eq_getElem hv] at z
                exact ⟨u, x, Option.some.inj z, rfl, r.mono s⟩
            | lst _ => cases hd1
            | dct _ => cases hd1
            | dctT _ => cases hd1
            | obj _ _ => cases hd1)
      obtain ⟨O3, m1, m2, m3⟩ := slr_back a s k1 hd.2
      exact ⟨O3, m1, fun b hb => k2 b (m2 b hb), fun n => m3 (k3 n)⟩
    · have hl := e'.length
      rw [List.length_set] at hl
      rw [List.set_eq_of_length_le (Nat.le_of_not_lt hv)] at e'
      obtain ⟨O3, m1, m2, m3⟩ := slr_back a s e' hd.2
      refine ⟨O3, ?_, m2, m3⟩
      unfold backE
      rw [List.set_eq_of_length_le (by omega)]
      exact m1
theorem wipe_in {i : Nat} : ∀ {vs : List Nat}, i ∈ vs → i < σ.length → (L2.wipe σ vs)[i]? = some none
  | v :: vs, h, hl => by
    unfold L2.wipe
    by_cases e : v = i
    · subst e
      rw [List.getElem?_set_self (by rw [wipe_length]; exact hl)]
    · rw [List.getElem?_set_ne e]
      exact wipe_in (by
        rcases List.mem_cons.mp h with h | h
        · exact absurd h.symm e
        · exact h) hl
theorem wipe_eq {σ2 : Sl} {vs fb : List Nat} {n : Nat} (hn : σ.length = n) (hl : σ2.length = (L2.wipe σ vs).length) (hall : ((List.range n).all fun i => vs.contains i || fb.contains i) = true) (hf : ∀ i ∈ fb, σ2[i]? = (L2.wipe σ vs)[i]?) : L2.wipe σ2 vs = L2.wipe σ vs := by
  rw [wipe_length] at hl
  refine List.ext_getElem? fun i => ?_
  by_cases hi : i < n
  · by_cases hm : i ∈ vs
    · rw [wipe_in hm (by omega), wipe_in hm (by omega)]
    · rw [wipe_out hm]
      have z := List.all_eq_true.mp hall i (List.mem_range.mpr hi)
      have z : i ∈ fb := by
        rcases Bool.or_eq_true_iff.mp z with z | z
        · exact absurd (by simpa using z) hm
        · simpa using z
      exact hf i z
  · rw [List.getElem?_eq_none (by rw [wipe_length]; omega), List.getElem?_eq_none (by rw [wipe_length]; omega)]
end
def Res.bindN {α β : Type} : Res α → (α → Env → Res β) → Res β
  | .ok a ρ, k => k a ρ
  | .ex _ _, _ => .bad
  | .bad, _ => .bad
theorem post_bindN {α β : Type} {r : Res α} {k : α → Env → Res β} {P : β → Env → Prop} {E : Exc → Env → Prop} (h : (r.bindN k).post P E) : r.post (fun a ρ => (k a ρ).post P E) fun _ _ => False := by
  cases r <;> exact h
def lcGo (vs : List Nat) (t : D → Env → Option Env) (tst : M Bool) (e : M D) : List D → M (List D)
  | [] => fun ρ => .ok [] ρ
  | x :: xs => fun ρ => match t x ρ with
    | none => .bad
    | some ρ1 => (tst ρ1).bindN fun b ρ2 => if b = true then (e ρ2).bindN fun y ρ3 => (lcGo vs t tst e xs (wipeE ρ3 vs)).bindN fun ys ρ4 => .ok (y :: ys) ρ4 else lcGo vs t tst e xs (wipeE ρ2 vs)
def mLc (vs : List Nat) (it : M (List D)) (t : D → Env → Option Env) (tst : M Bool) (e : M D) : M (List D) := fun ρ => (it ρ).bind fun xs ρ1 => if dataAt ρ1 vs = true then (lcGo vs t tst e xs (wipeE ρ1 vs)).bindN fun ys ρ2 => .ok ys (backE ρ1 vs ρ2) else .bad
def mYes : M Bool := fun ρ => .ok true ρ
abbrev Ct.blk (c : Ct) (fb : List Nat) (F H : Hp) (O : List Addr) (σ : Sl) : Ct := ⟨c.ca, F, H, O, fb, σ, fun _ _ _ _ => False⟩
section
variable {X : Cx} {c : Ct} {tg e elt : Expr} {pos : Pos} {pi pt pe : Bool} {mi : M (List D)} {t : D → Env → Option Env} {tst : M Bool} {me : M D} {scope : Scope} {own : List (Str × Nat)} {ifs : List Expr} {fb : List Nat}
theorem st_yes : ∀ {X : Cx} {c : Ct}, PTs X [] (tt X.K c true mYes) := ⟨fun pins s σ H Q I ⟨F, ρ, O, e, h⟩ => pts_nil.run pins s σ H Q I (h F H O e (Same.refl _) fun _ => Same.refl _)⟩
structure Out (K : Frag) (F H : Hp) (D0 : Addr) (O : List Addr) (a : List V) (xs : List D) : Prop where
  at_ : H D0 = some (.lst a)
  rp : RpAll K F a xs
  nf : F D0 = none
  no : D0 ∉ O
theorem Out.step {K : Frag} {cb : Ct} {F H F' H' : Hp} {D0 : Addr} {O O' : List Addr} {σ σ' : Sl} {ρ' : Env} {a : List V} {xs : List D} (o : Out K F H D0 O a xs) (e : EnvR K (cb.at F H O σ) F' H' σ' ρ' O') : Out K F' H' D0 O' a xs := by
  refine ⟨e.h0 _ _ o.at_ o.no, o.rp.mono e.f0, e.n0 D0 (fun z => by have z : H D0 = none := z; rw [o.at_] at z; cases z) o.no o.nf, fun hm => ?_⟩
  rcases (e.ow D0 hm).2 with z | z
  · exact o.no z
  · have z : H D0 = none := z
    rw [o.at_] at z
    cases z
theorem pe_len {e : Expr} {t : TE} (h : PE X e t) : PE X e (fun σ H Q => σ.length = X.N.length → t σ H Q) := ⟨fun pins s σ H Q I q => h.run pins s σ H Q I (q I.len)⟩
def ttE (K : Frag) (c : Ct) (fb : List Nat) (pu : Bool) (m : M Bool) : TT := fun σ H Q => ∃ F0 H0 O0 σ0, tt K (c.blk fb F0 H0 O0 σ0) pu m σ H Q
def teE (K : Frag) (c : Ct) (fb : List Nat) (pu : Bool) (m : M D) : TE := fun σ H Q => ∃ F0 H0 O0 σ0, te K (c.blk fb F0 H0 O0 σ0) false pu m σ H Q
def tgB (K : Frag) (c : Ct) (fb : List Nat) (t : D → Env → Option Env) : TG := fun v σ H Q => ∃ F0 H0 O0 σ0, tgD K (c.blk fb F0 H0 O0 σ0) t v σ H Q
theorem lc_step {n : Nat} {vs : List Nat} {σ : Sl} {H : Hp} {Q : VK} (hlen : σ.length = n) (hvf : (vs.all fun i => fb.all fun j => j != i) = true) (hall : ((List.range n).all fun i => vs.contains i || fb.contains i) = true) (hcf : (vs.all fun i => c.fx.all fun j => j != i) = true)
    (h0 : tn X.K c (pi && (pt && pe)) (mLc vs mi t tst me) σ H Q) : tLc (ti X.K c pi mi) (tgB X.K c fb t) (ttE X.K c fb pt tst) (teE X.K c fb pe me) vs σ H Q := by
  obtain ⟨F, ρ, O, ev, h⟩ := h0
  refine ⟨F, ρ, O, ev, Res.post_imp (Res.post_bind h) (fun xs ρ1 h1 F1 H1 O1 J e1 s1 p1 it D0 hD => ?_) fun _ _ h => h⟩
  split at h1
  rotate_left
  · exact h1.elim
  rename_i hda
  -- the block's entry
  obtain ⟨R, ew, hR⟩ := e1.wipe (vs := vs) hcf
  have nD := New.own e1.sub hD (.lst ([] : List V))
  have ew := ew.new nD
  have h2 := post_bindN h1
  have start : EnvR X.K (c.blk fb F1 (upd H1 D0 (.lst [])) (D0 :: R) (L2.wipe σ vs)) F1 (upd H1 D0 (.lst [])) (L2.wipe σ vs) (wipeE ρ1 vs) R :=
    ⟨ew.sub, Same.refl _, fun b o q _ => q, fun b _ _ q => q, ew.sl, ew.nd, fun p hp => ⟨(ew.ow p hp).1, .inl (List.mem_cons_of_mem _ hp)⟩, fun i _ => rfl⟩
  have DR : D0 ∉ R := fun z => e1.sl.there D0 (hR D0 z) hD
  generalize hcb : c.blk fb F1 (upd H1 D0 (.lst [])) (D0 :: R) (L2.wipe σ vs) = cb at start
  have cbat : ∀ F H O σ, cb.at F H O σ = c.blk fb F H O σ := fun F H O σ => by rw [← hcb]
  have cbfx : cb.fx = fb := by rw [← hcb]
  refine ⟨fun i m H' => m = xs.length - i ∧ i ≤ xs.length ∧ ∃ F2 ρ2 O2 a acc, EnvR X.K cb F2 H' (L2.wipe σ vs) ρ2 O2 ∧ Out X.K F2 H' D0 O2 a acc ∧ acc.length ≤ i ∧ ((pt && pe) = true → Same H1 H') ∧
      (lcGo vs t tst me (xs.drop i) ρ2).post (fun ys ρ3 => PN X.K c (pi && (pt && pe)) F H σ Q (acc ++ ys) (backE ρ1 vs ρ3)) (fun _ _ => False),
    ⟨xs.length, by simp, Nat.zero_le _, F1, wipeE ρ1 vs, R, [], [], start, ⟨upd_same, .nil, e1.sub.free hD, DR⟩, Nat.zero_le _, fun _ => nD.hH, h2⟩, ?_⟩
  rintro i m H' ⟨rfl, hil, F2, ρ2, O2, a, acc, e2, out, hacc, pur, h3⟩
  have s2 : Same F1 F2 := by have z := e2.f0; rw [← hcb] at z; exact z
  by_cases hlt : i < xs.length
  · rw [List.drop_eq_getElem_cons hlt] at h3
    refine .inr ⟨it.go F2 H' s2 e2.sub i hlt, fun H3 => ∃ F3 ρ3 O3 a' acc', EnvR X.K cb F3 H3 (L2.wipe σ vs) ρ3 O3 ∧ Out X.K F3 H3 D0 O3 a' acc' ∧ acc'.length ≤ i + 1 ∧ ((pt && pe) = true → Same H1 H3) ∧
      (lcGo vs t tst me (xs.drop (i + 1)) ρ3).post (fun ys ρ4 => PN X.K c (pi && (pt && pe)) F H σ Q (acc' ++ ys) (backE ρ1 vs ρ4)) (fun _ _ => False), fun H3 ⟨F3, ρ3, O3, a', acc', q1, q2, q3, q4, q5⟩ => ⟨xs.length - (i + 1), by omega, rfl, hlt, F3, ρ3, O3, a', acc', q1, q2, q3, q4, q5⟩, fun x H3 y => ?_⟩
    obtain ⟨F3, dx, n3, hd, r3⟩ := it.yl F2 H' s2 e2.sub i x H3 hlt y
    rw [List.getElem?_eq_getElem hlt] at hd
    cases hd
    have h3' : (match t xs[i] ρ2 with
      | none => Res.bad
      | some ρ1 => (tst ρ1).bindN fun b ρ2 => if b = true then (me ρ2).bindN fun y ρ3 => (lcGo vs t tst me (xs.drop (i + 1)) (wipeE ρ3 vs)).bindN fun ys ρ4 => .ok (y :: ys) ρ4 else lcGo vs t tst me (xs.drop (i + 1)) (wipeE ρ2 vs)).post
        (fun ys ρ3 => PN X.K c (pi && (pt && pe)) F H σ Q (acc ++ ys) (backE ρ1 vs ρ3)) (fun _ _ => False) := h3
    cases htx : t xs[i] ρ2 with
    | none => rw [htx] at h3'; exact h3'.elim
    | some ρ3 =>
      rw [htx] at h3'
      have e3 := e2.new n3
      have out3 : Out X.K F3 H3 D0 O2 a acc := ⟨n3.hH _ _ out.at_, out.rp.mono n3.fF, n3.nw D0 (fun z => by rw [out.at_] at z; cases z) out.nf, out.no⟩
      refine ⟨F3, H3, O2, L2.wipe σ vs, F3, ρ2, O2, _, ρ3, ?_, r3, htx, fun σ4 F4 H4 O4 n4 e4 l4 => ?_⟩
      · rw [← cbat]; exact e3.self
      · rw [← cbat] at e4
        have a4 := e3.trans e4
        have out4 := out3.step e4
        refine ⟨wipe_eq hlen l4 hall fun j hj => e4.fx j (by rw [← cbfx] at hj; exact hj), ?_⟩
        have hw : L2.wipe σ4 vs = L2.wipe σ vs := wipe_eq hlen l4 hall fun j hj => e4.fx j (by rw [← cbfx] at hj; exact hj)
        refine ⟨F4, H4, O4, σ4, F4, ρ3, O4, by rw [← cbat]; exact a4.self, Res.post_imp (post_bindN h3') (fun b ρ5 h5 F5 H5 O5 e5 s5 p5 => ?_) fun _ _ h => h.elim⟩
        rw [← cbat] at e5
        have a5 := a4.trans e5
        have out5 := out4.step e5
        cases b with
        | false =>
          rw [if_neg Bool.false_ne_true] at h5 ⊢
          obtain ⟨R5, w5, hR5⟩ := a5.wipe (vs := vs) (by rw [cbfx]; exact hvf)
          rw [hw] at w5
          exact ⟨F5, wipeE ρ5 vs, R5, a, acc, w5, ⟨out5.at_, out5.rp, out5.nf, fun z => out5.no (hR5 _ z)⟩, by omega, fun q => (((pur q).trans n3.hH).trans n4.hH).trans (p5 (Bool.and_eq_true_iff.mp q).1), h5⟩
        | true =>
          rw [if_pos rfl] at h5 ⊢
          refine ⟨F5, H5, O5, σ4, F5, ρ5, O5, by rw [← cbat]; exact a5.self, Res.post_imp (post_bindN h5) (fun yv ρ6 h6 F6 H6 O6 v6 e6 s6 p6 r6 => ?_) fun _ _ h => h.elim⟩
          rw [← cbat] at e6
          have a6 := a5.trans e6
          have out6 := out5.step e6
          obtain ⟨R6, w6, hR6⟩ := a6.wipe (vs := vs) (by rw [cbfx]; exact hvf)
          rw [hw] at w6
          have noR6 : D0 ∉ R6 := fun z => out6.no (hR6 _ z)
          have few := it.few
          refine ⟨a, out6.at_, by rw [out6.rp.length]; omega, F6, wipeE ρ6 vs, R6, a ++ [v6], acc ++ [yv], ?_, ⟨upd_same, out6.rp.append (.one r6), out6.nf, noR6⟩, by rw [List.length_append]; simp; omega, fun q => ?_, ?_⟩
          · refine ⟨fun b u q => ?_, w6.f0, fun b o q hb => ?_, w6.n0, w6.sl.mono (Same.refl _) fun b hb => upd_ne fun z => noR6 (by rw [← z]; exact hb), w6.nd, w6.ow, w6.fx⟩
            · rw [upd_ne fun z => by rw [z, out6.nf] at q; cases q]
              exact w6.sub b u q
            · rw [upd_ne fun z => hb (by rw [z, ← hcb]; exact List.mem_cons_self)]
              exact w6.h0 b o q hb
          · obtain ⟨q1, q2⟩ := Bool.and_eq_true_iff.mp q
            refine fun b o hb => ?_
            rw [upd_ne fun z => by rw [z, hD] at hb; cases hb]
            exact p6 q2 _ _ (p5 q1 _ _ (n4.hH _ _ (n3.hH _ _ (pur q b o hb))))
          · have z := post_bindN h6
            refine Res.post_imp z (fun ys ρ7 h7 => ?_) fun _ _ h => h
            have h7 : PN X.K c (pi && (pt && pe)) F H σ Q (acc ++ yv :: ys) (backE ρ1 vs ρ7) := h7
            rw [List.append_assoc]
            exact h7
  · have ei : i = xs.length := by omega
    subst ei
    rw [List.drop_length] at h3
    have h3 : PN X.K c (pi && (pt && pe)) F H σ Q (acc ++ []) (backE ρ1 vs ρ2) := h3
    rw [List.append_nil] at h3
    obtain ⟨O3, m1, m2, m3⟩ := slr_back (H := H') e1.sl s2 (by have z := e2.sl; rw [← hcb] at z; exact z) hda
    have fin : EnvR X.K c F2 H' σ (backE ρ1 vs ρ2) O3 := by
      rw [← hcb] at e2
      refine ⟨e2.sub, e1.f0.trans s2, fun b o q hb => ?_, fun b q1 q2 q3 => ?_, m1, m3 e2.nd, fun p hp => ?_, e1.fx⟩
      · have z := e1.h0 b o q hb
        have hbD : b ≠ D0 := fun k => by rw [k, hD] at z; cases z
        refine e2.h0 b o ?_ fun k => ?_
        · show upd H1 D0 _ b = _
          rw [upd_ne hbD]; exact z
        · rcases List.mem_cons.mp k with k | k
          · exact hbD k
          · rcases (ew.ow b k).2 with k2 | k2
            · exact hb k2
            · rw [q] at k2; cases k2
      · cases q : c.H b with
        | none => exact absurd q q1
        | some o =>
          have z := e1.h0 b o q q2
          have hbD : b ≠ D0 := fun k => by rw [k, hD] at z; cases z
          refine e2.n0 b (fun k => ?_) (fun k => ?_) (e1.n0 b q1 q2 q3)
          · have k : upd H1 D0 (.lst []) b = none := k
            rw [upd_ne hbD, z] at k; cases k
          · rcases List.mem_cons.mp k with k | k
            · exact hbD k
            · rcases (ew.ow b k).2 with k2 | k2
              · exact q2 k2
              · rw [q] at k2; cases k2
      · have hp2 := m2 p hp
        refine ⟨(e2.ow p hp2).1, ?_⟩
        have hpD : p ≠ D0 := fun k => out.no (by rw [← k]; exact hp2)
        rcases (e2.ow p hp2).2 with k | k
        · rcases List.mem_cons.mp k with k | k
          · exact absurd k hpD
          · exact (ew.ow p k).2
        · have k : upd H1 D0 (.lst []) p = none := k
          rw [upd_ne hpD] at k
          by_cases hc : p ∈ c.O
          · exact .inl hc
          · refine .inr ?_
            cases q : c.H p with
            | none => rfl
            | some o => rw [e1.h0 p o q hc] at k; cases k
    refine .inl ⟨it.st F2 H' s2 e2.sub _ (Nat.le_refl _), h3 F2 H' O3 D0 a fin (s1.trans s2) (fun q => ?_) out.at_ out.rp ⟨?_, fun p hp => ?_⟩⟩
    · obtain ⟨q1, q2⟩ := Bool.and_eq_true_iff.mp q
      exact (p1 q1).trans (pur q2)
    · rw [List.singleton_append, List.nodup_cons]
      exact ⟨fun k => out.no (m2 _ k), fin.nd⟩
    · rw [List.mem_singleton] at hp
      subst hp
      refine ⟨out.nf, ?_⟩
      by_cases hc : p ∈ c.O
      · exact .inl hc
      · refine .inr ?_
        cases q : c.H p with
        | none => rfl
        | some o => rw [e1.h0 p o q hc] at hD; cases hD
theorem blk_g (hg : ∀ F H O σ (s : Shared) (Hb : Hp) (C : Addr) (cl : List (Str × Addr)) (fp : List Addr), PG (X.blk s Hb scope (compEnvC scope cl C X.env) fp) tg (tgD X.K (c.blk fb F H O σ) t)) : ∀ (s : Shared) (Hb : Hp) (C : Addr) (cl : List (Str × Addr)) (fp : List Addr), PG (X.blk s Hb scope (compEnvC scope cl C X.env) fp) tg (tgB X.K c fb t) :=
  fun s H C cl fp => ⟨fun pins s' σ H' v u Q I r ⟨F0, H0, O0, σ0, q⟩ => (hg F0 H0 O0 σ0 s H C cl fp).run pins s' σ H' v u Q I r q⟩
theorem blk_t (ht : ∀ F H O σ (s : Shared) (Hb : Hp) (C : Addr) (cl : List (Str × Addr)) (fp : List Addr), PTs (X.blk s Hb scope (compEnvC scope cl C X.env) fp) ifs (tt X.K (c.blk fb F H O σ) pt tst)) : ∀ (s : Shared) (Hb : Hp) (C : Addr) (cl : List (Str × Addr)) (fp : List Addr), PTs (X.blk s Hb scope (compEnvC scope cl C X.env) fp) ifs (ttE X.K c fb pt tst) :=
  fun s H C cl fp => ⟨fun pins s' σ H' Q I ⟨F0, H0, O0, σ0, q⟩ => (ht F0 H0 O0 σ0 s H C cl fp).run pins s' σ H' Q I q⟩
theorem blk_e (he : ∀ F H O σ (s : Shared) (Hb : Hp) (C : Addr) (cl : List (Str × Addr)) (fp : List Addr), PE (X.blk s Hb scope (compEnvC scope cl C X.env) fp) elt (te X.K (c.blk fb F H O σ) false pe me)) : ∀ (s : Shared) (Hb : Hp) (C : Addr) (cl : List (Str × Addr)) (fp : List Addr), PE (X.blk s Hb scope (compEnvC scope cl C X.env) fp) elt (teE X.K c fb pe me) :=
  fun s H C cl fp => ⟨fun pins s' σ H' Q I ⟨F0, H0, O0, σ0, q⟩ => (he F0 H0 O0 σ0 s H C cl fp).run pins s' σ H' Q I q⟩
theorem n_lc (hc : X.calm = true) (hN : X.N.Nodup) (hi : PI X tg e (ti X.K c pi mi)) (ok : BlkOk X.N X.env.scope scope own)
    (hg : ∀ F H O σ (s : Shared) (Hb : Hp) (C : Addr) (cl : List (Str × Addr)) (fp : List Addr), PG (X.blk s Hb scope (compEnvC scope cl C X.env) fp) tg (tgD X.K (c.blk fb F H O σ) t))
    (ht : ∀ F H O σ (s : Shared) (Hb : Hp) (C : Addr) (cl : List (Str × Addr)) (fp : List Addr), PTs (X.blk s Hb scope (compEnvC scope cl C X.env) fp) ifs (tt X.K (c.blk fb F H O σ) pt tst))
    (he : ∀ F H O σ (s : Shared) (Hb : Hp) (C : Addr) (cl : List (Str × Addr)) (fp : List Addr), PE (X.blk s Hb scope (compEnvC scope cl C X.env) fp) elt (te X.K (c.blk fb F H O σ) false pe me))
    (hs : ∀ x, foldedSetIterable e X.env x = pure x := by intro _; rfl) (hvf : ((own.map (·.2)).all fun i => fb.all fun j => j != i) = true := by rfl) (hall : ((List.range X.N.length).all fun i => (own.map (·.2)).contains i || fb.contains i) = true := by rfl) (hcf : ((own.map (·.2)).all fun i => c.fx.all fun j => j != i) = true := by rfl) :
    PE X (.ListComp elt [⟨tg, e, ifs, 0⟩] scope pos) (tn X.K c (pi && (pt && pe)) (mLc (own.map (·.2)) mi t tst me)) :=
  (pe_len (pe_lc (pos := pos) hc hN hi ok (blk_g hg) (blk_t ht) (blk_e he) hs)).imp fun σ H Q h hlen => lc_step hlen hvf hall hcf h
theorem sv_setLc {i : Nat} {y : Str} {py spos : Pos} (hc : X.calm = true) (hN : X.N.Nodup) (hi : PI X tg e (ti X.K c pi mi)) (ok : BlkOk X.N X.env.scope scope own)
    (hg : ∀ F H O σ (s : Shared) (Hb : Hp) (C : Addr) (cl : List (Str × Addr)) (fp : List Addr), PG (X.blk s Hb scope (compEnvC scope cl C X.env) fp) tg (tgD X.K (c.blk fb F H O σ) t))
    (ht : ∀ F H O σ (s : Shared) (Hb : Hp) (C : Addr) (cl : List (Str × Addr)) (fp : List Addr), PTs (X.blk s Hb scope (compEnvC scope cl C X.env) fp) ifs (tt X.K (c.blk fb F H O σ) pt tst))
    (he : ∀ F H O σ (s : Shared) (Hb : Hp) (C : Addr) (cl : List (Str × Addr)) (fp : List Addr), PE (X.blk s Hb scope (compEnvC scope cl C X.env) fp) elt (te X.K (c.blk fb F H O σ) false pe me))
    (hy : X.N[i]? = some y := by rfl) (hyl : X.env.scope.names.lookup y = some .local := by rfl) (hfi : (c.fx.all fun j => j != i) = true := by rfl)
    (hsw : swapsWith (.ListComp elt [⟨tg, e, ifs, 0⟩] scope pos) (some (.Name y py)) spos.line X.env = pure true := by exact sw_true rfl rfl rfl rfl)
    (hs : ∀ x, foldedSetIterable e X.env x = pure x := by intro _; rfl) (hvf : ((own.map (·.2)).all fun i => fb.all fun j => j != i) = true := by rfl) (hall : ((List.range X.N.length).all fun i => (own.map (·.2)).contains i || fb.contains i) = true := by rfl) (hcf : ((own.map (·.2)).all fun i => c.fx.all fun j => j != i) = true := by rfl) :
    PS X (.Assign [.Name y py] (.ListComp elt [⟨tg, e, ifs, 0⟩] scope pos) spos) (ts X.K c (sSet i (mLstF (mLc (own.map (·.2)) mi t tst me)))) := ⟨fun pins s σ H Dn I ⟨F, ρ, O, ev, h⟩ => by
  refine (ps_setLc hc hN hy hyl hsw hi ok (blk_g hg) (blk_t ht) (blk_e he) hs).run pins s σ H Dn I ?_
  refine lc_step I.len hvf hall hcf ⟨F, ρ, O, ev, ?_⟩
  refine Res.post_imp (Res.post_bind (Res.post_bind h)) (fun xs ρ1 h2 F' H' O' p vs e' s' p' h3 h4 h5 => ?_) fun _ _ h F' H' O' cls d => h σ F' H' O' cls d
  have s2 : Same F' (frzF F' H' [p]) := frz_same fun q hq => (h5.ow q hq).1
  obtain ⟨O2, e2⟩ := (e'.frz h5).putD (i := i) (.lst ((frz_in (List.mem_singleton_self _)).trans h3) (h4.mono s2)) (slen hy I) hfi
  exact h2 _ _ H' O2 e2⟩
end
end DL
end
section
set_option maxRecDepth 100000
set_option maxHeartbeats 4000000
namespace DL
open PySem PySem.Spec PyProof.Rows L2
theorem EnvR.write {K : Frag} {c : Ct} {F H : Hp} {σ : Sl} {ρ : Env} {O : List Addr} {i : Nat} {xs ys : List D} {p : Addr} {ws : List V} (e : EnvR K c F H σ ρ O) (h : ρ[i]? = some (some (.lst xs))) (hp : σ[i]? = some (some (.ref p))) (r : RpAll K F ws ys) :
    ∃ O', EnvR K c F (upd H p (.lst ws)) σ (ρ.set i (some (.lst ys))) O' := by
  obtain ⟨v, A, R, h1, h2, h3, h4⟩ := e.sl.at h
  rw [hp] at h1; cases h1
  have hA : A = [p] := by cases h2; rfl
  subst hA
  have nd := h3.nodup_iff.mp e.nd
  have pR : p ∉ R := fun z => (List.nodup_cons.mp nd).1 z
  have pO : p ∈ O := h3.mem_iff.mpr (by simp)
  obtain ⟨_, k2⟩ := h4 F (upd H p (.lst ws)) (Same.refl _) fun b hb => upd_ne fun z => pR (by rw [← z]; exact hb)
  obtain ⟨O', k3, k4⟩ := k2 (.ref p) (.lst ys) [p] (.lst upd_same r)
  rw [set_self hp] at k3
  have hO : O'.Perm O := k4.trans h3.symm
  refine ⟨O', fun b u q => ?_, e.f0, fun b o q hb => ?_, e.n0, k3, hO.nodup_iff.mpr e.nd, fun q hq => e.ow q (hO.mem_iff.mp hq), e.fx⟩
  · rw [upd_ne fun z => by rw [z, (e.ow p pO).1] at q; cases q]
    exact e.sub b u q
  · rw [upd_ne fun z => by
      subst z
      rcases (e.ow b pO).2 with w | w
      · exact hb w
      · rw [w] at q; cases q]
    exact e.h0 b o q hb
theorem EnvR.lstAt {K : Frag} {c : Ct} {F H : Hp} {σ : Sl} {ρ : Env} {O : List Addr} {i : Nat} {xs : List D} (e : EnvR K c F H σ ρ O) (h : ρ[i]? = some (some (.lst xs))) : ∃ p vs, σ[i]? = some (some (.ref p)) ∧ H p = some (.lst vs) ∧ RpAll K F vs xs := by
  obtain ⟨v, A, h1, h2⟩ := e.var h
  cases h2 with
  | lst h3 h4 => exact ⟨_, _, h1, h3, h4⟩
def mLM (i : Nat) (g : List D → List D → Option (List D × D)) (ms : M (List D)) : M D := fun ρ => match ρ[i]? with
  | some (some (.lst _)) => (ms ρ).bind fun as ρ1 => match ρ1[i]? with
    | some (some (.lst xs)) => match g xs as with
      | some z => .ok z.2 (ρ1.set i (some (.lst z.1)))
      | none => .bad
    | _ => .bad
  | _ => .bad
def rLM (K : Frag) (g : List D → List D → Option (List D × D)) : V → List V → Hp → VK → Prop := fun v vs H Q => ∃ F p ws xs as z, v = .ref p ∧ Same F H ∧ H p = some (.lst ws) ∧ F p = none ∧ RpAll K F ws xs ∧ RpAll K F vs as ∧ g xs as = some z ∧ ∀ ws' u, RpAll K F ws' z.1 → Rp K F u z.2 → Q u (upd H p (.lst ws'))
section
variable {X : Cx} {c : Ct} {e : Expr} {es : List Expr} {pos apos cpos npos : Pos} {pu : Bool} {ms : M (List D)} {g : List D → List D → Option (List D × D)} {x name : Str} {id : String}
theorem lm_step {i : Nat} {to : TE} {t : TA} {σ : Sl} {H : Hp} {Q : VK} {F : Hp} {ρ1 : Env} {O : List Addr} {as : List D} {vs : List V} {p : Addr} (e : EnvR X.K c F H σ ρ1 O) (hp : σ[i]? = some (some (.ref p))) (ra : RpAll X.K F vs as)
    (h : (match ρ1[i]? with
    | some (some (.lst xs)) => match g xs as with
      | some z => Res.ok z.2 (ρ1.set i (some (.lst z.1)))
      | none => .bad
    | _ => .bad).post (fun (x : D) ρ' => ∀ F' H' O' v, EnvR X.K c F' H' σ ρ' O' → Same F F' → Rp X.K F' v x → Q v H') (PX X.K c σ)) : rLM X.K g (.ref p) vs H Q := by
  cases q : ρ1[i]? with
  | none => rw [q] at h; exact h.elim
  | some w =>
    rw [q] at h
    cases w with
    | none => exact h.elim
    | some o =>
      cases o with
      | lst xs =>
        obtain ⟨p', ws, h1, h2, h3⟩ := e.lstAt q
        rw [hp] at h1; cases h1
        cases hg : g xs as with
        | none => simp only [hg] at h; exact h.elim
        | some z =>
          simp only [hg] at h
          have fp : F p = none := by
            obtain ⟨v, A, R, t1, t2, t3, _⟩ := e.sl.at q
            rw [hp] at t1; cases t1
            cases t2
            exact (e.ow p (t3.mem_iff.mpr (by simp))).1
          refine ⟨F, p, ws, xs, as, z, rfl, e.sub, h2, fp, h3, ra, hg, fun ws' u r1 r2 => ?_⟩
          obtain ⟨O', e'⟩ := e.write q hp r1
          exact h F _ O' u e' (Same.refl _) r2
      | d _ => exact h.elim
      | dct _ => exact h.elim
      | dctT _ => exact h.elim
      | obj _ _ => exact h.elim
theorem se_lm (i : Nat) (slot : Slot "list" name id) (hty : typeOf (.builtin id) = pure (.type "method_descriptor")) (hm : MtR X id (rLM X.K g)) (ha : SA X c (e :: es) pu ms) (hN : X.N[i]? = some x := by rfl) (hv : Vis X.env.scope x := by first | exact Or.inl rfl | exact Or.inr (Or.inl rfl) | exact Or.inr (Or.inr rfl)) (hd : (x == ("__debug__" : Str)) = false := by decide)
    (hcd : (x == ("__classdict__" : Str)) = false := by decide)
    (hbase : attributeBase (.Name x npos) name X.env (eval (.Name x npos) X.env) = eval (.Name x npos) X.env := by rfl)
    (hfew : ((backTo cpos (starEach (e :: es) X.env)).all (fun x => !x.1) && (backToKw cpos (keywordEach [] X.env)).all (fun x => x.1.isSome)
      && decide ((e :: es).length + ([] : List Keyword).length + (if ([] : List Keyword).isEmpty then 0 else 1) < 30)) = true := by rfl)
    (hline : (apos.endLine == cpos.line) = true := by rfl) (hs : starEach (e :: es) X.env = (false, eval e X.env) :: starEach es X.env := by rfl) (hplain : (backTo cpos (starEach es X.env)).any (·.1) = false := by rfl) :
    PE X (.Call (.Attribute (.Name x npos) name apos) (e :: es) [] cpos) (te X.K c false false (mLM i g ms)) := (pe_bm F.plainAttrs_list slot hty hm (pe_var hN hv hd hcd) ha.pa hbase hfew hline hs hplain).imp fun σ H Q ⟨F, ρ, O, ev, h⟩ => by
  unfold mLM at h
  cases q : ρ[i]? with
  | none => rw [q] at h; exact h.elim
  | some w =>
    rw [q] at h
    cases w with
    | none => exact h.elim
    | some o =>
      cases o with
      | lst xs =>
        obtain ⟨p, vs, h1, h2, _⟩ := ev.lstAt q
        refine ⟨_, h1, .inl ⟨rfl, _, .of h2⟩, ?_⟩
        refine ta_step ev h fun as ρ1 F1 H1 O1 ws _ h3 e1 s1 p1 r1 => ?_
        exact lm_step (i := i) (to := fun _ _ _ => True) (t := fun _ _ _ => True) e1 h1 r1 (Res.post_imp h3 (fun x ρ' k F' H' O' v e' s' r => k F' H' O' v e' (s1.trans s') (fun z => nomatch z) r) fun _ _ k => k)
      | d _ => exact h.elim
      | dct _ => exact h.elim
      | dctT _ => exact h.elim
      | obj _ _ => exact h.elim
theorem mt_imp {r r' : V → List V → Hp → VK → Prop} (h : MtR X id r) (k : ∀ v vs H Q, r' v vs H Q → r v vs H Q) : MtR X id r' := fun pins s σ H x xs v us Q I rx rs q => h pins s σ H x xs v us Q I rx rs (k x xs H Q q)
def appendD (xs as : List D) : Option (List D × D) := match as with
  | [a] => if xs.length < sizeLine then some (xs ++ [a], .none) else none
  | _ => none
theorem md_append : MtR X "list.append" (rLM X.K appendD) := mt_imp mt_append fun v vs H Q ⟨F, p, ws, xs, as, z, hv, s, hp, hf, r1, r2, hg, q⟩ => by
  unfold appendD at hg
  split at hg
  · split at hg
    · rename_i hl
      cases hg
      cases r2 with
      | cons ra rn =>
        cases rn
        exact ⟨p, ws, _, hv, rfl, hp, by rw [r1.length]; exact hl, q _ _ (r1.append (.one ra)) .non⟩
    · cases hg
  · cases hg
theorem RpAll.dropLast {K : Frag} {F : Hp} {vs : List V} {xs : List D} (r : RpAll K F vs xs) : RpAll K F vs.dropLast xs.dropLast := by
  rw [List.dropLast_eq_take, List.dropLast_eq_take, r.length]
  exact r.take _
def popD (xs as : List D) : Option (List D × D) := match as with
  | [] => (xs[xs.length - 1]?).map fun y => (xs.dropLast, y)
  | [.int i] => if -(2 ^ 63) ≤ i ∧ i < 2 ^ 63 then (seqIndex? i xs.length).bind fun k => (xs[k]?).map fun y => (xs.eraseIdx k, y) else none
  | _ => none
theorem md_pop : MtR X "list.pop" (rLM X.K popD) := mt_imp (MtR.or mt_pop mt_popAt) fun v vs H Q ⟨F, p, ws, xs, as, z, hv, s, hp, hf, r1, r2, hg, q⟩ => by
  unfold popD at hg
  split at hg
  · cases r2
    obtain ⟨y, h1, rfl⟩ := Option.map_eq_some_iff.mp hg
    obtain ⟨w, h2, h3⟩ := r1.getD h1
    exact .inl ⟨p, ws, w, hv, rfl, hp, by rw [r1.length]; exact h2, q _ _ r1.dropLast h3⟩
  · split at hg
    · rename_i hb
      cases r2 with
      | cons ra rn =>
        cases rn
        cases ra
        obtain ⟨k, hk, hg⟩ := Option.bind_eq_some_iff.mp hg
        obtain ⟨y, h1, rfl⟩ := Option.map_eq_some_iff.mp hg
        obtain ⟨w, h2, h3⟩ := r1.getD h1
        exact .inr ⟨p, ws, _, k, w, hv, rfl, hp, hb.1, hb.2, by rw [r1.length]; exact hk, h2, q _ _ (r1.erase k) h3⟩
    · cases hg
  · cases hg
end
end DL
namespace PySem
open PyProof.Rows
end PySem
namespace DL
open PySem PySem.Spec PyProof.Rows L2
def extendD (xs : List D) (a : D) : Option (List D) := match a with
  | .list ys => if xs.length + ys.length ≤ sizeLine then some (xs ++ ys) else none
  | .tuple ys => if xs.length + ys.length ≤ sizeLine then some (xs ++ ys) else none
  | _ => none
def mExtend (i : Nat) (m : M D) : M D := fun ρ => match ρ[i]? with
  | some (some (.lst _)) => (m ρ).bind fun a ρ1 => match ρ1[i]? with
    | some (some (.lst xs)) => match extendD xs a with
      | some z => .ok .none (ρ1.set i (some (.lst z)))
      | none => .bad
    | _ => .bad
  | _ => .bad
section
variable {X : Cx} {c : Ct} {e : Expr} {pos apos cpos npos : Pos} {ka pu : Bool} {me : M D} {x : Str}
end
def sPut (i : Nat) (mi mv : M D) : M Fl := fun ρ => (mv ρ).bind fun v ρ1 => match ρ1[i]? with
  | some (some (.lst _)) => (mi ρ1).bind fun k ρ2 => match ρ2[i]?, k with
    | some (some (.lst xs)), .int j => match ixN xs.length j with
      | some n => .ok .nx (ρ2.set i (some (.lst (xs.set n v))))
      | none => .bad
    | _, _ => .bad
  | _ => .bad
section
variable {X : Cx} {c : Ct} {e o ix : Expr} {pos spos npos : Pos} {p1 p2 : Bool} {mi mv : M D} {x : Str}
theorem sv_put (i : Nat) (hN' : X.N[i]? = some x := by rfl) (hix : PE X ix (te X.K c false p1 mi)) (he : PE X e (te X.K c false p2 mv)) (hv : Vis X.env.scope x := by first | exact Or.inl rfl | exact Or.inr (Or.inl rfl) | exact Or.inr (Or.inr rfl)) (hd : (x == ("__debug__" : Str)) = false := by decide)
    (hcd : (x == ("__classdict__" : Str)) = false := by decide)
    (ha : ∀ v, assign (.Subscript (.Name x npos) ix spos) X.env v = (do
      let ov ← holding [v] (eval (.Name x npos) X.env)
      let iv ← holding [v, ov] (eval ix X.env)
      standAt spos
      holding [v, ov, iv] (setItem ov iv v)
      release [v, ov, iv] []) := by intro _; rfl)
    (hs : swapsWithSole [.Subscript (.Name x npos) ix spos] e pos.line X.env = pure false := by rfl) (hw : swappedStores [.Subscript (.Name x npos) ix spos] e X.env = pure none := by rfl)
    (h1 : (assignEach [.Subscript (.Name x npos) ix spos] X.env).map (·.2) = [assign (.Subscript (.Name x npos) ix spos) X.env] := by rfl) :
    PS X (.Assign [.Subscript (.Name x npos) ix spos] e pos) (ts X.K c (sPut i mi mv)) := (ps_asg he (pg_sub (pe_var hN' hv hd hcd) hix set_list ha) hs hw h1).imp fun Dn σ H ⟨F, ρ, O, ev, h⟩ => by
  refine te_stepS ev h fun v ρ1 F1 H1 O1 vv h1 e1 s1 q1 v1 => ?_
  cases k : ρ1[i]? with
  | none => rw [k] at h1; exact h1.elim
  | some w =>
    rw [k] at h1
    cases w with
    | none => exact h1.elim
    | some o =>
      cases o with
      | d _ => exact h1.elim
      | dct _ => exact h1.elim
      | dctT _ => exact h1.elim
      | obj _ _ => exact h1.elim
      | lst xs0 =>
        obtain ⟨p, ws0, g1, _, _⟩ := e1.lstAt k
        refine ⟨_, g1, ?_⟩
        refine te_stepS e1 h1 fun kx ρ2 F2 H2 O2 kv h2 e2 s2 q2 v2 => ?_
        cases k2 : ρ2[i]? with
        | none => simp only [k2] at h2; exact h2.elim
        | some w =>
          simp only [k2] at h2
          cases w with
          | none => exact h2.elim
          | some o =>
            cases o with
            | d _ => exact h2.elim
            | dct _ => exact h2.elim
            | dctT _ => exact h2.elim
            | obj _ _ => exact h2.elim
            | lst xs =>
              cases kx with
              | int j =>
                obtain ⟨p', ws, g2, g3, g4⟩ := e2.lstAt k2
                rw [g1] at g2; cases g2
                simp only at h2
                cases hj : ixN xs.length j with
                | none => rw [hj] at h2; exact h2.elim
                | some n =>
                  rw [hj] at h2
                  obtain ⟨O', e'⟩ := e2.write k2 g1 (g4.set (Rp.mono s2 v1) n)
                  exact ⟨p, ws, j, n, rfl, inv_int v2.up0, g3, by rw [g4.length]; exact hj, h2 σ F2 _ O' e'⟩
              | _ => exact h2.elim
end
end DL
end
section
set_option maxRecDepth 100000
set_option maxHeartbeats 4000000
namespace DL
open PySem PySem.Spec PyProof.Rows L2
inductive Ty where
  | str | int | bool | tup | lst | dct
def Ty.nm : Ty → String
  | .str => "str" | .int => "int" | .bool => "bool" | .tup => "tuple" | .lst => "list" | .dct => "dict"
def isT : Ty → D → Option Bool
  | t, .dict kvs => match cells kvs with
    | some _ => none
    | none => some (match t with | .dct => true | _ => false)
  | t, x => some (match t, x with
    | .str, .str _ => true
    | .int, .int _ => true
    | .int, .bool _ => true
    | .bool, .bool _ => true
    | .tup, .tuple _ => true
    | .lst, .list _ => true
    | _, _ => false)
def tyN : D → String
  | .none => "NoneType" | .bool _ => "bool" | .int _ => "int" | .str _ => "str" | .list _ => "list" | .tuple _ => "tuple" | .dict _ => "dict"
theorem sqT_ty {K : Frag} {H : Hp} {p : Addr} {vs : List V} (h : SqT K H p vs) : TyX K H (.ref p) (.type "tuple") := by
  rcases h with (h | ⟨o, h⟩) | ⟨o, _, _, h1, h2, _⟩
  · exact .base (.tup h)
  · exact .fTuple h
  · exact .kTuple h1 h2
theorem ty_of {K : Frag} {F H : Hp} {v : V} {x : D} {t : Ty} {b : Bool} (s : Same F H) (r : RpB K F H v x) (h : isT t x = some b) : TyX K H v (.type (tyN x)) := by
  cases x with
  | none => rw [inv_none r]; exact .base .non
  | bool b => rw [inv_bool r]; exact .base (.bl b)
  | int i => rw [inv_int r]; exact .base (.int i)
  | str z => rw [inv_str r]; exact .base (.str z)
  | list xs =>
    obtain ⟨p, vs, rfl, h1, _⟩ := inv_list s r
    exact .base (.lst h1)
  | tuple xs =>
    obtain ⟨p, vs, rfl, h1, _⟩ := inv_tup r
    exact sqT_ty (sq_t s h1)
  | dict kvs =>
    rcases inv_dict s r with ⟨p, vs, ds, rfl, e, _⟩ | ⟨p, kws, ds, rfl, h1, _⟩
    · subst e
      cases h
    · rcases h1 with h1 | ⟨o, h1⟩
      · exact .base (.dK h1)
      · exact .fDict h1
theorem kt_NoneType (t : Ty) : kitB "NoneType" t.nm = some (false) := by cases t <;> decide +kernel
theorem kt_bool (t : Ty) : kitB "bool" t.nm = some (match t with | .int => true | .bool => true | _ => false) := by cases t <;> decide +kernel
theorem kt_int (t : Ty) : kitB "int" t.nm = some (match t with | .int => true | _ => false) := by cases t <;> decide +kernel
theorem kt_str (t : Ty) : kitB "str" t.nm = some (match t with | .str => true | _ => false) := by cases t <;> decide +kernel
theorem kt_list (t : Ty) : kitB "list" t.nm = some (match t with | .lst => true | _ => false) := by cases t <;> decide +kernel
theorem kt_tuple (t : Ty) : kitB "tuple" t.nm = some (match t with | .tup => true | _ => false) := by cases t <;> decide +kernel
theorem kt_dict (t : Ty) : kitB "dict" t.nm = some (match t with | .dct => true | _ => false) := by cases t <;> decide +kernel
theorem kit_nm {K : Frag} {t : Ty} {x : D} {b : Bool} (h : isT t x = some b) : PySem.W.kitOne K (.type (tyN x)) (.type t.nm) = some b := by
  have tab : ∀ (a c : String) (r : Bool), kitB a c = some r → PySem.W.kitOne K (.type a) (.type c) = some r := fun a c r q => kit_ty q
  cases x with
  | dict kvs =>
    unfold isT at h
    simp only at h
    split at h
    · cases h
    · cases h
      exact tab _ _ _ (kt_dict t)
  | none => cases t <;> cases h <;> exact tab _ _ _ (kt_NoneType _)
  | bool _ => cases t <;> cases h <;> exact tab _ _ _ (kt_bool _)
  | int _ => cases t <;> cases h <;> exact tab _ _ _ (kt_int _)
  | str _ => cases t <;> cases h <;> exact tab _ _ _ (kt_str _)
  | list _ => cases t <;> cases h <;> exact tab _ _ _ (kt_list _)
  | tuple _ => cases t <;> cases h <;> exact tab _ _ _ (kt_tuple _)
def isiD (t : Ty) (x : D) : Option D := (isT t x).map .bool
section
variable {X : Cx} {c : Ct} {e : Expr} {pos p p2 : Pos} {ka pu : Bool} {me : M D} {t : Ty} {x : Str}
theorem se_isi (t : Ty) (hm : X.mg "isinstance" = none) (hm2 : X.mg x = none) (ha : PE X e (te X.K c ka pu me)) (hv2 : bootBuiltins x = some (.type t.nm) := by decide +kernel) (hg : Gl X "isinstance" := by rfl) (hg2 : Gl X x := by rfl) (hn2 : x ≠ "__name__" := by decide) (hd2 : (x == ("__debug__" : Str)) = false := by decide)
    (hs : starEach [e, .Name x p2] X.env = (false, eval e X.env) :: starEach [.Name x p2] X.env := by rfl) (hs2 : starEach [.Name x p2] X.env = (false, eval (.Name x p2) X.env) :: starEach [] X.env := by rfl) (hpl : (backTo pos (starEach [.Name x p2] X.env)).any (·.1) = false := by rfl) :
    PE X (.Call (.Name "isinstance" p) [e, .Name x p2] [] pos) (te X.K c false pu (mF1 (isiD t) me)) :=
  (pe_callB call_isi hg hm boot_isinstance (pa_cons ha (pa_cons (pe_bltn (v := .ty t.nm) hg2 hm2 hv2 rfl hn2 hd2) pa_nil hs2) hs) (by decide) (by decide) hs hpl).imp fun σ H Q ⟨F, ρ, O, ev, h⟩ => by
    refine te_step ev h fun y ρ1 F1 H1 O1 v h1 e1 s1 q1 v1 => ?_
    obtain ⟨z, hz, h2⟩ := post_ofO h1
    obtain ⟨b, hb, rfl⟩ := Option.map_eq_some_iff.mp hz
    exact ⟨v, .ty t.nm, _, _, b, rfl, .ty _, ty_of e1.sub v1.up0 hb, kit_nm hb, h2 F1 H1 O1 _ e1 s1 q1 (.bl b)⟩
end
def sPar (i j : Nat) (m : M (List D)) : M Fl := fun ρ => (m ρ).bind fun xs ρ1 => match xs with
  | [x, y] => .ok .nx ((ρ1.set i (some (.d x))).set j (some (.d y)))
  | _ => .bad
section
variable {X : Cx} {c : Ct} {e a b : Expr} {pos : Pos} {pu : Bool} {me : M D} {ms : M (List D)} {x y : Str}
theorem ta_stepS {K : Frag} {α : Type} {F H : Hp} {σ : Sl} {ρ : Env} {O : List Addr} {m : M (List D)} {k : List D → Env → Res α} {P : α → Env → Prop} {Q : List V → Hp → Prop} (e : EnvR K c F H σ ρ O) (h : ((m ρ).bind k).post P (PXs K c))
    (q : ∀ x ρ1 F1 H1 O1 v, (k x ρ1).post P (PXs K c) → EnvR K c F1 H1 σ ρ1 O1 → Same F F1 → (pu = true → Same H H1) → RpAll K F1 v x → Q v H1) : ta K c pu m σ H Q :=
  ⟨F, ρ, O, e, Res.post_imp (Res.post_bind h) (fun x ρ1 h1 F1 H1 O1 v e1 s1 p1 r1 => q x ρ1 F1 H1 O1 v h1 e1 s1 p1 r1) fun _ _ h F' H' O' cls d => h σ F' H' O' cls d⟩
theorem sv_par {i j : Nat} {px py pt pt2 : Pos} {kt k2 : Nat} (hc : X.calm = true) (hN : X.N.Nodup) (ha : SA X c [a, b] pu ms) (hi : X.N[i]? = some x := by rfl) (hj : X.N[j]? = some y := by rfl) (hij : i ≠ j := by decide) (hx : X.env.scope.names.lookup x = some .local := by rfl) (hy : X.env.scope.names.lookup y = some .local := by rfl)
    (hfi : (c.fx.all fun k => k != i) = true := by rfl) (hfj : (c.fx.all fun k => k != j) = true := by rfl)
    (hs : swapsWithSole [.Tuple [.Name x px, .Name y py] kt pt] (.Tuple [a, b] k2 pt2) pos.line X.env = pure false := by rfl)
    (hw : swappedStores [.Tuple [.Name x px, .Name y py] kt pt] (.Tuple [a, b] k2 pt2) X.env = pure (some [x, y]) := by rfl) :
    PS X (.Assign [.Tuple [.Name x px, .Name y py] kt pt] (.Tuple [a, b] k2 pt2) pos) (ts X.K c (sPar i j ms)) := ⟨fun pins s σ H Dn I ⟨F, ρ, O, ev, h⟩ => by
  refine (ps_par hc hN hi hj hij hx hy ha.pa hw hs).run pins s σ H Dn I ?_
  refine ta_stepS ev h fun xs ρ1 F1 H1 O1 vs h1 e1 s1 q1 r1 => ?_
  split at h1
  · cases r1 with
    | cons ra r1 =>
      cases r1 with
      | cons rb r1 =>
        cases r1
        obtain ⟨O2, e2⟩ := e1.putD ra (slen hi I) hfi
        obtain ⟨O3, e3⟩ := e2.putD rb (by rw [List.length_set]; exact slen hj I) hfj
        exact ⟨_, _, rfl, h1 _ F1 H1 O3 e3⟩
  · exact h1.elim⟩
def sTgt (t : D → Env → Option Env) (m : M D) : M Fl := fun ρ => (m ρ).bind fun x ρ1 => match t x ρ1 with
  | some ρ2 => .ok .nx ρ2
  | none => .bad
theorem sv_tgt {tg : Expr} {t : D → Env → Option Env} (he : PE X e (te X.K c false pu me)) (hg : PG X tg (tgD X.K c t)) (hs : swapsWithSole [tg] e pos.line X.env = pure false := by rfl) (hw : swappedStores [tg] e X.env = pure none := by rfl)
    (h1 : (assignEach [tg] X.env).map (·.2) = [assign tg X.env] := by rfl) : PS X (.Assign [tg] e pos) (ts X.K c (sTgt t me)) := (ps_asg he hg hs hw h1).imp fun Dn σ H ⟨F, ρ, O, ev, h⟩ => by
  refine te_stepS ev h fun x ρ1 F1 H1 O1 v h1 e1 s1 q1 v1 => ?_
  cases ht : t x ρ1 with
  | none => rw [ht] at h1; exact h1.elim
  | some ρ2 =>
    rw [ht] at h1
    exact ⟨F1, ρ1, O1, x, ρ2, e1, v1, ht, fun σ' F' H' O' _ e' _ => h1 σ' F' H' O' e'⟩
end
def sAug (g : D → D → Option D) (i : Nat) (m : M D) : M Fl := fun ρ => match ρ[i]? with
  | some (some (.d x)) => (m ρ).bind fun y ρ1 => match g x y with
    | some z => .ok .nx (ρ1.set i (some (.d z)))
    | none => .bad
  | _ => .bad
section
variable {X : Cx} {c : Ct} {e : Expr} {pos npos : Pos} {pu : Bool} {me : M D} {x : Str}
end
end DL
end
section
set_option maxRecDepth 100000
set_option maxHeartbeats 4000000
namespace DL
open PySem PySem.Spec PyProof.Rows L2 PySem.W
section
variable {κ : Type} [DecidableEq κ] {P : Program} {w : World} {knd : KeyKind P w κ}
theorem each_perm {α β : Type} {R : α → β → Prop} {l l' : List α} (p : l'.Perm l) : ∀ {m : List β}, EachIs R l m → ∃ m', EachIs R l' m' ∧ m'.Perm m := by
  induction p with
  | nil => intro m h; exact ⟨m, h, .refl _⟩
  | cons x _ ih =>
    intro m h
    cases h with
    | cons h1 h2 =>
      obtain ⟨m', k1, k2⟩ := ih h2
      exact ⟨_, .cons h1 k1, k2.cons _⟩
  | swap x y l =>
    intro m h
    cases h with
    | cons h1 h2 =>
      cases h2 with
      | cons h3 h4 => exact ⟨_, .cons h3 (.cons h1 h4), .swap ..⟩
  | trans _ _ ih1 ih2 =>
    intro m h
    obtain ⟨m1, k1, k2⟩ := ih2 h
    obtain ⟨m2, k3, k4⟩ := ih1 k1
    exact ⟨m2, k3, k4.trans k2⟩
theorem each_len {α β : Type} {R : α → β → Prop} : ∀ {l : List α} {m : List β}, EachIs R l m → l.length = m.length
  | _, _, .nil => rfl
  | _, _, .cons _ t => by rw [List.length_cons, List.length_cons, each_len t]
theorem each_at {α β : Type} {R : α → β → Prop} : ∀ {l : List α} {m : List β} {x : α}, EachIs R l m → x ∈ l → ∃ y ∈ m, R x y
  | _, _, x, .nil, h => by simp at h
  | _, _, x, .cons h1 t, h => by
    rcases List.mem_cons.mp h with h | h
    · subst h; exact ⟨_, List.mem_cons_self, h1⟩
    · obtain ⟨y, hy, r⟩ := each_at t h
      exact ⟨y, List.mem_cons_of_mem _ hy, r⟩
theorem each_back {α β : Type} {R : α → β → Prop} : ∀ {l : List α} {m : List β} {y : β}, EachIs R l m → y ∈ m → ∃ x ∈ l, R x y
  | _, _, x, .nil, h => by simp at h
  | _, _, x, .cons h1 t, h => by
    rcases List.mem_cons.mp h with h | h
    · subst h; exact ⟨_, List.mem_cons_self, h1⟩
    · obtain ⟨y, hy, r⟩ := each_back t h
      exact ⟨y, List.mem_cons_of_mem _ hy, r⟩
def Ent (knd : KeyKind P w κ) (e : Int × Value) (k : κ) : Prop := knd.is k e.2 = true ∧ e.1 = knd.hash k ∧ e.2.scannable = true
theorem ents_elems {l : List (Int × Value)} {ks : List κ} (h : EachIs (Ent knd) l ks) : ElemsOf knd l := fun e he => by
  obtain ⟨k, _, h1, h2, h3⟩ := each_at h he
  exact ⟨⟨k, h1, h2⟩, h3⟩
structure Rows (knd : KeyKind P w κ) (es : Array (Int × Value)) (t : SetTable) (ks : List κ) : Prop where
  ent : EachIs (Ent knd) es.toList ks
  nd : ks.Nodup
  low : es.size < scanBound
  fit : t.fits es.size = true
  ris : Ris t.place.toList
  led : w.params.followText "set-order" = true ∨ t.led = true
def SK (knd : KeyKind P w κ) (h : Heap) (a : Addr) (ks : List κ) : Prop := ∃ o es ep t, h.get? a = some o ∧ o.ExactSet ∧ o.data = .set es ep t ∧ Rows knd es t ks
theorem SK.keep {h h' : Heap} {a : Addr} {ks : List κ} (R : SK knd h a ks) (k : ∀ o, h.get? a = some o → h'.get? a = some o) : SK knd h' a ks := by
  obtain ⟨o, es, ep, t, ho, r⟩ := R
  exact ⟨o, es, ep, t, k o ho, r⟩
theorem SK.lt {h : Heap} {a : Addr} {ks : List κ} (R : SK knd h a ks) : a < h.objs.size := by
  obtain ⟨o, _, _, _, ho, _⟩ := R
  exact Heap.lt_size ho
theorem sk_store {h : Heap} {a : Addr} {o : Obj} {es0 es : Array (Int × Value)} {ep : Nat} {t0 t : SetTable} {ks : List κ} (ho : h.get? a = some o) (hx : o.ExactSet) (hd : o.data = .set es0 ep t0) (r : Rows knd es t ks) :
    (∃ o', (h.update a (Obj.putSet es t)).get? a = some o' ∧ o'.ExactSet ∧ o'.data = .set es (ep + 1) t) ∧ SK knd (h.update a (Obj.putSet es t)) a ks := by
  have e := Heap.get?_update_self (Obj.putSet es t) ho (by rw [putSet_of es t hd]; rfl)
  rw [putSet_of es t hd] at e
  exact ⟨⟨_, e, hx, rfl⟩, ⟨_, es, ep + 1, t, e, hx, rfl, r⟩⟩
section
variable {A : Around} {E : Value → Shared → Prop} {s : Shared} {a : Addr} {ks : List κ}
theorem rows_relaid {es : Array (Int × Value)} {t : SetTable} (r : Rows knd es t ks) (n : Nat) : ∃ ks', ks'.Perm ks ∧ Rows knd (relayAll t es n).1 (relayAll t es n).2.1 ks' := by
  have p := relayAll_perm t es n
  obtain ⟨ks', h1, h2⟩ := each_perm p r.ent
  have hz : (relayAll t es n).1.size = es.size := by rw [← Array.length_toList, p.length_eq, Array.length_toList]
  exact ⟨ks', h2, h1, h2.nodup_iff.mpr r.nd, by rw [hz]; exact r.low, relayAll_fits t es n, relayAll_ris t es n, r.led.imp id fun z => by rw [relayAll_led]; exact z⟩
theorem rows_new {es : Array (Int × Value)} {t : SetTable} (r : Rows knd es t ks) {k : κ} {x : Value} (hk : knd.is k x = true) (hs : x.scannable = true) (hn : k ∉ ks) (room : ks.length + 1 < scanBound) :
    ∃ ks', ks'.Perm (k :: ks) ∧ Rows knd (layNew t es (knd.hash k) x).1 (layNew t es (knd.hash k) x).2.1 ks' := by
  have p := layNew_perm t es (knd.hash k) x
  rw [Array.toList_push] at p
  have p2 := p.trans (List.perm_append_singleton (knd.hash k, x) es.toList)
  obtain ⟨ks', h1, h2⟩ := each_perm p2 (.cons (R := Ent knd) ⟨hk, rfl, hs⟩ r.ent)
  have hz : (layNew t es (knd.hash k) x).1.size = ks.length + 1 := by rw [← Array.length_toList, each_len h1, h2.length_eq, List.length_cons]
  exact ⟨ks', h2, h1, h2.nodup_iff.mpr (List.nodup_cons.mpr ⟨hn, r.nd⟩), by rw [hz]; exact room, layNew_fits t es (knd.hash k) x, layNew_ris t es (knd.hash k) x r.ris, r.led.imp id fun z => by rw [layNew_led]; exact z⟩
theorem rows_off {es : Array (Int × Value)} {t : SetTable} (r : Rows knd es t ks) : Rows knd es { t with plain := false } ks := ⟨r.ent, r.nd, r.low, SetTable.fits_plain_off r.fit, r.ris, r.led⟩
theorem sk_tail {g : Bool → Sem Unit} (hg : ∀ (b : Bool) (s₁ : Shared) (Q' : Unit → Shared → Prop), Q' () s₁ → wpAny (model P w) A (g b) Q' E s₁) {o : Obj} {es0 es : Array (Int × Value)} {ep : Nat} {t0 t : SetTable} (c : Bool)
    (ho : s.heap.get? a = some o) (hx : o.ExactSet) (hd : o.data = .set es0 ep t0) (r : Rows knd es t ks) {R : Option Bool → Shared → Prop}
    (hR : ∀ h' ks', ks'.Perm ks → Heap.SameBut a s.heap h' → SK knd h' a ks' → R (some true) { s with heap := h' }) :
    wpAny (model P w) A (do
      storeSet a es t
      if c = true then
        g (relayAll t es (SetTable.grown es.size)).2.2
        storeSet a (relayAll t es (SetTable.grown es.size)).1 (relayAll t es (SetTable.grown es.size)).2.1
        pure (some true)
      else pure (some true)) R E s := by
  obtain ⟨⟨o1, e1, x1, d1⟩, k1⟩ := sk_store ho hx hd r
  refine wpAny_bind (wpAny_storeSet_of ho hd ?_ (fits_of_scanBound r.low))
  cases c with
  | false => exact wpAny_pure (hR _ ks (.refl _) (Heap.SameBut.update ..) k1)
  | true =>
    rw [if_pos rfl]
    obtain ⟨ks', p, r'⟩ := rows_relaid r (SetTable.grown es.size)
    obtain ⟨_, k2⟩ := sk_store e1 x1 d1 r'
    exact wpAny_bind (hg _ _ _ (wpAny_bind (wpAny_storeSet_of e1 d1 (wpAny_pure (hR _ ks' p ((Heap.SameBut.update ..).trans (Heap.SameBut.update ..)) k2)) (fits_of_scanBound r'.low))))
theorem sk_add {k : κ} {x : Value} {Q : Bool → Shared → Prop} (R : SK knd s.heap a ks) (hk : knd.is k x = true) (hs : x.scannable = true) (room : ks.length + 1 < scanBound)
    (hQ : ∀ h' ks' b, ks'.Perm (if k ∈ ks then ks else k :: ks) → Heap.SameBut a s.heap h' → SK knd h' a ks' → Q b { s with heap := h' }) : wpAny (model P w) A (setAddHashed a x (knd.hash k)) Q E s := by
  have R0 := R
  obtain ⟨o, es, ep, t, ho, hx, hd, r⟩ := R
  have el := ents_elems r.ent
  unfold setAddHashed setAddHashedIn
  refine wpAny_holding (wpAny_bind (wpAny_setState_of ho hd r.fit ?_))
  simp only [byScan_of hs r.low el, if_true]
  unfold setAddByScan
  refine wpAny_bind (wpAny_bind (wpAny_rule (wpAny_bind (wpAny_setScan_of hk ho hd r.fit el ?_))))
  cases hf : List.findIdx? (fun e => knd.is k e.2) es.toList with
  | some j =>
    obtain ⟨hj, pj, _⟩ := List.findIdx?_eq_some_iff_getElem.mp hf
    obtain ⟨k', hk', q⟩ := each_at r.ent (List.getElem_mem hj)
    have ek : k = k' := knd.inj _ _ _ pj q.1
    refine wpAny_pure (wpAny_pure (hQ s.heap ks false ?_ (Heap.SameBut.refl a s.heap) R0))
    rw [if_pos (by rw [ek]; exact hk')]
  | none =>
    have hn : k ∉ ks := fun z => by
      obtain ⟨e, he, q⟩ := each_back r.ent z
      have c := List.findIdx?_eq_none_iff.mp hf e he
      rw [q.1] at c
      cases c
    obtain ⟨ks1, p1, r1⟩ := rows_new r hk hs hn room
    dsimp only
    generalize layNew t es (knd.hash k) x = Z at r1 ⊢
    obtain ⟨es1, t1, wd, gv⟩ := Z
    dsimp only at r1 ⊢
    have fin : ∀ h' ks', ks'.Perm ks1 → Heap.SameBut a s.heap h' → SK knd h' a ks' → Q true { s with heap := h' } := fun h' ks' p sb k' => hQ h' ks' true (by rw [if_neg hn]; exact p.trans p1) sb k'
    have gw : ∀ (b : Bool) {s₁ : Shared} {Q' : Unit → Shared → Prop}, Q' () s₁ → wpAny (model P w) A (match b with | true => rule "set.scan.the-table-gave-way" | false => pure ()) Q' E s₁ :=
      fun b s₁ Q' q => by cases b with
        | false => exact wpAny_pure q
        | true => exact wpAny_rule q
    refine wpAny_bind (gw gv ?_)
    have last : ∀ (t2 : SetTable), Rows knd es1 t2 ks1 → wpAny (model P w) A (do
        storeSet a es1 t2
        if (!wd && t2.tooFull) = true then
          (match (relayAll t2 es1 (SetTable.grown es1.size)).2.2 with | true => rule "set.scan.the-table-gave-way" | false => pure ())
          storeSet a (relayAll t2 es1 (SetTable.grown es1.size)).1 (relayAll t2 es1 (SetTable.grown es1.size)).2.1
          pure (some true)
        else pure (some true)) (fun r s' => wpAny (model P w) A (match r with | some added => pure added | none => setAddHashedIn a x (knd.hash k) 99999) Q E s') E s := fun t2 r2 =>
      sk_tail (fun b _ _ q => gw b q) _ ho hx hd r2 fun h' ks' p sb k' => wpAny_pure (fin h' ks' p sb k')
    split
    · refine wpAny_bind ?_
      rw [hashByValue_scannable 8 hs]
      refine wpAny_pure ?_
      cases plainKind x with
      | true => exact last _ r1
      | false => exact last _ (rows_off r1)
    · exact wpAny_bind (wpAny_pure (last _ r1))
end
section
variable {A : Around} {R : Result → Shared → Prop} {I S : Addr} {fp wr : List Addr} {G : Array GenState → Array GenState → Prop} {n : Nat} {Pv : Nat → Value → Prop} {St : Nat → Shared → Prop}
theorem sk_loop (W : WalksS P w A.in1 I fp wr G n Pv St) (hSf : S ∉ fp) (val : Nat → κ) (hval : ∀ i v, Pv i v → knd.is (val i) v = true ∧ v.scannable = true) (low : n + 1 < scanBound) :
    ∀ (m i : Nat) (s : Shared) (ks : List κ), m + i = n → St i s → SK knd s.heap S ks → (∀ x, x ∈ ks ↔ ∃ j, j < i ∧ val j = x) → ks.length ≤ i →
      (∀ s' ks', Moved (S :: wr) G s s' → SK knd s'.heap S ks' → (∀ x, x ∈ ks' ↔ ∃ j, j < n ∧ val j = x) → ks'.length ≤ n → R (.ok (.ret .none)) s') →
      codeAny (model P w) A (.builtin "set.update.loop" ⟨[.ref S, .ref I], []⟩) R s := by
  have out : S ∉ wr := fun z => hSf (W.sub _ z)
  have inc : ∀ b ∈ wr, b ∈ S :: wr := fun b hb => List.mem_cons_of_mem _ hb
  intro m
  induction m with
  | zero =>
    intro i s ks hm st hS hks hlen fin
    rw [Nat.zero_add] at hm
    subst hm
    refine codeAny_builtin F.entry_set_update_loop ?_
    rw [Around.under_plainId F.plain_set_update_loop _]
    show wpAny _ A.in1 (pyNext (.ref I) >>= _) _ _ s
    refine wpAny_bind (W.done s _ _ st fun s' mv => ?_)
    exact wpAny_pure (fin s' ks (mv.mono inc) (hS.keep fun o q => mv.heap S o out q) hks hlen)
  | succ m ih =>
    intro i s ks hm st hS hks hlen fin
    have hi : i < n := by omega
    refine codeAny_builtin F.entry_set_update_loop ?_
    rw [Around.under_plainId F.plain_set_update_loop _]
    show wpAny _ A.in1 (pyNext (.ref I) >>= _) _ _ s
    refine wpAny_bind (W.item i s _ _ hi st fun v s1 hv st1 mv => ?_)
    obtain ⟨hk, hs⟩ := hval i v hv
    have hS1 : SK knd s1.heap S ks := hS.keep fun o q => mv.heap S o out q
    show wpAny _ A.in1 (holding [v] (setAdd S v) >>= _) _ _ s1
    unfold setAdd
    refine wpAny_bind (wpAny_holding (wpAny_holding (wpAny_bind (knd.pyHash hk ?_))))
    refine sk_add (s := { s1 with toks := s1.toks + 1 }) hS1 hk hs (by omega) fun h' ks' b p sb hS2 => ?_
    have mem' : ∀ x, x ∈ ks' ↔ ∃ j, j < i + 1 ∧ val j = x := fun x => by
      rw [p.mem_iff]
      have base : (x ∈ (if val i ∈ ks then ks else val i :: ks)) ↔ (x ∈ ks ∨ val i = x) := by
        split
        · rename_i hin
          exact ⟨.inl, fun z => z.elim id fun z => z ▸ hin⟩
        · rw [List.mem_cons]
          exact ⟨fun z => z.elim (fun z => .inr z.symm) .inl, fun z => z.elim .inr fun z => .inl z.symm⟩
      rw [base, hks x]
      constructor
      · rintro (⟨j, hj, e⟩ | e)
        · exact ⟨j, by omega, e⟩
        · exact ⟨i, by omega, e⟩
      · rintro ⟨j, hj, e⟩
        by_cases z : j = i
        · exact .inr (by rw [← z]; exact e)
        · exact .inl ⟨j, by omega, e⟩
    have len' : ks'.length ≤ i + 1 := by
      rw [p.length_eq]
      split
      · omega
      · rw [List.length_cons]; omega
    refine wpAny_pure ⟨plainId_quiet F.plain_set_update_loop _, ih (i + 1) _ ks' (by omega) (W.frame _ s1 _ _ st1 (Nat.le_succ _) fun b hb o q => ?_) hS2 mem' len' fun s3 ks3 mv3 hS3 hm3 hl3 => ?_⟩
    · rw [sb.2 b (fun z => hSf (by rw [← z]; exact hb))]; exact q
    · refine fin s3 ks3 (Moved.trans W.gtrans ((mv.mono inc).then_heap (Nat.le_succ _) fun b o hb q => ?_) mv3) hS3 hm3 hl3
      rw [sb.2 b (fun z => hb (by rw [z]; exact List.mem_cons_self))]; exact q
end
end
def fSet (w : World) : Obj := { cls := .type "set", dict := none, data := .set #[] 0 (.fresh 0 0 (!w.params.followText "set-order")) }
section
variable {κ : Type} [DecidableEq κ] {P : Program} {w : World} {knd : KeyKind P w κ} {A : Around} {E : Value → Shared → Prop} {s : Shared}
theorem sk_fresh {h : Heap} {a : Addr} (e : h.get? a = some (fSet w)) : SK knd h a [] := by
  refine ⟨fSet w, #[], 0, _, e, ⟨rfl, rfl, rfl⟩, rfl, .nil, .nil, by decide, rfl, List.Pairwise.nil, ?_⟩
  show _ ∨ (!w.params.followText "set-order") = true
  cases w.params.followText "set-order" with
  | false => exact .inr rfl
  | true => exact .inl rfl
theorem set_new1 (x : Value) {Q : Value → Shared → Prop} (h : Q (.ref s.heap.objs.size) { s with heap := s.heap.push (fSet w) }) : codeAny (model P w) A (.call (.builtin "set.__new__") ⟨[.type "set", x], []⟩) (wants Q E) s := by
  refine codeAny_of_tree ?_
  show wpAny _ A.in1 (checkBuiltinCall "set.__new__" ⟨[.type "set", x], []⟩ >>= fun _ => again (.builtin "set.__new__" ⟨[.type "set", x], []⟩)) _ _ s
  refine wpAny_bind (wpAny_of_eq (F.newCall_set_1 x) (wpAny_pure ⟨plainId_quiet F.plain_set_new _, codeAny_builtin F.entry_set_new ?_⟩))
  rw [Around.under_plainId F.plain_set_new _]
  unfold Builtin.«set.__new__» Builtin.Frozenset.newClass
  have k := sub_set_self
  obtain ⟨h0, g0, d0, t0, o0⟩ := s
  dsimp only
  wp_walk
  refine wpAny_askSetting (wpAny_pure ?_)
  simp only [newObj]
  exact wpAny_bind (wpAny_alloc (wpAny_pure (wpAny_pure h)))
structure Seq1 (T : String) : Prop where
  s1 : isSubtype (.type T) (.type "set") = pure false
  s2 : isSubtype (.type T) (.type "frozenset") = pure false
  ne : (Value.type T == Value.type "dict") = false
theorem seq_l : Seq1 "list" := ⟨F.sub_list_set, F.sub_list_frozenset, by decide⟩
theorem seq_t : Seq1 "tuple" := ⟨by rw [isSubtype_type]; kernel_rfl, by rw [isSubtype_type]; kernel_rfl, by decide⟩
theorem call_set1 {T : String} (C : Seq1 T) {l : Addr} {ol : Obj} {n : Nat} {Pv : Nat → Value → Prop} (val : Nat → κ) {Q : Value → Shared → Prop} (hl : s.heap.get? l = some ol) (hc : ol.cls = .type T) (low : n + 1 < scanBound) (hval : ∀ i v, Pv i v → knd.is (val i) v = true ∧ v.scannable = true)
    (hit : ∀ (A' : Around) (s1 : Shared) (E' : Value → Shared → Prop) (Q' : Value → Shared → Prop), s1.heap.get? l = some ol → (∀ (I : Addr) (h' : Heap), I = s1.heap.objs.size → (∀ b o, s1.heap.get? b = some o → h'.get? b = some o) →
        (∀ A2 : Around, A2.handled = A.handled → ∃ St : Nat → Shared → Prop, WalksS P w A2 I [I, l] [I] (fun g g' => g' = g) n Pv St ∧ St 0 { s1 with heap := h' }) → Q' (.ref I) { s1 with heap := h' }) → wpAny (model P w) A' (pyIter (.ref l)) Q' E' s1)
    (h : ∀ (s' : Shared) (ks : List κ), SK knd s'.heap s.heap.objs.size ks → (∀ x, x ∈ ks ↔ ∃ j, j < n ∧ val j = x) → ks.length ≤ n → (∀ b o, s.heap.get? b = some o → s'.heap.get? b = some o) → s'.gens = s.gens → s'.drawn = s.drawn → s'.os = s.os → Q (.ref s.heap.objs.size) s') :
    wpAny (model P w) A (call (.type "set") [.ref l]) Q E s := by
  obtain ⟨c0, tl, hmro⟩ := F.called_set.mro
  have m1 := F.called_set.made
  have m2 := F.called_set.sub
  refine wpAny_call (codeAny_of_tree ?_)
  show wpAny _ _ (callAny (.type "set") _) _ _ _
  refine wpAny_pure ⟨Code.quiet_builtin _ (by decide +kernel), codeAny_builtin F.entry_type_call ?_⟩
  rw [Around.under_plain (weight_type_call_type "set" [.ref l] []) rfl]
  have m3 := F.called_set.notType
  have m4 := F.called_set.canCreate
  have m5 := F.typeCall_set_1 (.ref l)
  repeat (any_goals (first | assumption | wp_step))
  refine codeAny_mono (set_new1 (.ref l) (E := E) (Q := fun obj s1 => obj = .ref s.heap.objs.size ∧ s1 = { s with heap := s.heap.push (fSet w) }) ⟨rfl, rfl⟩) fun r s1 hr => ?_
  cases r with
  | error e => exact hr
  | ok fl =>
    cases fl with
    | ret obj =>
      obtain ⟨rfl, rfl⟩ := hr
      have e0 : (s.heap.push (fSet w)).get? s.heap.objs.size = some (fSet w) := Heap.get?_push_size _ rfl
      have hT : Shared.TypeIs { s with heap := s.heap.push (fSet w) } (.ref s.heap.objs.size) "set" := ⟨_, e0, rfl⟩
      have m6 := F.called_set.init.lookup
      have m7 := F.called_set.init.bind (.ref s.heap.objs.size)
      repeat (any_goals (first | assumption | wp_step))
      refine codeAny_mono (codeAny_call_builtin (R := wants (fun r s2 => r = .none ∧ ∃ ks, SK knd s2.heap s.heap.objs.size ks ∧ (∀ x, x ∈ ks ↔ ∃ j, j < n ∧ val j = x) ∧ ks.length ≤ n ∧ (∀ b o, s.heap.get? b = some o → s2.heap.get? b = some o) ∧ s2.gens = s.gens ∧ s2.drawn = s.drawn ∧ s2.os = s.os) E)
        F.called_set.init.plain F.entry_set_init (check_set_init_1 hT ?_)) fun r2 s2 hr2 => ?_
      · obtain ⟨oc, od, dt, sl⟩ := ol
        simp only at hc
        subst hc
        have e1 : (s.heap.push (fSet w)).get? l = some { cls := .type T, dict := od, data := dt, slots := sl } := Heap.get?_push_of_some _ hl
        have k1 := C.s1
        have k2 := C.s2
        have k3 := C.ne
        have hls : l < s.heap.objs.size := Heap.lt_size hl
        unfold Builtin.«set.__init__» noKeywords Builtin.Frozenset.updateFrom
        generalize hPI : pyIter = PI
        wp_walk
        subst hPI
        refine hit _ _ _ _ e1 fun I h' hI kp W => ?_
        refine wpAny_bind (wpAny_runValue ?_)
        obtain ⟨St, W1, st⟩ := W A.in1.in1.in1 rfl
        have eI : I = s.heap.objs.size + 1 := by rw [hI]; exact Heap.size_push ..
        refine sk_loop W1 (fun z => ?_) val hval low n 0 _ [] (by omega) st (sk_fresh (kp _ _ e0)) (fun x => by simp) (Nat.zero_le _) fun s' ks mv hS hm hlen => ?_
        · rcases List.mem_cons.mp z with z | z
          · exact absurd (z.trans eI) (Nat.ne_of_lt (Nat.lt_succ_self _))
          · exact absurd (List.mem_singleton.mp z) (Nat.ne_of_gt hls)
        · show wpAny _ _ _ _ _ _
          refine wpAny_pure ?_
          show wpAny _ _ (ret Value.none) _ _ _
          refine wpAny_pure ⟨rfl, ks, hS, hm, hlen, fun b o q => ?_, mv.gens, mv.drawn, mv.os⟩
          have hb := Heap.lt_size q
          refine mv.heap b o (fun z => ?_) (kp b o (Heap.get?_push_of_some _ q))
          rcases List.mem_cons.mp z with z | z
          · exact absurd z (Nat.ne_of_lt hb)
          · exact absurd ((List.mem_singleton.mp z).trans eI) (Nat.ne_of_lt (Nat.lt_succ_of_lt hb))
      · cases r2 with
        | error e => exact hr2
        | ok f2 =>
          cases f2 with
          | ret r =>
            obtain ⟨rfl, ks, q1, q2, q3, q4, q5, q6, q7⟩ := hr2
            repeat (any_goals (first | assumption | wp_step))
            exact h _ ks q1 q2 q3 q4 q5 q6 q7
          | _ => exact hr2.elim
    | _ => exact hr.elim
end
end DL
end
section
set_option maxRecDepth 100000
set_option maxHeartbeats 4000000
namespace DL
open PySem PySem.Spec PyProof.Rows L2 PySem.W
theorem line_units {n : Nat} {A : Around} (h : A.units + 66 < cLine) (hn : n ≤ 64) : A.units + 2 + n < cLine := by omega
def sortOk (xs : List D) : Bool := (xs.all fun x => xs.all fun y => alike x y) && ((xs.all fun x => match x with
  | .tuple (_ :: _) => true
  | _ => false) || (xs.all fun x => match x with
  | .tuple _ => false
  | .none => false
  | _ => true)) && SeqAt.shaped (.list xs)
def sortL (xs : List D) : List D := xs.mergeSort (dataLe false id)
def sortO : D → Option (List D)
  | .list xs => if sortOk xs = true then some (sortL xs) else none
  | _ => none
theorem depth_le {x : D} : ∀ {xs : List D}, x ∈ xs → x.depth ≤ PyData.depthAll xs
  | y :: ys, h => by
    rw [PyData.depthAll]
    rcases List.mem_cons.mp h with h | h
    · subst h; exact Nat.le_max_left _ _
    · exact Nat.le_trans (depth_le h) (Nat.le_max_right _ _)
theorem rows_each {X : Cx} {pins : List (Addr × Obj)} {σ : Sl} {H F : Hp} {s : Shared} (I : L2.Inv X pins σ H s) (sm : Same F H) : ∀ {vs : List V} {xs : List D} {us : List Value}, RpAll X.K F vs xs → Vals vs us → PyData.canLayAll0 xs = true →
    EachIs (fun v b => ∃ u, RelV u v ∧ Rp X.K F u b) us xs ∧ EachIs (fun v b => ∃ as, Reads s.heap v b as) us xs
  | _, _, _, .nil, .nil, _ => ⟨.nil, .nil⟩
  | _, _, _, .cons h r, .cons q t, hc => by
    obtain ⟨c1, c2⟩ : _ ∧ _ := by simpa [PyData.canLayAll0] using hc
    obtain ⟨k1, k2⟩ := rows_each I sm r t c2
    exact ⟨.cons ⟨_, q, h⟩ k1, .cons (Dp.reads I _ _ _ ((h.mono sm).dp c1) q) k2⟩
theorem each_rows {K : Frag} {F : Hp} : ∀ {us : List Value} {xs : List D}, EachIs (fun v b => ∃ u, RelV u v ∧ Rp K F u b) us xs → ∃ ws, Vals ws us ∧ RpAll K F ws xs
  | _, _, .nil => ⟨[], .nil, .nil⟩
  | _, _, .cons ⟨u, h1, h2⟩ t => by
    obtain ⟨ws, k1, k2⟩ := each_rows t
    exact ⟨u :: ws, .cons h1 k1, .cons h2 k2⟩
theorem map_id' (xs : List D) : xs.map (id : D → D) = xs := List.map_id xs
theorem cd_sorted {X : Cx} (hu : X.A.units + 66 < cLine) : CallR X (.builtin "sorted") (rN1 X.K sortO) := by
  intro pins s σ H vs us Q I rv ⟨F, v, x, z, hv, sm, rx, hz, q⟩
  subst hv
  unfold sortO at hz
  split at hz
  · split at hz
    · rename_i xs hk
      cases hz
      obtain ⟨p, ws, rfl, h1, r1⟩ := inv_list sm rx
      rw [Vals.ref1 rv]
      obtain ⟨its, ri, hl, hz⟩ := I.list (.of h1)
      unfold sortOk at hk
      simp only [Bool.and_eq_true] at hk
      obtain ⟨⟨k1, k2⟩, k3⟩ := hk
      have cl : PyData.canLayAll0 xs = true := by simpa [PyData.canLay0] using SeqAt.canLay_of_shaped k3
      have dp := SeqAt.depth_of_shaped k3
      obtain ⟨e1, e2⟩ := rows_each I sm r1 ri cl
      have hlen : its.length = xs.length := each_len e1
      have hL : xs.length ≤ sizeLine := by rw [← r1.length]; exact hz
      refine sorted_data (enc := id) (R := fun v b => ∃ u, RelV u v ∧ Rp X.K F u b) hl.isList e1 e2 ?_ ?_ hL ?_ fun out ho eo => ?_
      · rw [map_id']
        intro d hd d' hd'
        exact List.all_eq_true.mp (List.all_eq_true.mp k1 d hd) d' hd'
      · rw [map_id']
        rcases Bool.or_eq_true_iff.mp k2 with k | k
        · refine .inl fun d hd => ?_
          have c := List.all_eq_true.mp k d hd
          split at c
          · exact ⟨_, _, rfl⟩
          · cases c
        · refine .inr fun d hd => ?_
          have c := List.all_eq_true.mp k d hd
          split at c
          · cases c
          · cases c
          · rename_i n1 n2
            exact ⟨n2, fun ys => n1 ys⟩
      · intro b hb
        have : b.depth ≤ 64 := Nat.le_trans (depth_le hb) (by rw [PyData.depth] at dp; omega)
        exact line_units hu this
      · obtain ⟨ws', v1, v2⟩ := each_rows eo
        obtain ⟨ep, he⟩ := PyProof.Rows.sortedAll_at s.heap its out.toArray
        have hl' : ws'.length ≤ sizeLine := by rw [v1.length, ho]; exact hL
        have fr := I.hok.fresh (a := s.heap.objs.size + 1) (Nat.le_succ _)
        refine ⟨.ref _, upd H (s.heap.objs.size + 1) (.lst ws'), I.laid (t' := s.toks) (fun _ _ => PyProof.Rows.sortedAll_old) (Nat.le_succ _) ⟨hl', out, ep, v1, he⟩, rfl, ?_⟩
        exact q _ _ ws' fr (New.own sm fr _) upd_same v2
    · cases hz
  · cases hz
def leS (a b : Str) : Bool := decide (a.cps.toList ≤ b.cps.toList)
def sortS (l : List Str) : List Str := l.mergeSort leS
def onceS : List Str → List Str
  | [] => []
  | x :: r => if x ∈ r then onceS r else x :: onceS r
theorem once_mem {x : Str} : ∀ {l : List Str}, x ∈ onceS l ↔ x ∈ l
  | [] => Iff.rfl
  | y :: r => by
    unfold onceS
    split
    · rename_i h
      rw [once_mem (l := r), List.mem_cons]
      exact ⟨.inr, fun z => z.elim (fun z => z ▸ h) id⟩
    · rw [List.mem_cons, List.mem_cons, once_mem (l := r)]
theorem once_nd : ∀ l : List Str, (onceS l).Nodup
  | [] => .nil
  | y :: r => by
    unfold onceS
    split
    · exact once_nd r
    · rename_i h
      exact List.nodup_cons.mpr ⟨fun z => h (once_mem.mp z), once_nd r⟩
theorem cps_inj {a b : Str} (h : a.cps.toList = b.cps.toList) : a = b := by
  cases a; cases b
  have : (⟨_⟩ : Str).cps = _ := Array.toList_inj.mp h
  simp_all
theorem leS_trans (a b c : Str) (h1 : leS a b = true) (h2 : leS b c = true) : leS a c = true := by
  unfold leS at *
  rw [decide_eq_true_eq] at *
  exact List.le_trans h1 h2
theorem leS_total (a b : Str) : (leS a b || leS b a) = true := by
  unfold leS
  rw [Bool.or_eq_true, decide_eq_true_eq, decide_eq_true_eq]
  exact List.le_total _ _
theorem leS_anti {a b : Str} (h1 : leS a b = true) (h2 : leS b a = true) : a = b := by
  unfold leS at *
  rw [decide_eq_true_eq] at *
  exact cps_inj (List.le_antisymm h1 h2)
theorem sort_same {k l : List Str} (h : k.Nodup) (e : ∀ x, x ∈ k ↔ x ∈ l) : sortS k = sortS (onceS l) := by
  have p : k.Perm (onceS l) := (List.perm_ext_iff_of_nodup h (once_nd l)).mpr fun x => (e x).trans once_mem.symm
  have p2 : (sortS k).Perm (sortS (onceS l)) := (List.mergeSort_perm k leS).trans (p.trans (List.mergeSort_perm _ leS).symm)
  exact p2.eq_of_pairwise (le := fun a b => leS a b = true) (fun a b _ _ => leS_anti) (List.pairwise_mergeSort leS_trans leS_total k) (List.pairwise_mergeSort leS_trans leS_total _)
section
variable {P : Program} {w : World} {A : Around} {E : Value → Shared → Prop} {s : Shared} {a : Addr} {ks : List Str}
theorem sk_vals {vs : List Value} {ks' : List Str} (h : EachIs (fun v k => (strKind P w).is k v = true) vs ks') : EachIs (fun v k => ∃ t, v = Value.str k t) vs ks' := by
  induction h with
  | nil => exact .nil
  | cons h _ ih => exact .cons (Value.isStrOf_shape h) ih
theorem sorted_sk {Q : Value → Shared → Prop} (R : SK (strKind P w) s.heap a ks) (hh : A.handled = none) (hu : A.units + 66 < cLine)
    (h : ∀ (s' : Shared) (p : Addr) (out : List Value) (c : Nat), (∀ b o, s.heap.get? b = some o → s'.heap.get? b = some o) → s'.gens = s.gens → s'.os = s.os → s.heap.objs.size ≤ p → s'.heap.get? p = some (seqObj "list" out.toArray c) → EachIs (fun v k => ∃ t, v = Value.str k t) out (sortS ks) → Q (.ref p) s') :
    wpAny (model P w) A (call (.builtin "sorted") [.ref a]) Q E s := by
  obtain ⟨o, es, ep, t, ho, hx, hd, r⟩ := R
  refine Calls.call_function_entry kind_sorted plain_sorted entry_sorted (args_sorted1 _) ?_
  unfold Builtin.«sorted»
  refine wpAny_bind (m := checkCount "sorted" 1 1 _) (wpAny_pure (wpAny_bind ?_))
  refine collect_set (A := A.in1) hh ⟨o, ho, hx.1, hd⟩ r.fit r.low r.ris r.led fun s1 vs k1 z1 g1 o1 pm => ?_
  have ent : EachIs (fun v k => (strKind P w).is k v = true) (es.toList.map (·.2)) ks := by
    have gen : ∀ {l : List (Int × Value)} {m : List Str}, EachIs (Ent (strKind P w)) l m → EachIs (fun v k => (strKind P w).is k v = true) (l.map (·.2)) m := fun {l m} q => by
      induction q with
      | nil => exact .nil
      | cons q _ ih => exact .cons q.1 ih
    exact gen r.ent
  obtain ⟨k', e1, p1⟩ := each_perm pm ent
  have e2 := sk_vals e1
  have hl1 : vs.length = ks.length := (each_len e1).trans p1.length_eq
  have hl2 : ks.length ≤ sizeLine := by
    have := fits_of_scanBound r.low
    rw [← each_len r.ent, Array.length_toList]; exact this
  refine wpAny_bind (wpAny_newList ?_ (by rw [hl1]; exact hl2))
  have oL : (s1.heap.push (seqObj "list" vs.toArray 0)).get? s1.heap.objs.size = some (seqObj "list" vs.toArray 0) := Heap.get?_push_size _ rfl
  have hnd : k'.Nodup := p1.nodup_iff.mpr r.nd
  refine wpAny_bind (wpAny_holding (list_sort_data (s := { s1 with heap := s1.heap.push (seqObj "list" vs.toArray 0) }) (enc := fun b : Str => PyData.str b) (R := fun v k => ∃ t, v = Value.str k t) oL e2 (e2.mono fun v k ⟨t, q⟩ => ⟨[], by subst q; exact .str _ _, by simp⟩) (AllAlike.of fun _ _ => rfl) (Sortable.others fun b => ⟨(by intro z; cases z), fun xs z => by cases z⟩) (by rw [p1.length_eq]; exact hl2) (fun b _ => ?_) fun out ho eo => ?_))
  · show A.in1.units + 1 + PyData.depth (.str b) < cLine
    have : A.in1.units ≤ A.units + 1 := by first | exact Nat.le_refl _ | simp [Around.in1]
    rw [PyData.depth]
    omega
  · rw [dataLe_str] at eo
    obtain ⟨c, hc⟩ := PyProof.Rows.sortedHeap_at (vs := vs) (out := out.toArray) oL
    refine wpAny_pure ⟨_, rfl, h _ s1.heap.objs.size out c (fun b u q => ?_) g1 o1 z1 hc ?_⟩
    · have q1 := k1 b u q
      have hlt := Heap.lt_size q1
      show (PyProof.Rows.sortedHeap (s1.heap.push (seqObj "list" vs.toArray 0)) s1.heap.objs.size vs out.toArray).get? b = some u
      rw [PyProof.Rows.sortedHeap_old (Nat.ne_of_lt hlt) (Nat.lt_of_lt_of_eq (Nat.lt_succ_of_lt hlt) (Heap.size_push ..).symm)]
      exact Heap.get?_push_of_some _ q1
    · have es : k'.mergeSort (fun a b => decide (a.cps.toList ≤ b.cps.toList)) = sortS ks := by
        show sortS k' = sortS ks
        rw [sort_same hnd (l := ks) fun x => p1.mem_iff, sort_same r.nd (l := ks) fun x => Iff.rfl]
      rw [← es]
      exact eo
end
end DL
end
section
set_option maxRecDepth 100000
set_option maxHeartbeats 4000000
namespace DL
open PySem PySem.Spec PyProof.Rows L2 PySem.W
abbrev TK := Sl → Hp → (List Str → Hp → Prop) → Prop
structure PSt (X : Cx) (e : Expr) (t : TK) : Prop where
  run : ∀ (pins : List (Addr × Obj)) (s : Shared) (σ : Sl) (H : Hp) (Q : List Str → Hp → Prop), L2.Inv X pins σ H s → t σ H Q →
    wpAny (model X.prog X.w) X.A (eval e X.env) (fun v s' => ∃ a ks H', v = Value.ref a ∧ SK (strKind X.prog X.w) s'.heap a ks ∧ L2.Inv X pins σ H' s' ∧ Q ks H') X.xe s
def PKx (K : Frag) (c : Ct) (pu : Bool) (F H : Hp) (σ : Sl) (Q : List Str → Hp → Prop) (l : List Str) (ρ' : Env) : Prop :=
  ∀ F' H' O' ks, EnvR K c F' H' σ ρ' O' → Same F F' → (pu = true → Same H H') → ks.Nodup → (∀ x, x ∈ ks ↔ x ∈ l) → Q ks H'
def tk (K : Frag) (c : Ct) (pu : Bool) (m : M (List Str)) : TK := fun σ H Q => ∃ F ρ O, EnvR K c F H σ ρ O ∧ (m ρ).post (PKx K c pu F H σ Q) (PX K c σ)
def textsD (x : D) : Option (List Str) := match x with
  | .list xs => (allStr xs).bind fun l => if l.length + 1 < scanBound then some l else none
  | .tuple xs => (allStr xs).bind fun l => if l.length + 1 < scanBound then some l else none
  | _ => none
def mSetOf (m : M D) : M (List Str) := fun ρ => (m ρ).bind fun x ρ1 => ofO (textsD x) ρ1
def mSortK (m : M (List Str)) : M (List D) := fun ρ => (m ρ).bind fun l ρ1 => .ok ((sortS (onceS l)).map .str) ρ1
def mLenK (m : M (List Str)) : M D := fun ρ => (m ρ).bind fun l ρ1 => .ok (.int ((onceS l).length : Nat)) ρ1
theorem vals_str : ∀ {l : List Str} {us : List Value}, Vals (l.map V.str) us → ∀ i (v : Value), us[i]? = some v → ∃ t, v = .str (l.getD i Str.empty) t
  | [], _, .nil, i, v, h => by simp at h
  | x :: l, _, .cons r t, 0, v, h => by
    obtain ⟨k, rfl⟩ := r
    simp at h
    exact ⟨k, h.symm⟩
  | x :: l, _, .cons r t, i + 1, v, h => by
    obtain ⟨k, e⟩ := vals_str t i v (by simpa using h)
    exact ⟨k, by rw [e]; rfl⟩
theorem mem_idx {l : List Str} {x : Str} : (∃ j, j < l.length ∧ l.getD j Str.empty = x) ↔ x ∈ l := by
  constructor
  · rintro ⟨j, hj, rfl⟩
    rw [List.getD_eq_getElem?_getD, List.getElem?_eq_getElem hj]
    exact List.getElem_mem hj
  · intro h
    obtain ⟨j, hj, e⟩ := List.getElem_of_mem h
    exact ⟨j, hj, by rw [List.getD_eq_getElem?_getD, List.getElem?_eq_getElem hj, e]; rfl⟩
theorem SK.nd {κ : Type} [DecidableEq κ] {P : Program} {w : World} {knd : KeyKind P w κ} {h : Heap} {a : Addr} {ks : List κ} (R : SK knd h a ks) : ks.Nodup := by
  obtain ⟨_, _, _, _, _, _, _, r⟩ := R
  exact r.nd
theorem set_texts {X : Cx} {pins : List (Addr × Obj)} {σ : Sl} {H : Hp} {s : Shared} {p : Addr} {l : List Str} {Q : Value → Shared → Prop} {E : Value → Shared → Prop} (hc : X.calm = true) (I : L2.Inv X pins σ H s) (hp : SqL X.K H p (l.map V.str) ∨ SqT X.K H p (l.map V.str)) (low : l.length + 1 < scanBound)
    (h : ∀ a ks s', SK (strKind X.prog X.w) s'.heap a ks → (∀ x, x ∈ ks ↔ x ∈ l) → L2.Inv X pins σ H s' → Q (.ref a) s') : wpAny (model X.prog X.w) X.A (call (.type "set") [.ref p]) Q E s := by
  have hh := I.ok.hd hc
  have done : ∀ {us : List Value}, Vals (l.map V.str) us → us.toArray.size = l.length → ∀ (s' : Shared) (ks : List Str), SK (strKind X.prog X.w) s'.heap s.heap.objs.size ks → (∀ x, x ∈ ks ↔ ∃ j, j < l.length ∧ l.getD j Str.empty = x) → (∀ b o, s.heap.get? b = some o → s'.heap.get? b = some o) → s'.gens = s.gens → s'.drawn = s.drawn → s'.os = s.os → Q (.ref s.heap.objs.size) s' := fun r e s' ks q1 q2 q3 q4 q5 q6 => by
    have es : s' = { s with heap := s'.heap, toks := s'.toks } := by
      cases s'
      cases s
      cases q4; cases q5; cases q6
      rfl
    refine h _ ks s' q1 (fun x => (q2 x).trans mem_idx) ?_
    rw [es]
    exact I.kept q3
  rcases hp with hp | hp
  · obtain ⟨us, r, pl, _⟩ := I.list hp
    obtain ⟨o, n, e, oc, od, dt⟩ := pl
    have hl : us.toArray.size = l.length := by rw [List.size_toArray, ← r.length, List.length_map]
    refine call_set1 (knd := strKind X.prog X.w) seq_l (n := l.length) (Pv := fun i v => us.toArray[i]? = some v) (fun i => l.getD i Str.empty) e oc low (fun i v hv => ?_) (fun A' s1 E' Q' e1 k => ?_) fun s' ks q1 q2 _ q3 q4 q5 q6 => done r hl s' ks q1 q2 q3 q4 q5 q6
    · obtain ⟨t, rfl⟩ := vals_str r i v (by simpa using hv)
      exact ⟨strKind_is _ _ _ _, rfl⟩
    · have il : s1.heap.IsList p us.toArray := ⟨o, e1, oc, n, dt⟩
      have ne : p ≠ s1.heap.objs.size := Nat.ne_of_lt (Heap.lt_size e1)
      refine wpAny_pyIter_list il (k _ _ rfl (fun b u q => Heap.get?_push_of_some _ q) fun A2 h2 => ?_)
      have W := (Walks.list (prog := X.prog) (w := X.w) (A := A2) (h2.trans hh) s1.heap.objs.size p ne us.toArray).toS
      rw [hl] at W
      exact ⟨_, W, ⟨⟨_, Heap.get?_push_size _ rfl, rfl, rfl⟩, il.push _⟩⟩
  · obtain ⟨us, r, pl, _⟩ := I.tuple hp
    obtain ⟨o, e, oc, n, dt⟩ := pl
    have hl : us.toArray.size = l.length := by rw [List.size_toArray, ← r.length, List.length_map]
    refine call_set1 (knd := strKind X.prog X.w) seq_t (n := l.length) (Pv := fun i v => us.toArray[i]? = some v) (fun i => l.getD i Str.empty) e oc low (fun i v hv => ?_) (fun A' s1 E' Q' e1 k => ?_) fun s' ks q1 q2 _ q3 q4 q5 q6 => done r hl s' ks q1 q2 q3 q4 q5 q6
    · obtain ⟨t, rfl⟩ := vals_str r i v (by simpa using hv)
      exact ⟨strKind_is _ _ _ _, rfl⟩
    · have il : s1.heap.IsTuple p us.toArray := ⟨o, e1, oc, n, dt⟩
      have ne : p ≠ s1.heap.objs.size := Nat.ne_of_lt (Heap.lt_size e1)
      refine wpAny_pyIter_tuple il (k _ _ rfl (fun b u q => Heap.get?_push_of_some _ q) fun A2 h2 => ?_)
      have W := (Walks.tuple (prog := X.prog) (w := X.w) (A := A2) (h2.trans hh) s1.heap.objs.size p ne us.toArray).toS
      rw [hl] at W
      exact ⟨_, W, ⟨⟨_, Heap.get?_push_size _ rfl, rfl, rfl⟩, il.push _⟩⟩
section
variable {X : Cx} {c : Ct} {e : Expr} {pos p : Pos} {ka pu : Bool} {me : M D} {mk : M (List Str)}
theorem sk_set (hc : X.calm = true) (hm : X.mg "set" = none) (ha : PE X e (te X.K c ka pu me)) (hg : Gl X "set" := by rfl) (na : starEach [e] X.env = (false, eval e X.env) :: starEach [] X.env := by rfl) : PSt X (.Call (.Name "set" p) [e] [] pos) (tk X.K c pu (mSetOf me)) := ⟨fun pins s σ H Q I ⟨F, ρ, O, ev, h⟩ => by
  refine Call_ (ld_blt I hg hm boot_set ?_)
  refine PyProof.Rows.callWith_type1 (PyProof.Rows.args_cons (thn (ha.run pins s σ H (fun v H1 => ∃ F1 ρ1 O1 l p, EnvR X.K c F1 H1 σ ρ1 O1 ∧ Same F F1 ∧ (pu = true → Same H H1) ∧ v = .ref p ∧ (SqL X.K H1 p (l.map V.str) ∨ SqT X.K H1 p (l.map V.str)) ∧ l.length + 1 < scanBound ∧ PKx X.K c pu F H σ Q l ρ1) I ?_) fun v s1 ⟨x, H1, I1, r1, q1⟩ => PyProof.Rows.args_nil ?_) na) na rfl
  · refine te_step ev h fun y ρ1 F1 H1 O1 v h1 e1 s1 p1 v1 => ?_
    obtain ⟨l, hl, h2⟩ := post_ofO h1
    unfold textsD at hl
    split at hl
    · obtain ⟨l', hs, hl⟩ := Option.bind_eq_some_iff.mp hl
      split at hl
      · rename_i low
        cases hl
        obtain ⟨p, vs, rfl, k1, k2⟩ := inv_list e1.sub v1.up0
        have ev2 := allStr_ok hs k2
        subst ev2
        exact ⟨F1, ρ1, O1, l, p, e1, s1, p1, rfl, .inl (.of k1), low, h2⟩
      · cases hl
    · obtain ⟨l', hs, hl⟩ := Option.bind_eq_some_iff.mp hl
      split at hl
      · rename_i low
        cases hl
        obtain ⟨p, vs, rfl, k1, k2⟩ := inv_tup v1.up0
        have ev2 := allStr_ok hs k2
        subst ev2
        exact ⟨F1, ρ1, O1, l, p, e1, s1, p1, rfl, .inr (sq_t e1.sub k1), low, h2⟩
      · cases hl
    · cases hl
  · obtain ⟨F1, ρ1, O1, l, p, e1, s1', p1, rfl, k1, low, h2⟩ := q1
    cases r1
    exact set_texts hc I1 k1 low fun a ks s' hS hks I' => ⟨a, ks, H1, rfl, hS, I', h2 F1 H1 O1 ks e1 s1' p1 hS.nd hks⟩⟩
theorem n_sortK (hc : X.calm = true) (hu : X.A.units + 66 < cLine) (hm : X.mg "sorted" = none) (ha : PSt X e (tk X.K c pu mk)) (hg : Gl X "sorted" := by rfl) (na : starEach [e] X.env = (false, eval e X.env) :: starEach [] X.env := by rfl) : PE X (.Call (.Name "sorted" p) [e] [] pos) (tn X.K c pu (mSortK mk)) := ⟨fun pins s σ H Q I ⟨F, ρ, O, ev, h⟩ => by
  refine Call_ (ld_blt I hg hm boot_sorted ?_)
  refine PyProof.Rows.callWith_builtin1 (PyProof.Rows.args_cons (thn (ha.run pins s σ H (fun ks H1 => ∃ F1 ρ1 O1 l, EnvR X.K c F1 H1 σ ρ1 O1 ∧ Same F F1 ∧ (pu = true → Same H H1) ∧ ks.Nodup ∧ (∀ x, x ∈ ks ↔ x ∈ l) ∧ PN X.K c pu F H σ Q ((sortS (onceS l)).map .str) ρ1) I ?_) fun v s1 ⟨a, ks, H1, hv, hS, I1, q1⟩ => PyProof.Rows.args_nil ?_) na) na rfl
  · exact ⟨F, ρ, O, ev, Res.post_imp (Res.post_bind h) (fun l ρ1 h1 F1 H1 O1 ks e1 s1 p1 nd hk => ⟨F1, ρ1, O1, l, e1, s1, p1, nd, hk, h1⟩) fun _ _ h => h⟩
  · obtain ⟨F1, ρ1, O1, l, e1, s1', p1, nd, hk, h2⟩ := q1
    subst hv
    refine sorted_sk hS (I1.ok.hd hc) hu fun s' q out cc keep hg' ho' hq hget eo => ?_
    have hn : H1 q = none := I1.hok.fresh hq
    have vl : ∀ {us : List Value} {zs : List Str}, EachIs (fun v k => ∃ t, v = Value.str k t) us zs → Vals (zs.map V.str) us := fun {us zs} q => by
      induction q with
      | nil => exact .nil
      | cons q _ ih => exact .cons q ih
    have vs := vl eo
    have hz : ((sortS ks).map V.str).length ≤ sizeLine := by
      have hp := (List.mergeSort_perm ks leS).length_eq
      have : ks.length ≤ sizeLine := by
        obtain ⟨_, es, _, _, _, _, _, r⟩ := hS
        rw [← each_len r.ent, Array.length_toList]
        exact fits_of_scanBound r.low
      rw [List.length_map]
      show (ks.mergeSort leS).length ≤ _
      rw [hp]
      exact this
    have J : L2.Inv X pins σ (upd H1 q (.lst ((sortS ks).map V.str))) { s1 with heap := s'.heap, gens := s'.gens, drawn := s'.drawn, toks := s'.toks } :=
      I1.call (ch := []) (Un.laid keep hq hn) (I1.hok.laid keep hq ⟨hz, out, cc, vs, hget⟩) (by rw [hg']; exact I1.bare) (fun _ z => nomatch z)
    have es : s' = { s1 with heap := s'.heap, gens := s'.gens, drawn := s'.drawn, toks := s'.toks } := by
      cases s'
      cases s1
      cases ho'
      rfl
    rw [es]
    have n1 := New.own e1.sub hn (.lst ((sortS ks).map V.str))
    refine ⟨.ref q, _, J, rfl, h2 F1 _ O1 q _ (e1.new n1) s1' (fun z => (p1 z).trans n1.hH) upd_same ?_ (e1.apart hn)⟩
    rw [sort_same nd hk]
    generalize sortS (onceS l) = zs
    induction zs with
    | nil => exact .nil
    | cons z zs ih => exact .cons (.str z) ih⟩
end
end DL
end
section
set_option maxRecDepth 100000
set_option maxHeartbeats 4000000
namespace DL
open PySem PySem.Spec PyProof.Rows L2
theorem kb_of {K : Frag} {x qual : Str} {params : Arguments} {body : List Stmt} {scope : Scope} {kws : List (Str × V)} {f : Addr} {fd : FuncData} {ps ks : List Str} {n : Nat} {g : {α : Type} → List α → List α → List α} (F : FunD K x qual params body scope [] kws f fd)
    (hrel : ∀ {vs zs : List V} {us ws : List Value}, Vals vs us → Vals zs ws → Vals (g vs zs) (g us ws))
    (h : ∀ (kV doc pm : Value) (an : Option Addr) (cdv ct : Value) (us ws : List Value), us.length = n → ws.length = ks.length → bindArgs (PySem.W.fnOf x qual params body scope .none kV doc pm an cdv ct) ⟨us, ks.zip ws⟩ = pure (ps.zip (g us ws))) : KBn K fd ps n ks (fun us ws => g us ws) (fun vs zs => g vs zs) := by
  obtain ⟨oc, od, dV, kV, doc, pm, an, cdv, ct, osl, rfl, lk, hcd, hD, hK⟩ := F.ex
  rcases hD with ⟨_, rfl⟩ | ⟨e, _⟩
  · exact ⟨fun s us ws _ l1 l2 => .of_eq (h kV doc pm an cdv ct us ws l1 l2), fun r1 r2 => hrel r1 r2⟩
  · exact absurd rfl e
def gSnd {α : Type} (_ ws : List α) : List α := ws
section
variable {X : Cx} {c : Ct} {k : Nat} {f : Addr} {fd : FuncData} {ps ks : List Str} {fn : Fn} {x : Str} {p pos kpos : Pos} {e : Expr} {es : List Expr} {kws : List Keyword} {ms : M (List AV)} {me : M D} {p1 : Bool} {nm : Option Str} {g : List Value → List Value → List Value}
theorem pk_imp {t t' : TA} (h : L2.PK X kws t) (q : ∀ σ H Q, t' σ H Q → t σ H Q) : L2.PK X kws t' := ⟨fun pos pins s σ H Q I z => h.run pos pins s σ H Q I (q σ H Q z)⟩
theorem sk_nil : L2.PK X [] (tg X.K c gNil) := pk_imp pk_nil fun σ H Q ⟨F, ρ, O, e, h⟩ => h F H O [] e (Same.refl _) .nil
theorem sk_d (ha : PE X e (te X.K c false p1 me)) (hr : L2.PK X kws (tg X.K c ms)) : L2.PK X (⟨nm, e, kpos⟩ :: kws) (tg X.K c (gD me ms)) :=
  pk_imp (pk_cons ha hr) fun σ H Q ⟨F, ρ, O, e, h⟩ => te_step e h fun x ρ1 F1 H1 O1 v h1 e1 s1 q1 v1 => tg_step e1 h1 fun xs ρ2 F2 H2 O2 vs h2 e2 s2 v2 => h2 F2 H2 O2 _ e2 (s1.trans s2) (.d (Rp.mono s2 v1) v2)
theorem so_callK0 (G : FnOk X.prog X.w X.K X.mg X.base (L2.CX X.prog X.w) k f fd ps (spF X.K c.ca fn)) (hr : Room k X.A) (hm : X.mg x = some (.ref f)) (hk : PySem.W.keepIn X.K (.ref f) = true) (hb : KBn X.K fd ps 0 ks (fun us ws => gSnd us ws) (fun vs zs => gSnd vs zs)) (tk : Takes X c.W) (hl : ∀ ρ as ρ', ms ρ = .ok as ρ' → as.length = ks.length)
    (hkw : L2.PK X kws (tg X.K c ms)) (hg : Gl X x := by rfl) (hdb : (x == ("__debug__" : Str)) = false := by decide) (hall : (backToKw pos (keywordEach kws X.env)).all (·.1.isSome) = true := by rfl) (hks : (backToKw pos (keywordEach kws X.env)).filterMap (·.1) = ks := by rfl)
    (hpl : ((backTo pos (starEach [] X.env)).any (·.1) || (backToKw pos (keywordEach kws X.env)).any (·.1.isNone)) = false := by rfl) : PE X (.Call (.Name x p) [] kws pos) (to X.K c (mCall fn ms)) := ⟨fun pins s σ H Q I ⟨F, ρ, O, ev, h⟩ => by
  refine wpAny_Call_Name_kw (ld_glob I hg hm ?_ hdb)
  refine PySem.W.callWith_KW0 (h₀ := X.base) I.ok.mod.kin hk hall ?_ hpl
  refine thn (hkw.run pos pins s σ H (fun vs H1 => ∃ as ρ1 F1 O1, as.length = ks.length ∧ EnvR X.K c F1 H1 σ ρ1 O1 ∧ Same F F1 ∧ AvAll X.K F1 σ vs as ∧ (callEnd fn as (gather ρ1 as)).post (PO X.K c F H σ Q) (PX X.K c σ)) I ?_) fun ws s2 ⟨zs, H2, I2, rz, as, ρ1, F1, O1, la, e1, s1, av, h1⟩ => ⟨I2.kIn, ?_⟩
  · refine ⟨F, ρ, O, ev, ?_⟩
    have z := Res.post_bind h
    cases r : ms ρ with
    | ok as ρ1 => rw [r] at z; exact fun F1 H1 O1 vs e1 s1 av => ⟨as, ρ1, F1, O1, hl _ _ _ r, e1, s1, av, z⟩
    | ex ξ ρ1 => rw [r] at z; exact z
    | bad => rw [r] at z; exact z
  · rw [hks]
    have lz : zs.length = ks.length := by
      have gen : ∀ {vs : List V} {as : List AV}, AvAll X.K F1 σ vs as → vs.length = as.length := fun {vs as} q => by
        induction q with
        | nil => rfl
        | d _ _ ih => rw [List.length_cons, List.length_cons, ih]
        | o _ _ ih => rw [List.length_cons, List.length_cons, ih]
      exact (gen av).trans la
    have sp := call_in (Q := Q) e1 av h1 fun o ρ' F' H' O' A v hp e' s' ow ap => hp F' H' O' A v e' (s1.trans s') ow ap
    refine wpAny_call (codeAny_mono (G.run X.A X.stack s2 H2 ⟨[] ++ [], ks.zip ws⟩ (gSnd [] ws) zs Q (WE c.W σ) hr I2.env0 (hb.to s2 [] ws I2.kIn rfl (rz.length.symm.trans lz)) rz sp) fun r s' hq => ?_)
    cases r with
    | error e => exact passAt tk σ pins H2 s2 e s' I2 hq
    | ok fl =>
      cases fl with
      | ret u => exact I2.after hq
      | next => exact False.elim hq
      | brk => exact False.elim hq
      | cont => exact False.elim hq⟩
end
theorem gD_len {m : M D} {ms : M (List AV)} {n : Nat} (h : ∀ ρ as ρ', ms ρ = .ok as ρ' → as.length = n) : ∀ ρ as ρ', gD m ms ρ = .ok as ρ' → as.length = n + 1 := fun ρ as ρ' e => by
  unfold gD at e
  cases h1 : m ρ with
  | ok x ρ1 =>
    rw [h1] at e
    have e : ((ms ρ1).bind fun xs ρ2 => .ok (.d x :: xs) ρ2) = .ok as ρ' := e
    cases h2 : ms ρ1 with
    | ok ys ρ2 =>
      rw [h2] at e
      have e : Res.ok (.d x :: ys) ρ2 = .ok as ρ' := e
      cases e
      rw [List.length_cons, h _ _ _ h2]
    | ex _ _ => rw [h2] at e; cases e
    | bad => rw [h2] at e; cases e
  | ex _ _ => rw [h1] at e; cases e
  | bad => rw [h1] at e; cases e
theorem gNil_len : ∀ ρ as ρ', gNil ρ = .ok as ρ' → as.length = 0 := fun ρ as ρ' e => by cases e; rfl
def sRaise (x : Str) : M Fl := fun ρ => .ex ⟨.own x, []⟩ ρ
section
variable {X : Cx} {c : Ct} {C : Addr} {bmB : List Value} {B newId initId : String} {x y m : Str} {j : Nat} {p p2 pos pos' : Pos}
theorem sv_raise (hc : X.calm = true) (tk : Takes X c.W) (F : ExcBaseFacts B newId initId bmB) (q : PySem.W.excIn X.K C bmB newId = true) (gC : X.mg x = some (.ref C)) (kC : PySem.W.keepIn X.K (.ref C) = true) (r : Raises X (.ref C)) (hca : c.ca y = C) (hg : Gl X x := by rfl) (hdb : (x == ("__debug__" : Str)) = false := by decide) :
    PS X (.Raise (some (.Call (.Name x p) [.Constant (.str m) j p2] [] pos)) none pos') (ts X.K c (sRaise y)) := (ps_raise hc tk (pmk_own F q gC kC r hg hdb)).imp fun Dn σ H ⟨F, ρ, O, ev, h⟩ => by
  exact h σ F H O (.ref C) none ev ⟨by show _ = Value.ref (c.ca y); rw [hca], fun z => absurd rfl z⟩
end
def noEx {α : Type} : Res α → Res α
  | .ex _ _ => .bad
  | r => r
structure Hd where
  cv : Value
  isa : ECls → Option Bool
  m : M Fl
def tryH : List ((ECls → Option Bool) × M Fl) → Exc → M Fl
  | [], ξ => fun ρ => .ex ξ ρ
  | h :: r, ξ => fun ρ => match h.1 ξ.c with
    | some true => noEx (h.2 ρ)
    | some false => tryH r ξ ρ
    | none => .bad
def Hd.p (h : Hd) : (ECls → Option Bool) × M Fl := (h.isa, h.m)
def sTry (b : M Fl) (hs : List ((ECls → Option Bool) × M Fl)) : M Fl := fun ρ => match b ρ with
  | .ok f ρ1 => .ok f ρ1
  | .ex ξ ρ1 => tryH hs ξ ρ1
  | .bad => .bad
inductive HsOk (X : Cx) (c : Ct) : List ExceptHandler → List Hd → Prop
  | nil : HsOk X c [] []
  | cons {x : Str} {h : Hd} {b₀ : Stmt} {suite : List Stmt} {np pos' : Pos} {hds : List ExceptHandler} {l : List Hd} (hc : Names X x h.cv) (hi : ∀ e b, h.isa e = some b → PySem.W.exmOne X.K (ecV c.ca e) h.cv = some b)
      (hsu : ∀ (a : Addr) (pn : List (Addr × Obj)), PSs (X.suite a pn) (b₀ :: suite) (ts X.K c.nox h.m)) (r : HsOk X c hds l) : HsOk X c (.ExceptHandler (some (.Name x np)) none (b₀ :: suite) pos' :: hds) (h :: l)
section
variable {X : Cx} {c : Ct} {body : List Stmt} {hds : List ExceptHandler} {h₀ : ExceptHandler} {l : List Hd} {b : M Fl} {pos : Pos}
end
end DL
end
section
set_option maxRecDepth 100000
set_option maxHeartbeats 4000000
namespace DL
open PySem PySem.Spec PyProof.Rows L2
theorem walks_from {prog : Program} {w : World} {A : Around} {I : Addr} {fp wr : List Addr} {G : Array GenState → Array GenState → Prop} {n k : Nat} {Pv : Nat → Value → Prop} {St : Nat → Shared → Prop} (W : WalksS prog w A I fp wr G (k + n) Pv St) :
    WalksS prog w A I fp wr G n (fun i => Pv (k + i)) (fun i => St (k + i)) where
  sub := W.sub
  grefl := W.grefl
  gtrans := W.gtrans
  frame := fun i => W.frame (k + i)
  item := fun i s Q E hi => W.item (k + i) s Q E (by omega)
  done := W.done
  self := fun i => W.self (k + i)
theorem draw_walk {P : Program} {w : World} {A : Around} {I : Addr} {fp wr : List Addr} {G : Array GenState → Array GenState → Prop} {n : Nat} {Pv : Nat → Value → Prop} {St : Nat → Shared → Prop} (W : WalksS P w A I fp wr G n Pv St) {E : Value → Shared → Prop} :
    ∀ (m j : Nat) (s : Shared) (Q : List Value → Shared → Prop), j + m ≤ n → St j s → (∀ vs s', vs.length = m → (∀ t v, vs[t]? = some v → Pv (j + t) v) → St (j + m) s' → Moved wr G s s' → Q vs s') → wpAny (model P w) A (draw (.ref I) m) Q E s
  | 0, j, s, Q, _, st, h => wpAny_pure (h [] s rfl (fun t v z => by simp at z) st (Moved.refl W.grefl))
  | m + 1, j, s, Q, hj, st, h => by
    show wpAny _ _ (pyNext (.ref I) >>= _) Q E s
    refine wpAny_bind (W.item j s _ _ (by omega) st fun v s1 hv st1 mv => ?_)
    refine wpAny_bind (wpAny_holding (draw_walk W m (j + 1) s1 _ (by omega) st1 fun vs s2 hl hp st2 mv2 => wpAny_pure ?_))
    have e : j + 1 + m = j + (m + 1) := by omega
    rw [e] at st2
    refine h (v :: vs) s2 (by rw [List.length_cons, hl]) (fun t u z => ?_) st2 (Moved.trans W.gtrans mv mv2)
    cases t with
    | zero => simp at z; subst z; exact hv
    | succ t =>
      have := hp t u (by simpa using z)
      rw [show j + (t + 1) = j + 1 + t by omega]
      exact this
theorem items_drop {items : List Value} {acc : Array Value} {k n : Nat} (hn : k + n = items.length) (h : ItemsOf (fun i v => items[k + i]? = some v) acc n) : acc.toList = items.drop k := by
  refine List.ext_getElem? fun i => ?_
  rw [List.getElem?_drop]
  by_cases hi : i < n
  · have hs : i < acc.size := by rw [h.1]; exact hi
    have q := h.2 i acc[i] (Array.getElem?_eq_getElem hs)
    rw [q, Array.getElem?_toList, Array.getElem?_eq_getElem hs]
  · rw [List.getElem?_eq_none (by rw [Array.length_toList, h.1]; omega), List.getElem?_eq_none (by omega)]
theorem take_of {items vs : List Value} {k : Nat} (hl : vs.length = k) (hk : k ≤ items.length) (h : ∀ t v, vs[t]? = some v → items[0 + t]? = some v) : vs = items.take k := by
  refine List.ext_getElem? fun i => ?_
  by_cases hi : i < k
  · have q := h i _ (List.getElem?_eq_getElem (by omega))
    rw [Nat.zero_add] at q
    rw [List.getElem?_take_of_lt hi, q, List.getElem?_eq_getElem]
  · rw [List.getElem?_eq_none (by omega), List.getElem?_eq_none (by rw [List.length_take]; omega)]
def gStar (K : Frag) (k : Nat) (t : TGs) : TG := fun v σ H Q => ∃ a xs, v = .ref a ∧ (SqT K H a xs ∨ SqL K H a xs) ∧ k ≤ xs.length ∧ ∀ p, H p = none → t (xs.take k ++ [.ref p]) σ (upd H p (.lst (xs.drop k))) Q
theorem unpack_star {P : Program} {w : World} {A : Around} {E : Value → Shared → Prop} {s : Shared} {t : Addr} {T : String} {its : List Value} {k : Nat} {Q : List Value → Shared → Prop} {St : Nat → Shared → Prop} (hk : k ≤ its.length) (hz : its.length ≤ sizeLine)
    (hT : T = "list_iterator" ∨ T = "tuple_iterator") (no : ∀ {Q' : Bool → Shared → Prop}, Q' false s → wpAny (model P w) A (notIterableAtAll (.ref t)) Q' E s)
    (it : ∀ {Q' : Value → Shared → Prop}, (∀ h', (∀ b o, s.heap.get? b = some o → h'.get? b = some o) → St 0 { s with heap := h' } → s.heap.objs.size < h'.objs.size → Q' (.ref s.heap.objs.size) { s with heap := h' }) → wpAny (model P w) A (pyIter (.ref t)) Q' E s)
    (W : ∀ A' : Around, A'.handled = A.handled → WalksS P w A' s.heap.objs.size [s.heap.objs.size, t] [s.heap.objs.size] (fun g g' => g' = g) its.length (fun i v => its[i]? = some v) St) (ht : t < s.heap.objs.size) (hty : ∀ i s', St i s' → s'.TypeIs (.ref s.heap.objs.size) T)
    (h : ∀ (s' : Shared), (∀ b o, s.heap.get? b = some o → s'.heap.get? b = some o) → s'.gens = s.gens → s'.drawn = s.drawn → s'.os = s.os → Q (its.take k ++ [.ref s'.heap.objs.size]) { s' with heap := s'.heap.push (seqObj "list" (its.drop k).toArray 0) }) :
    wpAny (model P w) A (unpackItems (.ref t) (k + 1) (some k)) Q E s := by
  unfold unpackItems
  refine wpAny_bind (no ?_)
  simp only [Bool.false_eq_true, if_false]
  refine wpAny_bind (wpAny_holding (it fun h' kp st hs => ?_))
  have W0 := W A rfl
  refine wpAny_bind (wpAny_holding (draw_walk W0 k 0 _ _ (by omega) st fun vs s1 hl hv st1 m1 => ?_))
  rw [if_neg (by omega)]
  have eN : its.length = k + (its.length - k) := by omega
  have W1 : WalksS P w A.in1 s.heap.objs.size [s.heap.objs.size, t] [s.heap.objs.size] (fun g g' => g' = g) (k + (its.length - k)) (fun i v => its[i]? = some v) St := by
    rw [← eN]; exact W A.in1 rfl
  have W2 := walks_from W1
  have st2 : St (k + 0) s1 := by
    have e : 0 + k = k + 0 := by omega
    rw [← e]; exact st1
  have sz : s.heap.objs.size < s1.heap.objs.size := by
    obtain ⟨o, ho, _⟩ := hty _ _ st1
    exact Heap.lt_size ho
  refine wpAny_bind (wpAny_holding (wpAny_collect_iter (T := T) (by rcases hT with e | e; exact .inr (.inr (.inl e)); exact .inr (.inr (.inr e))) W2 (fun i s' q => hty _ s' q) st2 (fun b hb => ?_) (by simp) (fun s2 acc m2 hacc => ?_) (by omega)))
  · rcases List.mem_cons.mp hb with e | hb
    · rw [e]; exact sz
    · rw [List.mem_singleton] at hb
      rw [hb]; exact Nat.lt_trans ht sz
  · have er := items_drop (by omega) hacc
    have ev := take_of hl hk hv
    have a0 : k + 1 - 1 - k = 0 := by omega
    simp only [a0]
    rw [if_neg (Nat.not_lt_zero _)]
    simp only [Nat.sub_zero, List.take_length, List.drop_length, List.append_nil]
    refine wpAny_bind (wpAny_newList ?_ (by rw [er, List.length_drop]; omega))
    refine wpAny_pure ?_
    rw [ev, er]
    have k2 : ∀ b o, s.heap.get? b = some o → s2.heap.get? b = some o := fun b o q => by
      have hb : b ∉ [s.heap.objs.size] := fun z => by
        rw [List.mem_singleton] at z
        exact absurd z (Nat.ne_of_lt (Heap.lt_size q))
      exact m2.heap b o hb (m1.heap b o hb (kp b o q))
    exact h s2 k2 ((m2.gens).trans (m1.gens)) (m2.drawn.trans m1.drawn) (m2.os.trans m1.os)
section
variable {X : Cx} {c : Ct} {es es' : List Expr} {pos : Pos} {t : TGs}
theorem pg_star {k kk : Nat} (hc : X.calm = true) (h : PGs X es' t) (hn : (assignEach es X.env).length = k + 1 := by rfl) (hst : (assignEach es X.env).findIdx? (·.1) = some k := by rfl) (he : (assignEach es X.env).map (·.2) = (assignEach es' X.env).map (·.2) := by rfl) : PG X (.Tuple es kk pos) (gStar X.K k t) := ⟨fun pins s σ H v u Q I r ⟨a, xs, e1, hq, hk, hw⟩ => by
  subst e1
  cases r
  have hh := I.ok.hd hc
  show wpAny _ _ (do standAt pos; unpack (.ref a) (assignEach es X.env)) _ _ _
  refine wpAny_bind (wpAny_standAt ?_)
  unfold unpack
  rw [hn, hst]
  refine wpAny_bind (wpAny_holding ?_)
  have fin : ∀ {its : List Value}, Vals xs its → xs.length ≤ sizeLine → ∀ s2 : Shared, (∀ b o, s.heap.get? b = some o → s2.heap.get? b = some o) → s2.gens = s.gens → s2.drawn = s.drawn → s2.os = s.os →
      wpAny (model X.prog X.w) X.A (assignInOrder ((assignEach es X.env).map (·.2)) (its.take k ++ [.ref s2.heap.objs.size])) (fun _ s' => ∃ σ' H', L2.Inv X pins σ' H' s' ∧ Q σ' H') X.xe { s2 with heap := s2.heap.push (seqObj "list" (its.drop k).toArray 0) } := fun {its} rv hz s2 k2 g2 d2 o2 => by
    have es2 : s2 = { s with heap := s2.heap, toks := s2.toks } := by
      cases s2
      cases s
      cases g2; cases d2; cases o2
      rfl
    have I2 : L2.Inv X pins σ H s2 := by rw [es2]; exact I.kept k2
    have hn2 := I2.hok.fresh (a := s2.heap.objs.size) (Nat.le_refl _)
    have I3 : L2.Inv X pins σ (upd H s2.heap.objs.size (.lst (xs.drop k))) { s2 with heap := s2.heap.push (seqObj "list" (its.drop k).toArray 0) } :=
      I2.laid (t' := s2.toks) (fun b o q => Heap.get?_push_of_some _ q) (Nat.le_refl _) ⟨by rw [List.length_drop]; omega, its.drop k, 0, rv.drop k, Heap.get?_push_size _ rfl⟩
    rw [he]
    exact h.run pins _ σ _ _ _ Q I3 ((rv.take k).append (.cons (show RelV (V.ref s2.heap.objs.size) (Value.ref s2.heap.objs.size) from rfl) .nil)) (hw _ hn2)
  rcases hq with hq | hq
  · obtain ⟨its, rv, pl, hz⟩ := I.tuple hq
    have il : s.heap.IsTuple a its.toArray := pl
    obtain ⟨o, ho, _⟩ := id pl
    have lt := Heap.lt_size ho
    have il2 := rv.length
    refine unpack_star (T := "tuple_iterator") (its := its) (St := fun i s' => s'.heap.IsTupleIter s.heap.objs.size a i ∧ s'.heap.IsTuple a its.toArray) (by omega) (by omega) (.inr rfl) (fun q => ?_) (fun q => ?_) (fun A' hA => ?_) lt (fun i s' q => ?_) (fun s2 k2 g2 d2 o2 => fin rv hz s2 k2 g2 d2 o2)
    · unfold notIterableAtAll
      exact wpAny_bind (wpAny_specialOf il.typeIs F.slot_tuple_iter.lookup (wpAny_pure q))
    · exact wpAny_pyIter_tuple il (q _ (fun b u z => Heap.get?_push_of_some _ z) ⟨⟨_, Heap.get?_push_size _ rfl, rfl, rfl⟩, il.push _⟩ (by rw [Heap.size_push]; exact Nat.lt_succ_self _))
    · have W := (Walks.tuple (prog := X.prog) (w := X.w) (A := A') (hA.trans hh) s.heap.objs.size a (Nat.ne_of_lt lt) its.toArray).toS
      simpa using W
    · obtain ⟨⟨o, e, q, _⟩, _⟩ := q
      exact ⟨o, e, q⟩
  · obtain ⟨its, rv, pl, hz⟩ := I.list hq
    have il : s.heap.IsList a its.toArray := pl.isList
    have lt := pl.lt
    have il2 := rv.length
    refine unpack_star (T := "list_iterator") (its := its) (St := fun i s' => s'.heap.IsListIter s.heap.objs.size a i ∧ s'.heap.IsList a its.toArray) (by omega) (by omega) (.inl rfl) (fun q => ?_) (fun q => ?_) (fun A' hA => ?_) lt (fun i s' q => ?_) (fun s2 k2 g2 d2 o2 => fin rv hz s2 k2 g2 d2 o2)
    · unfold notIterableAtAll
      exact wpAny_bind (wpAny_specialOf il.typeIs slot_list_iter.lookup (wpAny_pure q))
    · exact wpAny_pyIter_list il (q _ (fun b u z => Heap.get?_push_of_some _ z) ⟨⟨_, Heap.get?_push_size _ rfl, rfl, rfl⟩, il.push _⟩ (by rw [Heap.size_push]; exact Nat.lt_succ_self _))
    · have W := (Walks.list (prog := X.prog) (w := X.w) (A := A') (hA.trans hh) s.heap.objs.size a (Nat.ne_of_lt lt) its.toArray).toS
      simpa using W
    · obtain ⟨⟨o, e, q, _⟩, _⟩ := q
      exact ⟨o, e, q⟩⟩
def tStar (k : Nat) (u : List D → Env → Option Env) : D → Env → Option Env := fun x ρ => match x with
  | .tuple xs => if k ≤ xs.length then u (xs.take k ++ [.list (xs.drop k)]) ρ else none
  | .list xs => if k ≤ xs.length then u (xs.take k ++ [.list (xs.drop k)]) ρ else none
  | _ => none
theorem tg_star {u : List D → Env → Option Env} {k kk : Nat} (hc : X.calm = true) (h : PGs X es' (tgsD X.K c u)) (hn : (assignEach es X.env).length = k + 1 := by rfl) (hst : (assignEach es X.env).findIdx? (·.1) = some k := by rfl) (he : (assignEach es X.env).map (·.2) = (assignEach es' X.env).map (·.2) := by rfl) :
    PG X (.Tuple es kk pos) (tgD X.K c (tStar k u)) := ⟨fun pins s σ H v w Q I r ⟨F, ρ, O, d, ρ', ev, rv, ht, q⟩ => by
  refine (pg_star (pos := pos) (kk := kk) hc h hn hst he).run pins s σ H v w Q I r ?_
  have go : ∀ {a : Addr} {vs : List V} {xs : List D}, RpAll X.K F vs xs → u (xs.take k ++ [.list (xs.drop k)]) ρ = some ρ' → ∀ p, H p = none → tgsD X.K c u (vs.take k ++ [.ref p]) σ (upd H p (.lst (vs.drop k))) Q := fun {a vs xs} rr hu p hp => by
    have n := New.one ev.sub hp (.lst (vs.drop k))
    exact ⟨_, ρ, O, _, ρ', ev.new n, ((rr.mono n.fF).take k).append (.one (.lst upd_same ((rr.mono n.fF).drop k))), hu, fun σ2 F2 H2 O2 n2 e2 l2 => q σ2 F2 H2 O2 (n.trans n2) e2 l2⟩
  unfold tStar at ht
  split at ht
  · split at ht
    · rename_i hl
      cases rv with
      | tup ha rr => exact ⟨_, _, rfl, .inl (sq_t ev.sub ha), by rw [rr.length]; exact hl, go (a := 0) rr ht⟩
    · cases ht
  · split at ht
    · rename_i hl
      cases rv with
      | lst ha rr => exact ⟨_, _, rfl, .inr (sq_l ev.sub (.of ha)), by rw [rr.length]; exact hl, go (a := 0) rr ht⟩
    · cases ht
  · cases ht⟩
end
end DL
end
section
set_option maxRecDepth 100000
set_option maxHeartbeats 4000000
namespace DL
open PySem PySem.Spec PyProof.Rows L2
abbrev KD := List (Key × D)
def dK (kds : KD) : D := .dict (kds.map fun p => (kD p.1, p.2))
def keyOf : D → Option Key
  | .int i => some (.inl i)
  | .str x => some (.inr x)
  | _ => none
inductive RpK (K : Frag) (F : Hp) : List (Key × V) → KD → Prop
  | nil : RpK K F [] []
  | cons {k : Key} {v : V} {x : D} {r : List (Key × V)} {s : KD} : Rp K F v x → RpK K F r s → RpK K F ((k, v) :: r) ((k, x) :: s)
section
variable {K : Frag} {F F' H H' : Hp}
theorem RpK.mono (e : Same F F') : ∀ {kvs : List (Key × V)} {kds : KD}, RpK K F kvs kds → RpK K F' kvs kds
  | _, _, .nil => .nil
  | _, _, .cons h r => .cons (h.mono e) (r.mono e)
theorem RpK.all : ∀ {kvs : List (Key × V)} {kds : KD}, RpK K F kvs kds → RpAll K F (kvs.map (·.2)) (kds.map (·.2))
  | _, _, .nil => .nil
  | _, _, .cons h r => .cons h r.all
theorem RpK.keys : ∀ {kvs : List (Key × V)} {kds : KD}, RpK K F kvs kds → kvs.map (·.1) = kds.map (·.1)
  | _, _, .nil => rfl
  | _, _, .cons h r => by rw [List.map_cons, List.map_cons, r.keys]
theorem RpK.of : ∀ {kvs : List (Key × V)} {ds : List D}, RpAll K F (kvs.map (·.2)) ds → RpK K F kvs ((kvs.map (·.1)).zip ds)
  | [], [], .nil => .nil
  | (k, v) :: r, d :: ds, .cons h q => .cons h (RpK.of q)
theorem RpK.len : ∀ {kvs : List (Key × V)} {kds : KD}, RpK K F kvs kds → kvs.length = kds.length
  | _, _, .nil => rfl
  | _, _, .cons h r => by rw [List.length_cons, List.length_cons, r.len]
theorem zip_kD : ∀ {ks : List Key} {ds : List D}, ((ks.map kD).zip ds) = (ks.zip ds).map fun p => (kD p.1, p.2)
  | [], _ => by simp
  | _ :: _, [] => by simp
  | k :: ks, d :: ds => by rw [List.map_cons, List.zip_cons_cons, List.zip_cons_cons, List.map_cons, zip_kD]
theorem dict_rp {a : Addr} {ob : Obj} {kvs : List (Key × V)} {kds : KD} (h : F a = some (.frz ob (.dK kvs))) (r : RpK K F kvs kds) : Rp K F (.ref a) (dK kds) := by
  have z := Rp.dcK h r.all
  have e : ((kvs.map fun p => kD p.1).zip (kds.map (·.2))) = kds.map fun p => (kD p.1, p.2) := by
    have e1 : (kvs.map fun p => kD p.1) = (kds.map (·.1)).map kD := by rw [← r.keys, List.map_map]; rfl
    rw [e1, zip_kD]
    congr 1
    clear z r h e1
    induction kds with
    | nil => rfl
    | cons x l ih => rw [List.map_cons, List.map_cons, List.zip_cons_cons, ih]
  rw [e] at z
  exact z
end
def putKD (kds : KD) (k : Key) (x : D) : KD := if (kds.any fun p => decide (p.1 = k)) = true then kds.map (fun p => if p.1 = k then (p.1, x) else p) else kds ++ [(k, x)]
def mergeKD (kds more : KD) : KD := more.foldl (fun acc p => putKD acc p.1 p.2) kds
section
variable {K : Frag} {F : Hp}
theorem RpK.any {k : Key} : ∀ {kvs : List (Key × V)} {kds : KD}, RpK K F kvs kds → (kvs.any fun p => decide (p.1 = k)) = kds.any fun p => decide (p.1 = k)
  | _, _, .nil => rfl
  | _, _, .cons h r => by rw [List.any_cons, List.any_cons, r.any]
theorem RpK.repl {k : Key} {v : V} {x : D} (h : Rp K F v x) : ∀ {kvs : List (Key × V)} {kds : KD}, RpK K F kvs kds → RpK K F (kvs.map fun p => if p.1 = k then (p.1, v) else p) (kds.map fun p => if p.1 = k then (p.1, x) else p)
  | _, _, .nil => .nil
  | _, _, .cons (k := j) q r => by
    rw [List.map_cons, List.map_cons]
    by_cases e : j = k
    · rw [if_pos e, if_pos e]; exact .cons h (RpK.repl h r)
    · rw [if_neg e, if_neg e]; exact .cons q (RpK.repl h r)
theorem RpK.append : ∀ {kvs l : List (Key × V)} {kds m : KD}, RpK K F kvs kds → RpK K F l m → RpK K F (kvs ++ l) (kds ++ m)
  | _, _, _, _, .nil, s => s
  | _, _, _, _, .cons h r, s => .cons h (r.append s)
theorem RpK.put {k : Key} {v : V} {x : D} {kvs : List (Key × V)} {kds : KD} (r : RpK K F kvs kds) (h : Rp K F v x) : RpK K F (putK kvs k v) (putKD kds k x) := by
  unfold putK putKD
  rw [r.any]
  split
  · exact r.repl h
  · exact r.append (.cons h .nil)
theorem RpK.merge {more : List (Key × V)} {mds : KD} (q : RpK K F more mds) : ∀ {kvs : List (Key × V)} {kds : KD}, RpK K F kvs kds → RpK K F (mergeK kvs more) (mergeKD kds mds) := by
  induction q with
  | nil => intro kvs kds r; exact r
  | cons h _ ih => intro kvs kds r; exact ih (r.put h)
end
def mNilP : M KD := fun ρ => .ok [] ρ
def mConsP (k v : M D) (r : M KD) : M KD := fun ρ => (k ρ).bind fun x ρ1 => (v ρ1).bind fun y ρ2 => match keyOf x with
  | some j => (r ρ2).bind fun l ρ3 => .ok ((j, y) :: l) ρ3
  | none => .bad
theorem keyOf_ok {K : Frag} {F : Hp} {v : V} {x : D} {k : Key} (h : keyOf x = some k) (r : Rp K F v x) : v = kV k := by
  unfold keyOf at h
  split at h
  · cases h; cases r; rfl
  · cases h; cases r; rfl
  · cases h
def PPx (K : Frag) (c : Ct) (F H : Hp) (σ : Sl) (Q : List (V × V) → Hp → Prop) (kds : KD) (ρ' : Env) : Prop :=
  ∀ F' H' O' kvs, EnvR K c F' H' σ ρ' O' → Same F F' → RpK K F' kvs kds → Q (kvs.map fun p => (kV p.1, p.2)) H'
structure SP (X : Cx) (c : Ct) (pos : Pos) (keys : List (Option Expr)) (values : List Expr) (m : M KD) : Prop where
  trs : ∃ trs, PPs X pos keys values trs ∧ ∀ F0 H0 O0 σ0 σ H Q, (∃ F ρ O, EnvR X.K (c.at F0 H0 O0 σ0) F H σ ρ O ∧ (m ρ).post (PPx X.K (c.at F0 H0 O0 σ0) F H σ Q) (PX X.K (c.at F0 H0 O0 σ0) σ)) → tPairs trs σ H Q
  len : ∀ ρ l ρ', m ρ = .ok l ρ' → l.length = keys.length
section
variable {X : Cx} {c : Ct} {pos : Pos} {keys : List (Option Expr)} {values : List Expr} {m : M KD} {k v : Expr} {p1 p2 : Bool} {mk mv : M D}
theorem sp_nil : SP X c pos [] [] mNilP := ⟨⟨[], pps_nil, fun _ _ _ _ σ H Q ⟨F, ρ, O, e, h⟩ => h F H O [] e (Same.refl _) .nil⟩, fun ρ l ρ' h => by cases h; rfl⟩
def teA (K : Frag) (c : Ct) (pu : Bool) (m : M D) : TE := fun σ H Q => ∃ F0 H0 O0 σ0, te K (c.at F0 H0 O0 σ0) false pu m σ H Q
theorem pe_at {e : Expr} {pu : Bool} {me : M D} (h : ∀ F H O σ, PE X e (te X.K (c.at F H O σ) false pu me)) : PE X e (teA X.K c pu me) := ⟨fun pins s σ H Q I ⟨F0, H0, O0, σ0, q⟩ => (h F0 H0 O0 σ0).run pins s σ H Q I q⟩
theorem sp_cons (hk : ∀ F H O σ, PE X k (te X.K (c.at F H O σ) false p1 mk)) (hv : ∀ F H O σ, PE X v (te X.K (c.at F H O σ) false p2 mv)) (hr : SP X c pos keys values m) : SP X c pos (some k :: keys) (v :: values) (mConsP mk mv m) := by
  obtain ⟨⟨trs, q1, q2⟩, hl⟩ := hr
  refine ⟨⟨_, pps_cons (pe_at hk) (pe_at hv) q1, fun F0 H0 O0 σ0 σ H Q ⟨F, ρ, O, e, h⟩ => ?_⟩, fun ρ l ρ' h => ?_⟩
  · refine ⟨F0, H0, O0, σ0, te_step e h fun x ρ1 F1 H1 O1 a h1 e1 s1 p1 r1 => ⟨F0, H0, O0, σ0, te_step e1 h1 fun y ρ2 F2 H2 O2 b h2 e2 s2 p2 r2 => ?_⟩⟩
    cases kx : keyOf x with
    | none => rw [kx] at h2; exact h2.elim
    | some j =>
      rw [kx] at h2
      refine q2 F0 H0 O0 σ0 _ _ _ ⟨F2, ρ2, O2, e2, Res.post_imp (Res.post_bind h2) (fun l ρ3 h3 F3 H3 O3 kvs e3 s3 r3 => ?_) fun _ _ h => h⟩
      have z := h3 F3 H3 O3 ((j, b) :: kvs) e3 ((s1.trans s2).trans s3) (.cons (Rp.mono s3 r2) r3)
      rw [keyOf_ok kx r1]
      exact z
  · unfold mConsP at h
    cases h1 : mk ρ with
    | ex _ _ => rw [h1] at h; cases h
    | bad => rw [h1] at h; cases h
    | ok x ρ1 =>
      rw [h1] at h
      have h : ((mv ρ1).bind fun y ρ2 => match keyOf x with
        | some j => (m ρ2).bind fun l ρ3 => .ok ((j, y) :: l) ρ3
        | none => .bad) = .ok l ρ' := h
      cases h2 : mv ρ1 with
      | ex _ _ => rw [h2] at h; cases h
      | bad => rw [h2] at h; cases h
      | ok y ρ2 =>
        rw [h2] at h
        have h : (match keyOf x with
        | some j => (m ρ2).bind fun l ρ3 => Res.ok ((j, y) :: l) ρ3
        | none => .bad) = .ok l ρ' := h
        cases kx : keyOf x with
        | none => rw [kx] at h; cases h
        | some j =>
          rw [kx] at h
          have h : ((m ρ2).bind fun l ρ3 => Res.ok ((j, y) :: l) ρ3) = .ok l ρ' := h
          cases h3 : m ρ2 with
          | ex _ _ => rw [h3] at h; cases h
          | bad => rw [h3] at h; cases h
          | ok l' ρ3 =>
            rw [h3] at h
            have h : Res.ok ((j, y) :: l') ρ3 = .ok l ρ' := h
            cases h
            rw [List.length_cons, List.length_cons, hl _ _ _ h3]
theorem pe_freeze {e : Expr} {t : TE} (h : PE X e t) : PE X e (fun σ H Q => t σ H fun v H1 => ∃ d u, v = .ref d ∧ H1 d = some u ∧ Mut (some u) ∧ ∀ od, Q v (upd H1 d (.frz od u))) := ⟨fun pins s σ H Q I hw => by
  refine thn (h.run pins s σ H _ I hw) fun v s1 ⟨x, H1, I1, r, d, u, e, hd, mu, q⟩ => ?_
  obtain ⟨od, I2⟩ := I1.lock hd mu
  exact ⟨x, _, I2, r, q od⟩⟩
def mDict (m : M KD) : M D := fun ρ => (m ρ).bind fun l ρ1 => .ok (dK (mergeKD [] l)) ρ1
def mDictO (m : M KD) : M OV := fun ρ => (m ρ).bind fun l ρ1 => .ok (.dct ((mergeKD [] l).map fun p => (kD p.1, p.2))) ρ1
theorem disp_step {F H : Hp} {σ : Sl} {ρ : Env} {O : List Addr} (hlen : ∀ ρ l ρ', m ρ = .ok l ρ' → l.length = keys.length) (h15 : keys.length ≤ 15) {trs : List (TE × TE)} (ht : ∀ F0 H0 O0 σ0 σ H Q, (∃ F ρ O, EnvR X.K (c.at F0 H0 O0 σ0) F H σ ρ O ∧ (m ρ).post (PPx X.K (c.at F0 H0 O0 σ0) F H σ Q) (PX X.K (c.at F0 H0 O0 σ0) σ)) → tPairs trs σ H Q) (e : EnvR X.K c F H σ ρ O) {Q : VK}
    (hm : (m ρ).post (fun l ρ1 => ∀ F' H' O' p kvs, EnvR X.K c F' H' σ ρ1 O' → Same F F' → H' p = some (.dK (mergeK [] kvs)) → RpK X.K F' (mergeK [] kvs) (mergeKD [] l) → Apart c F' [p] O' → Q (.ref p) H') (PX X.K c σ)) : tDisp trs σ H Q := fun p hp => by
  have n := New.own e.sub hp (.dK ([] : List (Key × V)))
  have e0 := e.new n
  have ap := e.apart hp
  have pO : p ∉ O := (List.nodup_cons.mp ap.nd).1
  refine ht _ _ _ _ σ _ _ ⟨F, ρ, O, e0.self, ?_⟩
  cases r : m ρ with
  | bad => rw [r] at hm; exact hm
  | ex ξ ρ1 => rw [r] at hm; exact fun F' H' O' cls d e' x => hm F' H' O' cls d (e0.trans e') x
  | ok l ρ1 =>
    rw [r] at hm
    intro F' H' O' kvs e' s' rk
    have hp' : H' p = some (.dK []) := e'.h0 p _ upd_same pO
    have fp' : F' p = none := e'.n0 p (fun z => by have z : upd H p (.dK []) p = none := z; rw [upd_same] at z; cases z) pO ((e.sub).free hp)
    have pO' : p ∉ O' := fun z => by
      rcases (e'.ow p z).2 with z | z
      · exact pO z
      · have z : upd H p (.dK []) p = none := z
        rw [upd_same] at z; cases z
    have et := e0.trans e'
    have hl : l.length = keys.length := hlen _ _ _ r
    refine ⟨hp', kvs, rfl, by rw [rk.len, hl]; exact h15, ?_⟩
    have e2 : EnvR X.K c F' (upd H' p (.dK (mergeK [] kvs))) σ ρ1 O' := by
      refine ⟨fun b u q => ?_, et.f0, fun b o q hb => ?_, et.n0, et.sl.mono (Same.refl _) fun b hb => upd_ne fun z => pO' (by rw [← z]; exact hb), et.nd, et.ow, et.fx⟩
      · rw [upd_ne fun z => by rw [z, fp'] at q; cases q]
        exact et.sub b u q
      · have z := e.h0 b o q hb
        rw [upd_ne fun k => by rw [k, hp] at z; cases z]
        exact et.h0 b o q hb
    refine hm F' _ O' p kvs e2 (fun b u q => s' b u q) upd_same (rk.merge .nil) ⟨List.nodup_cons.mpr ⟨pO', et.nd⟩, fun q hq => ?_⟩
    rw [List.mem_singleton] at hq
    subst hq
    exact ⟨fp', (ap.ow q (List.mem_singleton_self _)).2⟩
theorem se_dict (h : SP X c pos keys values m) (hall : keys.all (·.isSome) = true := by rfl) (hl : keys.length = values.length := by rfl) (h0 : keys ≠ [] := by exact fun z => nomatch z) (h15 : keys.length ≤ 15 := by exact Nat.le_of_ble_eq_true rfl) : PE X (.Dict keys values pos) (te X.K c false false (mDict m)) := by
  obtain ⟨⟨trs, q1, q2⟩, hlen⟩ := h
  refine (pe_freeze (pe_disp q1 hall hl h0 h15)).imp fun σ H Q ⟨F, ρ, O, e, h⟩ => disp_step hlen h15 q2 e ?_
  refine Res.post_imp (Res.post_bind h) (fun l ρ1 h1 F' H' O' p kvs e' s' hp r a => ⟨p, _, rfl, hp, trivial, fun od => ?_⟩) fun _ _ h => h
  have fp := (a.ow p (List.mem_singleton_self _)).1
  have pO : p ∉ O' := (List.nodup_cons.mp a.nd).1
  have s2 : Same F' (upd F' p (.frz od (.dK (mergeK [] kvs)))) := same_upd fp _
  refine h1 (upd F' p (.frz od (.dK (mergeK [] kvs)))) _ O' (.ref p) ?_ (s'.trans s2) (fun z => nomatch z) (dict_rp upd_same (r.mono s2))
  refine ⟨fun b u q => ?_, e'.f0.trans s2, fun b o q hb => ?_, fun b g1 g2 g3 => ?_, e'.sl.mono s2 fun b hb => upd_ne fun z => pO (by rw [← z]; exact hb), e'.nd, fun q hq => ⟨?_, (e'.ow q hq).2⟩, e'.fx⟩
  · by_cases z : b = p
    · subst z; rw [upd_same] at q ⊢; exact q
    · rw [upd_ne z] at q ⊢; exact e'.sub b u q
  · rcases (a.ow p (List.mem_singleton_self _)).2 with z | z
    · rw [upd_ne fun k => hb (by rw [k]; exact z)]
      exact e'.h0 b o q hb
    · rw [upd_ne fun k => by rw [k, z] at q; cases q]
      exact e'.h0 b o q hb
  · rw [upd_ne fun k => by
      subst k
      rcases (a.ow b (List.mem_singleton_self _)).2 with z | z
      · exact g2 z
      · exact g1 z]
    exact e'.n0 b g1 g2 g3
  · rw [upd_ne fun k => pO (by rw [← k]; exact hq)]
    exact (e'.ow q hq).1
end
end DL
end
section
set_option maxRecDepth 100000
set_option maxHeartbeats 4000000
namespace DL
open PySem PySem.Spec PyProof.Rows L2
def negD : D → Option D
  | .int i => some (.int (-i))
  | _ => none
section
variable {X : Cx} {c : Ct} {e : Expr} {es : List Expr} {pos : Pos} {ka pu : Bool} {me : M D}
theorem se_neg (ha : PE X e (te X.K c ka pu me)) : PE X (.UnaryOp .USub e pos) (te X.K c false pu (mF1 negD me)) := (pe_un un_neg ha).imp fun σ H Q ⟨F, ρ, O, ev, h⟩ => by
  refine te_step ev h fun x ρ1 F1 H1 O1 v h1 e1 s1 p1 v1 => ?_
  obtain ⟨z, hz, h2⟩ := post_ofO h1
  unfold negD at hz
  split at hz
  · cases hz
    exact ⟨_, inv_int v1.up0, h2 F1 H1 O1 _ e1 s1 p1 (.int _)⟩
  · cases hz
end
def visB (sc : Scope) (x : Str) : Bool := match sc.names.lookup x with
  | some .local => true
  | some .cell => true
  | some .free => true
  | _ => false
theorem vis_of {sc : Scope} {x : Str} (h : visB sc x = true) : Vis sc x := by
  unfold visB at h
  split at h
  · rename_i q; exact .inl q
  · rename_i q; exact .inr (.inl q)
  · rename_i q; exact .inr (.inr q)
  · cases h
def locB (sc : Scope) (x : Str) : Bool := match sc.names.lookup x with
  | some .local => true
  | some .cell => true
  | _ => false
theorem loc_of {sc : Scope} {x : Str} (h : locB sc x = true) : Loc sc x := by
  unfold locB at h
  split at h
  · rename_i q; exact .inl q
  · rename_i q; exact .inr q
  · cases h
def nmB (x : Str) : Bool := !(x == ("__debug__" : Str)) && !(x == ("__classdict__" : Str))
structure NmOk (N : List Str) (sc : Scope) (us : List Nat) : Prop where
  vis : (us.all fun i => match N[i]? with
    | some x => visB sc x && nmB x
    | none => false) = true
theorem NmOk.v {N : List Str} {sc : Scope} {us : List Nat} (h : NmOk N sc us) {i : Nat} {x : Str} (hi : us.contains i = true) (hN : N[i]? = some x) : Vis sc x ∧ (x == ("__debug__" : Str)) = false ∧ (x == ("__classdict__" : Str)) = false := by
  have z := List.all_eq_true.mp h.vis i (by simpa using hi)
  rw [hN] at z
  simp only [nmB, Bool.and_eq_true, Bool.not_eq_true'] at z
  exact ⟨vis_of z.1, z.2.1, z.2.2⟩
def tabIsa : List (Str × Bool) → ECls → Option Bool
  | [], _ => none
  | (x, b) :: r, .own y => if y = x then some b else tabIsa r (.own y)
  | _ :: _, .blt _ => none
theorem tab_nil {K : Frag} {ca : Str → Addr} {cv : Value} : ∀ e b, tabIsa [] e = some b → PySem.W.exmOne K (ecV ca e) cv = some b := fun e b h => by cases h
theorem tab_cons {K : Frag} {ca : Str → Addr} {cv : Value} {x : Str} {b0 : Bool} {r : List (Str × Bool)} (h0 : PySem.W.exmOne K (.ref (ca x)) cv = some b0) (hr : ∀ e b, tabIsa r e = some b → PySem.W.exmOne K (ecV ca e) cv = some b) : ∀ e b, tabIsa ((x, b0) :: r) e = some b → PySem.W.exmOne K (ecV ca e) cv = some b := fun e b h => by
  cases e with
  | own y =>
    unfold tabIsa at h
    split at h
    · rename_i e
      cases h
      subst e
      exact h0
    · exact hr _ _ h
  | blt n => cases h
theorem u64 {k : Nat} {A : Around} (h : Room k A) : A.units + 64 < cLine := by have := h.un; omega
theorem u65 {k : Nat} {A : Around} (h : Room k A) : A.units + 65 < cLine := by have := h.un; omega
theorem u66 {k : Nat} {A : Around} (h : Room k A) : A.units + 66 < cLine := by have := h.un; omega
theorem gl_of {X : Cx} {x : Str} (h : X.env.scope.names.lookup x = some .globalImplicit) : Gl X x := h
theorem ground {P : Program} {w : World} {K : Frag} {mg : Str → Option Value} {base : Heap} {k : Nat} {f : Addr} {fd : FuncData} {ps : List Str} {sp sp' : Sp} (G : FnOk P w K mg base (L2.CX P w) k f fd ps sp) (h : ∀ vs H Q E, sp' vs H Q E → sp vs H Q fun _ _ _ => False) : FnOk P w K mg base (fun _ _ _ _ _ _ => False) k f fd ps sp' where
  len := fun vs H Q E q => G.len vs H Q _ (h vs H Q E q)
  run := fun A outer s H args us vs Q E hr he hb hv q => codeAny_mono (G.run A outer s H args us vs Q _ hr he hb hv (h vs H Q E q)) fun r s' z => by
    cases r with
    | ok fl => cases fl <;> exact z
    | error e =>
      obtain ⟨_, _, _, _, _, _, _, _, _, _, _, _, c⟩ := z
      exact c.elim
def scrD (ns : List Int) : D := .dict [(.none, .list (ns.map .int))]
theorem rpAll_ints {K : Frag} {F : Hp} : ∀ ns : List Int, RpAll K F (ns.map V.int) (ns.map PyData.int)
  | [] => .nil
  | n :: ns => .cons (.int n) (rpAll_ints ns)
def spLaw (K : Frag) : Sp := fun vs H Q _ => ∃ (a : Addr) (ns : List Int), vs = [.ref a] ∧ ns.length ≤ 63 ∧ SqL K H a (ns.map V.int) ∧ ∀ H', Q (.bl true) H'
theorem law_in {K : Frag} {ca : Str → Addr} {f : Fn} (hf : ∀ ns : List Int, ns.length ≤ 63 → ∃ outs, f [.d (scrD ns)] = .ok (.d (.bool true)) outs) (vs : List V) (H : Hp) (Q : VK) (E : XK) (h : spLaw K vs H Q E) : spF K ca f vs H Q fun _ _ _ => False := by
  obtain ⟨a, ns, rfl, hl, hS, q⟩ := h
  refine ⟨H, [.d (scrD ns)], [], Same.refl _, .so (A := []) (.d (.scr hS (rpAll_ints ns))) .nil, .nil, fun p hp => by simp at hp, ?_⟩
  obtain ⟨outs, e⟩ := hf ns hl
  rw [e]
  intro F' H' v A B _ _ r _ _
  cases r with
  | d r => cases r; exact q H'
end DL
end
section
set_option maxRecDepth 100000
set_option maxHeartbeats 4000000
set_option exponentiation.threshold 3000
namespace DL
open PySem PySem.Spec PyProof.Rows L2
section
variable {α β : Type} {ρ : Env} {ξ : Exc}
@[simp] theorem bind_ok (a : α) (ρ : Env) (k : α → Env → Res β) : (Res.ok a ρ).bind k = k a ρ := rfl
@[simp] theorem bind_ex (ξ : Exc) (ρ : Env) (k : α → Env → Res β) : (Res.ex ξ ρ : Res α).bind k = .ex ξ ρ := rfl
@[simp] theorem bind_bad (k : α → Env → Res β) : (Res.bad : Res α).bind k = .bad := rfl
@[simp] theorem bindN_ok (a : α) (ρ : Env) (k : α → Env → Res β) : (Res.ok a ρ).bindN k = k a ρ := rfl
@[simp] theorem ofO_some (a : α) (ρ : Env) : ofO (some a) ρ = .ok a ρ := rfl
@[simp] theorem ofO_none (ρ : Env) : (ofO none ρ : Res α) = .bad := rfl
@[simp] theorem mVar_d (i : Nat) (ρ : Env) : mVar i ρ = match ρ[i]? with
  | some (some (.d x)) => .ok x ρ
  | _ => .bad := rfl
@[simp] theorem mC_d (x : D) (ρ : Env) : mC x ρ = .ok x ρ := rfl
@[simp] theorem mLook_d (i : Nat) (ρ : Env) : mLook i ρ = match ρ[i]? with
  | some (some o) => ofO o.look ρ
  | _ => .bad := rfl
@[simp] theorem look_d (x : D) : (OV.d x).look = some x := rfl
@[simp] theorem look_l (x : List D) : (OV.lst x).look = some (.list x) := rfl
@[simp] theorem frz_d (x : D) : (OV.d x).frz = some x := rfl
@[simp] theorem frz_l (x : List D) : (OV.lst x).frz = some (.list x) := rfl
@[simp] theorem mBin_d (g : D → D → Option D) (a b : M D) (ρ : Env) : mBin g a b ρ = (a ρ).bind fun x ρ1 => (b ρ1).bind fun y ρ2 => ofO (g x y) ρ2 := rfl
@[simp] theorem mB_d (m : M D) (ρ : Env) : mB m ρ = (m ρ).bind fun x ρ1 => match x with
  | .bool b => .ok b ρ1
  | _ => .bad := rfl
@[simp] theorem mChain_d (g g' : D → D → Option D) (a b d : M D) (ρ : Env) : mChain g g' a b d ρ = (a ρ).bind fun x ρ1 => (b ρ1).bind fun y ρ2 => match g x y with
  | some (.bool true) => (d ρ2).bind fun z ρ3 => ofO (g' y z) ρ3
  | some (.bool false) => .ok (.bool false) ρ2
  | _ => .bad := rfl
@[simp] theorem mAnd_d (a b : M Bool) (ρ : Env) : mAnd a b ρ = (a ρ).bind fun x ρ1 => if x = true then b ρ1 else .ok false ρ1 := rfl
@[simp] theorem mOr_d (a b : M Bool) (ρ : Env) : mOr a b ρ = (a ρ).bind fun x ρ1 => if x = true then .ok true ρ1 else b ρ1 := rfl
@[simp] theorem mNot_d (a : M Bool) (ρ : Env) : mNot a ρ = (a ρ).bind fun x ρ1 => .ok (!x) ρ1 := rfl
@[simp] theorem mAndV_d (a b : M D) (ρ : Env) : mAndV a b ρ = (a ρ).bind fun x ρ1 => match x with
  | .bool true => b ρ1
  | .bool false => .ok (.bool false) ρ1
  | _ => .bad := rfl
@[simp] theorem mOrV_d (a b : M D) (ρ : Env) : mOrV a b ρ = (a ρ).bind fun x ρ1 => match x with
  | .bool true => .ok (.bool true) ρ1
  | .bool false => b ρ1
  | _ => .bad := rfl
@[simp] theorem mNotV_d (a : M D) (ρ : Env) : mNotV a ρ = (a ρ).bind fun x ρ1 => match x with
  | .bool b => .ok (.bool (!b)) ρ1
  | _ => .bad := rfl
@[simp] theorem mIf_d (t : M Bool) (a b : M α) (ρ : Env) : mIf t a b ρ = (t ρ).bind fun x ρ1 => if x = true then a ρ1 else b ρ1 := rfl
@[simp] theorem mNil_d (ρ : Env) : mNil ρ = .ok [] ρ := rfl
@[simp] theorem mCons_d (a : M D) (r : M (List D)) (ρ : Env) : mCons a r ρ = (a ρ).bind fun x ρ1 => (r ρ1).bind fun xs ρ2 => .ok (x :: xs) ρ2 := rfl
@[simp] theorem mTup_d (m : M (List D)) (ρ : Env) : mTup m ρ = (m ρ).bind fun xs ρ1 => .ok (.tuple xs) ρ1 := rfl
@[simp] theorem mLst_d (m : M (List D)) (ρ : Env) : mLst m ρ = (m ρ).bind fun xs ρ1 => .ok (.lst xs) ρ1 := rfl
@[simp] theorem mLstF_d (m : M (List D)) (ρ : Env) : mLstF m ρ = (m ρ).bind fun xs ρ1 => .ok (.list xs) ρ1 := rfl
@[simp] theorem mFrz_d (m : M OV) (ρ : Env) : mFrz m ρ = (m ρ).bind fun o ρ1 => ofO o.frz ρ1 := rfl
@[simp] theorem mFrzV_d (i : Nat) (ρ : Env) : mFrzV i ρ = match ρ[i]? with
  | some (some o) => match o.frz with
    | some x => .ok x (ρ.set i (some (.d x)))
    | none => .bad
  | _ => .bad := rfl
@[simp] theorem mMove_d (i : Nat) (ρ : Env) : mMove i ρ = match ρ[i]? with
  | some (some o) => .ok o (ρ.set i none)
  | _ => .bad := rfl
@[simp] theorem mD_d (m : M D) (ρ : Env) : mD m ρ = (m ρ).bind fun x ρ1 => .ok (.d x) ρ1 := rfl
@[simp] theorem gNil_d (ρ : Env) : gNil ρ = .ok [] ρ := rfl
@[simp] theorem gD_d (a : M D) (r : M (List AV)) (ρ : Env) : gD a r ρ = (a ρ).bind fun x ρ1 => (r ρ1).bind fun xs ρ2 => .ok (.d x :: xs) ρ2 := rfl
@[simp] theorem gO_d (i : Nat) (r : M (List AV)) (ρ : Env) : gO i r ρ = match ρ[i]? with
  | some (some _) => (r ρ).bind fun xs ρ2 => .ok (.o i :: xs) ρ2
  | _ => .bad := rfl
@[simp] theorem mCall_d (f : Fn) (m : M (List AV)) (ρ : Env) : mCall f m ρ = (m ρ).bind fun avs ρ1 => callEnd f avs (gather ρ1 avs) := rfl
@[simp] theorem gather_nil (ρ : Env) : gather ρ [] = some ([], ρ) := rfl
@[simp] theorem gather_d (ρ : Env) (x : D) (r : List AV) : gather ρ (.d x :: r) = (gather ρ r).map fun z => (.d x :: z.1, z.2) := rfl
@[simp] theorem gather_o (ρ : Env) (i : Nat) (r : List AV) : gather ρ (.o i :: r) = match ρ[i]? with
  | some (some o) => (gather (ρ.set i none) r).map fun z => (o :: z.1, z.2)
  | _ => none := rfl
@[simp] theorem callEnd_some (f : Fn) (avs : List AV) (os : List OV) (ρ : Env) : callEnd f avs (some (os, ρ)) = callRf avs ρ (f os) := rfl
@[simp] theorem callRf_ok (avs : List AV) (ρ : Env) (r : OV) (outs : Env) : callRf avs ρ (.ok r outs) = .ok r (putBack ρ avs outs) := rfl
@[simp] theorem callRf_ex (avs : List AV) (ρ : Env) (ξ : Exc) : callRf avs ρ (.ex ξ) = .ex ξ ρ := rfl
@[simp] theorem putBack_nil (ρ outs : Env) : putBack ρ [] outs = ρ := by cases outs <;> rfl
@[simp] theorem putBack_d (ρ : Env) (x : D) (r : List AV) (o : Option OV) (s : Env) : putBack ρ (.d x :: r) (o :: s) = putBack ρ r s := rfl
@[simp] theorem putBack_o (ρ : Env) (i : Nat) (r : List AV) (o : Option OV) (s : Env) : putBack ρ (.o i :: r) (o :: s) = putBack (ρ.set i o) r s := rfl
@[simp] theorem sSeq_d (a b : M Fl) (ρ : Env) : sSeq a b ρ = (a ρ).bind fun f ρ1 => match f with
  | .nx => b ρ1
  | f => .ok f ρ1 := rfl
@[simp] theorem sNil_d (ρ : Env) : sNil ρ = .ok .nx ρ := rfl
@[simp] theorem sSet_d (i : Nat) (m : M D) (ρ : Env) : sSet i m ρ = (m ρ).bind fun x ρ1 => .ok .nx (ρ1.set i (some (.d x))) := rfl
@[simp] theorem sSetO_d (i : Nat) (m : M OV) (ρ : Env) : sSetO i m ρ = (m ρ).bind fun o ρ1 => .ok .nx (ρ1.set i (some o)) := rfl
@[simp] theorem sRet_d (m : M OV) (ρ : Env) : sRet m ρ = (m ρ).bind fun o ρ1 => .ok (.rt o) ρ1 := rfl
@[simp] theorem sDrop_d (m : M OV) (ρ : Env) : sDrop m ρ = (m ρ).bind fun _ ρ1 => .ok .nx ρ1 := rfl
@[simp] theorem mF1_d (g : D → Option D) (m : M D) (ρ : Env) : mF1 g m ρ = (m ρ).bind fun x ρ1 => ofO (g x) ρ1 := rfl
@[simp] theorem mFN_d (g : D → Option (List D)) (m : M D) (ρ : Env) : mFN g m ρ = (m ρ).bind fun x ρ1 => ofO (g x) ρ1 := rfl
@[simp] theorem bNo_d (ρ : Env) : bNo ρ = .ok none ρ := rfl
@[simp] theorem bTo_d (m : M D) (ρ : Env) : bTo m ρ = (m ρ).bind fun x ρ1 => match x with
  | .int i => .ok (some i) ρ1
  | _ => .bad := rfl
@[simp] theorem mSl_d (a : M D) (l u : M (Option Int)) (ρ : Env) : mSl a l u ρ = (a ρ).bind fun x ρ1 => (l ρ1).bind fun i ρ2 => (u ρ2).bind fun j ρ3 => ofO (slD x i j) ρ3 := rfl
@[simp] theorem mItems_d (m : M D) (ρ : Env) : mItems m ρ = (m ρ).bind fun x ρ1 => ofO (itemsD x) ρ1 := rfl
@[simp] theorem mRange1_d (a : M D) (ρ : Env) : mRange1 a ρ = (a ρ).bind fun x ρ1 => ofO (range1 x) ρ1 := rfl
@[simp] theorem mRange2_d (a b : M D) (ρ : Env) : mRange2 a b ρ = (a ρ).bind fun x ρ1 => (b ρ1).bind fun y ρ2 => ofO (range2 x y) ρ2 := rfl
@[simp] theorem mZip_d (a b : M D) (ρ : Env) : mZip a b ρ = (a ρ).bind fun x ρ1 => (b ρ1).bind fun y ρ2 => ofO (zipD x y) ρ2 := rfl
@[simp] theorem mEnum_d (a : M D) (ρ : Env) : mEnum a ρ = (a ρ).bind fun x ρ1 => ofO (enumO x) ρ1 := rfl
@[simp] theorem tName_d (i : Nat) (x : D) (ρ : Env) : tName i x ρ = some (ρ.set i (some (.d x))) := rfl
@[simp] theorem tsNil_d (ρ : Env) : tsNil [] ρ = some ρ := rfl
@[simp] theorem tsCons_d (t : D → Env → Option Env) (u : List D → Env → Option Env) (x : D) (r : List D) (ρ : Env) : tsCons t u (x :: r) ρ = (t x ρ).bind fun ρ1 => u r ρ1 := rfl
@[simp] theorem tTup_d (n : Nat) (u : List D → Env → Option Env) (xs : List D) (ρ : Env) : tTup n u (.tuple xs) ρ = if xs.length = n then u xs ρ else none := rfl
@[simp] theorem forGo_nil (tg : D → Env → Option Env) (b : M Fl) (ρ : Env) : forGo tg b [] ρ = .ok .nx ρ := rfl
theorem forGo_cons (tg : D → Env → Option Env) (b : M Fl) (x : D) (xs : List D) (ρ : Env) : forGo tg b (x :: xs) ρ = match tg x ρ with
    | none => .bad
    | some ρ1 => (b ρ1).bind fun f ρ2 => match f with
      | .nx => forGo tg b xs ρ2
      | .ct => forGo tg b xs ρ2
      | .bk => .ok .nx ρ2
      | .rt o => .ok (.rt o) ρ2 := rfl
@[simp] theorem sFor_d (it : M (List D)) (tg : D → Env → Option Env) (b : M Fl) (ρ : Env) : sFor it tg b ρ = (it ρ).bind fun xs ρ1 => forGo tg b xs ρ1 := rfl
@[simp] theorem mLc_d (vs : List Nat) (it : M (List D)) (t : D → Env → Option Env) (tst : M Bool) (e : M D) (ρ : Env) : mLc vs it t tst e ρ = (it ρ).bind fun xs ρ1 => if dataAt ρ1 vs = true then (lcGo vs t tst e xs (wipeE ρ1 vs)).bindN fun ys ρ2 => .ok ys (backE ρ1 vs ρ2) else .bad := rfl
@[simp] theorem mYes_d (ρ : Env) : mYes ρ = .ok true ρ := rfl
@[simp] theorem mLM_d (i : Nat) (g : List D → List D → Option (List D × D)) (ms : M (List D)) (ρ : Env) : mLM i g ms ρ = match ρ[i]? with
  | some (some (.lst _)) => (ms ρ).bind fun as ρ1 => match ρ1[i]? with
    | some (some (.lst xs)) => match g xs as with
      | some z => .ok z.2 (ρ1.set i (some (.lst z.1)))
      | none => .bad
    | _ => .bad
  | _ => .bad := rfl
@[simp] theorem mExtend_d (i : Nat) (m : M D) (ρ : Env) : mExtend i m ρ = match ρ[i]? with
  | some (some (.lst _)) => (m ρ).bind fun a ρ1 => match ρ1[i]? with
    | some (some (.lst xs)) => match extendD xs a with
      | some z => .ok .none (ρ1.set i (some (.lst z)))
      | none => .bad
    | _ => .bad
  | _ => .bad := rfl
@[simp] theorem sPut_d (i : Nat) (mi mv : M D) (ρ : Env) : sPut i mi mv ρ = (mv ρ).bind fun v ρ1 => match ρ1[i]? with
  | some (some (.lst _)) => (mi ρ1).bind fun k ρ2 => match ρ2[i]?, k with
    | some (some (.lst xs)), .int j => match ixN xs.length j with
      | some n => .ok .nx (ρ2.set i (some (.lst (xs.set n v))))
      | none => .bad
    | _, _ => .bad
  | _ => .bad := rfl
@[simp] theorem sPar_d (i j : Nat) (m : M (List D)) (ρ : Env) : sPar i j m ρ = (m ρ).bind fun xs ρ1 => match xs with
  | [x, y] => .ok .nx ((ρ1.set i (some (.d x))).set j (some (.d y)))
  | _ => .bad := rfl
@[simp] theorem sRaise_d (x : Str) (ρ : Env) : sRaise x ρ = .ex ⟨.own x, []⟩ ρ := rfl
@[simp] theorem mSetOf_d (m : M D) (ρ : Env) : mSetOf m ρ = (m ρ).bind fun x ρ1 => ofO (textsD x) ρ1 := rfl
@[simp] theorem mSortK_d (m : M (List Str)) (ρ : Env) : mSortK m ρ = (m ρ).bind fun l ρ1 => .ok ((sortS (onceS l)).map .str) ρ1 := rfl
@[simp] theorem mLenK_d (m : M (List Str)) (ρ : Env) : mLenK m ρ = (m ρ).bind fun l ρ1 => .ok (.int ((onceS l).length : Nat)) ρ1 := rfl
@[simp] theorem wipeE_nil (ρ : Env) : wipeE ρ [] = ρ := rfl
@[simp] theorem wipeE_cons (ρ : Env) (v : Nat) (vs : List Nat) : wipeE ρ (v :: vs) = (wipeE ρ vs).set v none := rfl
end
@[simp] theorem add_i (i j : Int) : addD (.int i) (.int j) = some (.int (i + j)) := rfl
@[simp] theorem sub_i (i j : Int) : subD (.int i) (.int j) = some (.int (i - j)) := rfl
theorem mul_i {i j : Int} (h : CMulW i j) : mulD (.int i) (.int j) = some (.int (i * j)) := if_pos h
theorem div_i {i j : Int} (h : CDivW i j) : divD (.int i) (.int j) = some (.int (i / j)) := if_pos h
theorem mod_i {i j : Int} (h : 0 < j) : modD (.int i) (.int j) = some (.int (i % j)) := if_pos h
theorem CDivW.of {i j : Int} (h : 0 < j) (h2 : j < 2 ^ 900) : CDivW i j := ⟨h, by
  have : j.natAbs < 2 ^ 900 := by omega
  have h0 : j.natAbs ≠ 0 := by omega
  have := (Nat.log2_lt h0).mpr this
  omega⟩
theorem log_lt {n k : Nat} (h : n < 2 ^ k) (hk : 0 < k) : n.log2 < k := by
  by_cases h0 : n = 0
  · subst h0; simpa using hk
  · exact (Nat.log2_lt h0).mpr h
theorem CMulW.of {i j : Int} (h : i.natAbs < 2 ^ 400) (h2 : j.natAbs < 2 ^ 400) : CMulW i j := by
  have a := log_lt h (by decide)
  have b := log_lt h2 (by decide)
  show i.natAbs.log2 + j.natAbs.log2 < 1000000
  omega
theorem eq_i (i j : Int) : eqD (.int i) (.int j) = some (.bool (decide (i = j))) := by
  have h : eqD (.int i) (.int j) = if SeqAt.shaped (.int i) = true ∧ SeqAt.shaped (.int j) = true then some (.bool (PyData.eqv (.int i) (.int j))) else none := rfl
  rw [h, if_pos ⟨rfl, rfl⟩]
  have e : (i == j) = decide (i = j) := by by_cases z : i = j <;> simp [z]
  simp [PyData.eqv, e]
theorem div_p {i j : Int} (h : 0 < j) (h2 : j < 2 ^ 64) : divD (.int i) (.int j) = some (.int (i / j)) := div_i (CDivW.of h (by
  have : (2 : Int) ^ 64 < 2 ^ 900 := by decide
  omega))
theorem mul_p {i j : Int} (h : -(2 ^ 64) < i ∧ i < 2 ^ 64) (h2 : -(2 ^ 64) < j ∧ j < 2 ^ 64) : mulD (.int i) (.int j) = some (.int (i * j)) := mul_i (CMulW.of (by
  have : (2 : Nat) ^ 64 < 2 ^ 400 := by decide
  omega) (by
  have : (2 : Nat) ^ 64 < 2 ^ 400 := by decide
  omega))
theorem mul_b {i j : Int} (h : i.natAbs < 2 ^ 900) (h2 : j.natAbs < 2 ^ 900) : mulD (.int i) (.int j) = some (.int (i * j)) := mul_i (by
  have a := log_lt h (by decide)
  have b := log_lt h2 (by decide)
  show i.natAbs.log2 + j.natAbs.log2 < 1000000
  omega)
theorem forGo_inv {t : D → Env → Option Env} {b : M Fl} : ∀ {xs : List D} {ρ : Env} (Pv : Nat → Env → Prop), Pv 0 ρ → (∀ i x ρ, xs[i]? = some x → Pv i ρ → ∃ ρ1 ρ2, t x ρ = some ρ1 ∧ b ρ1 = .ok .nx ρ2 ∧ Pv (i + 1) ρ2) → ∃ ρ', forGo t b xs ρ = .ok .nx ρ' ∧ Pv xs.length ρ'
  | [], ρ, Pv, h0, _ => ⟨ρ, rfl, h0⟩
  | x :: xs, ρ, Pv, h0, hs => by
    obtain ⟨ρ1, ρ2, h1, h2, h3⟩ := hs 0 x ρ rfl h0
    obtain ⟨ρ', h4, h5⟩ := forGo_inv (xs := xs) (ρ := ρ2) (fun i => Pv (i + 1)) h3 fun i y ρ hy hp => hs (i + 1) y ρ (by simpa using hy) hp
    refine ⟨ρ', ?_, h5⟩
    rw [forGo_cons, h1]
    simp only [h2, bind_ok]
    exact h4
theorem lcGo_pure {vs : List Nat} {t : D → Env → Option Env} {tst : M Bool} {e : M D} {p : D → Bool} {g : D → D} {ρ : Env} : ∀ {xs : List D}, (∀ x ∈ xs, ∃ ρ1 ρ2, t x ρ = some ρ1 ∧ tst ρ1 = .ok (p x) ρ2 ∧ (p x = false → wipeE ρ2 vs = ρ) ∧ (p x = true → ∃ ρ3, e ρ2 = .ok (g x) ρ3 ∧ wipeE ρ3 vs = ρ)) → lcGo vs t tst e xs ρ = .ok ((xs.filter p).map g) ρ
  | [], _ => rfl
  | x :: xs, h => by
    obtain ⟨ρ1, ρ2, h1, h2, h3, h4⟩ := h x List.mem_cons_self
    have ih := lcGo_pure (xs := xs) fun y hy => h y (List.mem_cons_of_mem _ hy)
    have hd : lcGo vs t tst e (x :: xs) ρ = match t x ρ with
      | none => .bad
      | some ρ1 => (tst ρ1).bindN fun b ρ2 => if b = true then (e ρ2).bindN fun y ρ3 => (lcGo vs t tst e xs (wipeE ρ3 vs)).bindN fun ys ρ4 => .ok (y :: ys) ρ4 else lcGo vs t tst e xs (wipeE ρ2 vs) := rfl
    rw [hd, h1]
    simp only [h2, bindN_ok]
    cases hp : p x with
    | false =>
      rw [if_neg Bool.false_ne_true, h3 hp, ih, List.filter_cons_of_neg (by simp [hp])]
    | true =>
      obtain ⟨ρ3, h5, h6⟩ := h4 hp
      rw [if_pos rfl, h5, List.filter_cons_of_pos hp]
      simp only [bindN_ok, h6, ih, List.map_cons]
theorem atI_nat {α : Type} {xs : List α} {i : Int} (h0 : 0 ≤ i) (h1 : i < xs.length) : ∃ x, atI xs i = some x ∧ xs[i.toNat]? = some x := by
  have hl : i.toNat < xs.length := by omega
  refine ⟨xs[i.toNat], ?_, by simp [hl]⟩
  unfold atI ixN
  rw [if_pos h0, if_pos h1]
  simp [hl]
end DL
end
section
set_option maxRecDepth 100000
set_option maxHeartbeats 4000000
namespace DL
open PySem PySem.Spec PyProof.Rows L2 PySem.W
structure PlainC (e : Expr) : Prop where
  d1 : ∀ (P : Program) (w : World) k it acc env, (model P w).den (.compLoop e k it acc env) = (compTurn e k it acc env).onRaise (fun x => noteFrame x env >>= fun _ => theTreesLotGoes x)
  d2 : ∀ (P : Program) (w : World) k it acc env, (model P w).den (.compStart e k it acc env) = (compStart e k it acc env).onRaise (fun x => noteFrame x env >>= fun _ => standAt theWindowsPlace)
  u1 : ∀ (A : Around) k it acc env, A.under (.compLoop e k it acc env) = A
  u2 : ∀ (A : Around) k it acc env, A.under (.compStart e k it acc env) = A
  q1 : ∀ k it acc env, (Code.compLoop e k it acc env).quiet = true
section
variable {prog : Program} {w : World} {A : Around} {R : Result → Shared → Prop} {s : Shared} {e tg iter : Expr} {k : Nat} {ifs : List Expr} {it acc : Value} {env : PySem.Env} {body : Sem Unit}
end
structure Cl where
  wi : TI
  g : TG
  tt : TT
  vs : List Nat
abbrev Below := Sl → Hp → (Hp → Prop) → Prop
section
variable {X : Cx} {s0 : Shared} {H0 : Hp} {scope : Scope} {ce : PySem.Env} {ex : List Addr}
def BodyOk (X : Cx) (vs : List Nat) (body : Sem Unit) (below : Below) : Prop :=
  ∀ pins s σ H Nx, L2.Inv X pins σ H s → below σ H Nx → wpAny (model X.prog X.w) X.A body (fun _ s' => ∃ H', L2.Inv X pins (L2.wipe σ vs) H' s' ∧ Nx H') (fun _ _ => False) s
end
end DL
end
section
set_option maxRecDepth 100000
set_option maxHeartbeats 4000000
namespace DL
open PySem PySem.Spec PyProof.Rows L2 PySem.W
def SKO (P : Program) (w : World) (a : Addr) (ks : List Str) : HO := .ext fun h => SK (strKind P w) h a ks
section
variable {X : Cx} {pins : List (Addr × Obj)} {σ : Sl} {H : Hp} {s : Shared} {D : Addr} {ks : List Str} {Q E : Value → Shared → Prop}
end
structure PSk (X : Cx) (e : Expr) (t : Sl → Hp → (Addr → List Str → Hp → Prop) → Prop) : Prop where
  run : ∀ (pins : List (Addr × Obj)) (s : Shared) (σ : Sl) (H : Hp) (Q : Addr → List Str → Hp → Prop), L2.Inv X pins σ H s → t σ H Q →
    wpAny (model X.prog X.w) X.A (eval e X.env) (fun v s' => ∃ a ks H', v = Value.ref a ∧ H' a = some (SKO X.prog X.w a ks) ∧ L2.Inv X pins σ H' s' ∧ Q a ks H') X.xe s
section
variable {X : Cx} {s0 : Shared} {H0 : Hp} {scope : Scope} {ce : PySem.Env} {ex : List Addr} {elt : Expr} {D : Addr} {t : TE}
end
section
variable {X : Cx} {elt tg iter : Expr} {ifs : List Expr} {rest : List Comprehension} {scope : Scope} {own : List (Str × Nat)} {pos : Pos} {wi : TI} {g : TG} {tt : TT} {vs' : List Nat}
end
end DL
end
section
set_option maxRecDepth 100000
set_option maxHeartbeats 4000000
namespace DL
open PySem PySem.Spec PyProof.Rows L2 PySem.W
structure FC where
  vs : List Nat
  t : D → Env → Option Env
  tst : M Bool
def cLoop (c : FC) (b : M (List D)) : List D → M (List D)
  | [] => fun ρ => .ok [] ρ
  | x :: xs => fun ρ => match c.t x ρ with
    | none => .bad
    | some ρ1 => (c.tst ρ1).bindN fun k ρ2 => if k = true then (b ρ2).bindN fun ys ρ3 => (cLoop c b xs (wipeE ρ3 c.vs)).bindN fun zs ρ4 => .ok (ys ++ zs) ρ4 else cLoop c b xs (wipeE ρ2 c.vs)
def cIn (c : FC) (it : M (List D)) (b : M (List D)) : M (List D) := fun ρ => (it ρ).bindN fun xs ρ1 => cLoop c b xs (wipeE ρ1 c.vs)
def cEnd (e : M D) : M (List D) := fun ρ => (e ρ).bindN fun y ρ1 => .ok [y] ρ1
def mLcN (c : FC) (it : M (List D)) (b : M (List D)) : M (List D) := fun ρ => (it ρ).bind fun xs ρ1 => if dataAt ρ1 c.vs = true then (cLoop c b xs (wipeE ρ1 c.vs)).bindN fun ys ρ2 => .ok ys (backE ρ1 c.vs ρ2) else .bad
section
variable {K : Frag} {c : Ct} {F H F' H' F0 H0 : Hp} {σ σ' σ0 : Sl} {ρ ρ' : Env} {O O' O0 : List Addr} {fb fb2 : List Nat} {D0 : Addr}
end
structure Gath (Hd : Hp → HO → List D → Prop) (F H : Hp) (D0 : Addr) (O : List Addr) (acc : List D) : Prop where
  at_ : ∃ o, H D0 = some o ∧ Hd F o acc
  nf : F D0 = none
  no : D0 ∉ O
section
variable {K : Frag} {c : Ct} {Hd : Hp → HO → List D → Prop} {F H F' H' F0 H0 : Hp} {D0 : Addr} {O O' O0 : List Addr} {σ σ' : Sl} {ρ' : Env} {acc : List D} {fb : List Nat}
theorem Gath.step (hm : ∀ F F' o acc, Same F F' → Hd F o acc → Hd F' o acc) (g : Gath Hd F H D0 O acc) (e : EnvR K (c.blk fb F H O σ) F' H' σ' ρ' O') : Gath Hd F' H' D0 O' acc := by
  obtain ⟨o, h1, h2⟩ := g.at_
  refine ⟨⟨o, e.h0 _ _ h1 g.no, hm _ _ _ _ e.f0 h2⟩, e.n0 D0 (fun z => by have z : H D0 = none := z; rw [h1] at z; cases z) g.no g.nf, fun k => ?_⟩
  rcases (e.ow D0 k).2 with z | z
  · exact g.no z
  · have z : H D0 = none := z
    rw [h1] at z; cases z
theorem Gath.new (hm : ∀ F F' o acc, Same F F' → Hd F o acc → Hd F' o acc) (g : Gath Hd F H D0 O acc) (n : New F H F' H') : Gath Hd F' H' D0 O acc := by
  obtain ⟨o, h1, h2⟩ := g.at_
  exact ⟨⟨o, n.hH _ _ h1, hm _ _ _ _ n.fF h2⟩, n.nw D0 (fun z => by rw [h1] at z; cases z) g.nf, g.no⟩
end
section
variable {K : Frag} {c : Ct} {Hd : Hp → HO → List D → Prop} {cap : Nat} {pt pu : Bool} {Hs : Hp} {D0 : Addr} {n : Nat} {fb fb2 vs2 : List Nat} {b : M (List D)} {cl : FC}
end
end DL
end
section
set_option maxRecDepth 100000
set_option maxHeartbeats 4000000
namespace DL
open PySem PySem.Spec PyProof.Rows L2 PySem.W
section
variable {X : Cx} {s0 : Shared} {H0 : Hp} {scope : Scope} {ce : PySem.Env} {ex : List Addr} {elt : Expr} {D : Addr} {t : TE}
end
section
variable {X : Cx} {elt tg iter : Expr} {ifs : List Expr} {rest : List Comprehension} {scope : Scope} {own : List (Str × Nat)} {pos : Pos} {wi : TI} {g : TG} {tt : TT} {vs' : List Nat}
end
section
variable {K : Frag} {c : Ct} {F1 H1 F2 H' : Hp} {σ : Sl} {ρ1 ρ2 : Env} {O1 O2 R : List Addr} {vs fb : List Nat} {D0 : Addr} {o : HO}
end
section
variable {X : Cx} {c : Ct} {pe pu : Bool} {me : M D} {fb : List Nat} {Hs : Hp} {D0 : Addr} {n : Nat}
def mTxt (m : M D) : M D := fun ρ => (m ρ).bindN fun x ρ1 => match x with
  | .str z => .ok (.str z) ρ1
  | _ => .bad
end
section
variable {X : Cx} {c : Ct} {pi pt pu : Bool} {mi : M (List D)} {cl : FC} {b : M (List D)} {fb fb2 vs2 : List Nat} {n : Nat}
def mSetC (m : M (List D)) : M (List Str) := fun ρ => (m ρ).bind fun ys ρ1 => if ys.length ≤ scanBound - 2 then ofO (allStr ys) ρ1 else .bad
end
end DL
end
section
set_option maxRecDepth 100000
set_option maxHeartbeats 4000000
namespace DL
open PySem PySem.Spec PyProof.Rows L2 PySem.W
theorem BodyOk.imp {X : Cx} {vs : List Nat} {body : Sem Unit} {b b' : Below} (h : BodyOk X vs body b) (k : ∀ σ H Nx, b' σ H Nx → b σ H Nx) : BodyOk X vs body b' := fun pins s σ H Nx I q => h pins s σ H Nx I (k σ H Nx q)
section
variable {X : Cx} {c : Ct} {tg iter tg1 iter1 tg2 iter2 elt : Expr} {pos : Pos} {pi pt pi1 pt1 pi2 pt2 pe : Bool} {mi mi1 mi2 : M (List D)} {t t1 t2 : D → Env → Option Env} {tst tst1 tst2 : M Bool} {me : M D} {scope : Scope} {own : List (Str × Nat)} {ifs ifs1 ifs2 : List Expr} {fb fb1 fb2 vs1 vs2 : List Nat}
abbrev HT (X : Cx) (c : Ct) (scope : Scope) (fb : List Nat) (ifs : List Expr) (pt : Bool) (tst : M Bool) : Prop := ∀ F H O σ (s : Shared) (Hb : Hp) (C : Addr) (cl : List (Str × Addr)) (fp : List Addr), PTs (X.blk s Hb scope (compEnvC scope cl C X.env) fp) ifs (tt X.K (c.blk fb F H O σ) pt tst)
def mLc2 (vs : List Nat) (it : M (List D)) (t : D → Env → Option Env) (tst : M Bool) (vs1 : List Nat) (it1 : M (List D)) (t1 : D → Env → Option Env) (tst1 : M Bool) (e : M D) : M (List D) :=
  fun ρ => (mLcN ⟨vs, t, tst⟩ it (cIn ⟨vs1, t1, tst1⟩ it1 (cEnd e)) ρ).bind fun ys ρ1 => if ys.length ≤ sizeLine then .ok ys ρ1 else .bad
end
end DL
end
section
set_option maxRecDepth 100000
set_option maxHeartbeats 4000000
namespace DL
open PySem PySem.Spec PyProof.Rows L2 PySem.W
def mPairE (k v : M D) : M D := fun ρ => (k ρ).bindN fun x ρ1 => (v ρ1).bindN fun y ρ2 => match keyOf x with
  | some _ => .ok (.tuple [x, y]) ρ2
  | none => .bad
def putP (kds : KD) (p : D) : KD := match p with
  | .tuple [x, y] => match keyOf x with
    | some j => putKD kds j y
    | none => kds
  | _ => kds
def kdsOf (acc : List D) : KD := acc.foldl putP []
section
variable {X : Cx} {c : Ct} {pk pv pu : Bool} {mk mv : M D} {fb : List Nat} {Hs : Hp} {D0 : Addr} {n : Nat}
end
def mDc (vs : List Nat) (it : M (List D)) (t : D → Env → Option Env) (tst : M Bool) (k v : M D) : M KD := fun ρ => (mLcN ⟨vs, t, tst⟩ it (cEnd (mPairE k v)) ρ).bind fun ys ρ1 => if ys.length ≤ sizeLine then .ok (kdsOf ys) ρ1 else .bad
def mDcO (m : M KD) : M OV := fun ρ => (m ρ).bind fun l ρ1 => .ok (.dct (l.map fun p => (kD p.1, p.2))) ρ1
def mDcF (m : M KD) : M D := fun ρ => (m ρ).bind fun l ρ1 => .ok (dK l) ρ1
section
variable {X : Cx} {c : Ct} {tg iter kx vx : Expr} {pos : Pos} {pi pt pk pv : Bool} {mi : M (List D)} {t : D → Env → Option Env} {tst : M Bool} {mk mv : M D} {scope : Scope} {own : List (Str × Nat)} {ifs : List Expr} {fb : List Nat}
end
def itemsP : D → Option (List D)
  | .dict kvs => match cells kvs with
    | some _ => none
    | none => some (kvs.map fun p => .tuple [p.1, p.2])
  | _ => none
def mItemsP (a : M D) : M (List D) := fun ρ => (a ρ).bind fun x ρ1 => ofO (itemsP x) ρ1
section
variable {X : Cx} {c : Ct} {e : Expr} {pu : Bool} {me : M D} {elts : List Expr} {kk : Nat} {tpos apos cpos : Pos}
end
end DL
end
section
set_option maxRecDepth 100000
set_option maxHeartbeats 4000000
namespace DL
open PySem PySem.Spec PyProof.Rows L2 PySem.W
def range3 (x y z : D) : Option (List D) := match x, y, z with
  | .int i, .int j, .int k => if 0 < k ∧ k < 2 ^ 20 ∧ -(2 ^ 20) < i ∧ i < 2 ^ 20 ∧ -(2 ^ 20) < j ∧ j < 2 ^ 20 then some ((List.range ((j - i + k - 1) / k).toNat).map fun m => .int (i + (m : Nat) * k)) else none
  | _, _, _ => none
def mRange3 (a b c : M D) : M (List D) := fun ρ => (a ρ).bind fun x ρ1 => (b ρ1).bind fun y ρ2 => (c ρ2).bind fun z ρ3 => ofO (range3 x y z) ρ3
def enumA : D → Option (List D)
  | .list xs => some (enumD xs)
  | .tuple xs => some (enumD xs)
  | _ => none
def mEnumA (a : M D) : M (List D) := fun ρ => (a ρ).bind fun x ρ1 => ofO (enumA x) ρ1
def mSetOr (a b : M (List Str)) : M (List Str) := fun ρ => (a ρ).bind fun l ρ1 => (b ρ1).bind fun m ρ2 => if l.length + m.length ≤ 30 then .ok (l ++ m) ρ2 else .bad
section
variable {α β : Type}
@[simp] theorem mRange3_d (a b c : M D) (ρ : Env) : mRange3 a b c ρ = (a ρ).bind fun x ρ1 => (b ρ1).bind fun y ρ2 => (c ρ2).bind fun z ρ3 => ofO (range3 x y z) ρ3 := rfl
@[simp] theorem mEnumA_d (a : M D) (ρ : Env) : mEnumA a ρ = (a ρ).bind fun x ρ1 => ofO (enumA x) ρ1 := rfl
@[simp] theorem mSetOr_d (a b : M (List Str)) (ρ : Env) : mSetOr a b ρ = (a ρ).bind fun l ρ1 => (b ρ1).bind fun m ρ2 => if l.length + m.length ≤ 30 then .ok (l ++ m) ρ2 else .bad := rfl
@[simp] theorem mItemsP_d (a : M D) (ρ : Env) : mItemsP a ρ = (a ρ).bind fun x ρ1 => ofO (itemsP x) ρ1 := rfl
@[simp] theorem mDcF_d (m : M KD) (ρ : Env) : mDcF m ρ = (m ρ).bind fun l ρ1 => .ok (dK l) ρ1 := rfl
@[simp] theorem mDcO_d (m : M KD) (ρ : Env) : mDcO m ρ = (m ρ).bind fun l ρ1 => .ok (.dct (l.map fun p => (kD p.1, p.2))) ρ1 := rfl
@[simp] theorem mSetC_d (m : M (List D)) (ρ : Env) : mSetC m ρ = (m ρ).bind fun ys ρ1 => if ys.length ≤ scanBound - 2 then ofO (allStr ys) ρ1 else .bad := rfl
@[simp] theorem bindN_some (a : α) (ρ : Env) (k : α → Env → Res β) : (Res.ok a ρ).bindN k = k a ρ := rfl
theorem cLoop_pure {c : FC} {b : M (List D)} {p : D → Bool} {g : D → List D} {ρ : Env} : ∀ {xs : List D}, (∀ x ∈ xs, ∃ ρ1 ρ2, c.t x ρ = some ρ1 ∧ c.tst ρ1 = .ok (p x) ρ2 ∧ (p x = false → wipeE ρ2 c.vs = ρ) ∧ (p x = true → ∃ ρ3, b ρ2 = .ok (g x) ρ3 ∧ wipeE ρ3 c.vs = ρ)) → cLoop c b xs ρ = .ok ((xs.filter p).flatMap g) ρ
  | [], _ => rfl
  | x :: xs, h => by
    obtain ⟨ρ1, ρ2, h1, h2, h3, h4⟩ := h x List.mem_cons_self
    have ih := cLoop_pure (xs := xs) fun y hy => h y (List.mem_cons_of_mem _ hy)
    have hd : cLoop c b (x :: xs) ρ = match c.t x ρ with
      | none => .bad
      | some ρ1 => (c.tst ρ1).bindN fun k ρ2 => if k = true then (b ρ2).bindN fun ys ρ3 => (cLoop c b xs (wipeE ρ3 c.vs)).bindN fun zs ρ4 => .ok (ys ++ zs) ρ4 else cLoop c b xs (wipeE ρ2 c.vs) := rfl
    rw [hd, h1]
    simp only [h2, bindN_ok]
    cases hp : p x with
    | false => rw [if_neg Bool.false_ne_true, h3 hp, ih, List.filter_cons_of_neg (by simp [hp])]
    | true =>
      obtain ⟨ρ3, h5, h6⟩ := h4 hp
      rw [if_pos rfl, h5, List.filter_cons_of_pos hp]
      simp only [bindN_ok, h6, ih, List.flatMap_cons]
theorem mDc_of {vs : List Nat} {it : M (List D)} {t : D → Env → Option Env} {tst : M Bool} {k v : M D} {ρ ρ1 : Env} {xs ys : List D} (h1 : it ρ = .ok xs ρ1) (hd : dataAt ρ1 vs = true) (h2 : cLoop ⟨vs, t, tst⟩ (cEnd (mPairE k v)) xs (wipeE ρ1 vs) = .ok ys (wipeE ρ1 vs)) (hl : ys.length ≤ sizeLine) :
    mDc vs it t tst k v ρ = .ok (kdsOf ys) (backE ρ1 vs (wipeE ρ1 vs)) := by
  unfold mDc mLcN
  simp only [h1, bind_ok, hd, if_true, h2, bindN_ok, hl]
theorem mLcN_of {c : FC} {it : M (List D)} {b : M (List D)} {ρ ρ1 : Env} {xs ys : List D} (h1 : it ρ = .ok xs ρ1) (hd : dataAt ρ1 c.vs = true) (h2 : cLoop c b xs (wipeE ρ1 c.vs) = .ok ys (wipeE ρ1 c.vs)) : mLcN c it b ρ = .ok ys (backE ρ1 c.vs (wipeE ρ1 c.vs)) := by
  unfold mLcN
  simp only [h1, bind_ok, hd, if_true, h2, bindN_ok]
end
end DL
end
section
set_option maxRecDepth 100000
set_option maxHeartbeats 4000000
namespace DL
open PySem PySem.Spec PyProof.Rows L2 PySem.W
open PySem.AutoSeq1 (wpAny_loadPart')
theorem enum_newT (l : Addr) (its : Array Value) (n : Nat) (dct : Option Addr) (sl : Array (Option Value)) : Meets (Builtin.«enumerate.__new__» ⟨[.type "enumerate", .ref l], []⟩) (fun _ R s => s.heap.get? l = some { cls := .type "tuple", dict := dct, data := .seq its n, slots := sl } ∧
      R (.ok (.ret (.ref (s.heap.push { cls := .type "tuple_iterator", data := .fields #[.ref l, .int 0 0] }).objs.size)))
        { s with heap := (s.heap.push { cls := .type "tuple_iterator", data := .fields #[.ref l, .int 0 0] }).push { cls := .type "enumerate", data := .fields #[.none, .bool false, .ref s.heap.objs.size, rawInt 0, .none, .none] } }) :=
  .of_wp fun prog w A R s h => by
    obtain ⟨hp, g, d, tk, os⟩ := s
    obtain ⟨hl, h⟩ := h
    have hsub := PySem.sub_enumerate
    have hL : Heap.IsTuple (Shared.heap ⟨hp, g, d, tk, os⟩) l its := ⟨_, hl, rfl, n, rfl⟩
    wp_walk using wpAny_loadPart' hl
    refine wpAny_stack_any fun st => wpAny_pure ?_
    split
    · rename_i c _ _ _ _ _
      cases (c == Value.type "enumerate") <;> (wp_walk using wpAny_loadPart' hl, wpAny_pyIter_tuple hL; exact ⟨_, rfl, h⟩)
    · wp_walk using wpAny_loadPart' hl, wpAny_pyIter_tuple hL
      exact ⟨_, rfl, h⟩
section
variable {prog : Program} {w : World} {A : Around} {E : Value → Shared → Prop} {s : Shared}
theorem call_enumT {l : Addr} {its : Array Value} {Q : Value → Shared → Prop} (hL : s.heap.IsTuple l its)
    (h : ∀ h', IsEnum h' (s.heap.objs.size + 1) s.heap.objs.size 0 .none → h'.IsTupleIter s.heap.objs.size l 0 → (∀ b o, s.heap.get? b = some o → h'.get? b = some o) → Q (.ref (s.heap.objs.size + 1)) { s with heap := h' }) :
    wpAny (model prog w) A (call (.type "enumerate") [.ref l]) Q E s := by
  obtain ⟨⟨c, dct, dt, sl⟩, hl, hc, n, hd⟩ := hL
  simp only at hc hd
  subst hc hd
  refine callType_new F.called_enumerate (by decide) (F.typeCall_enumerate_1 _) (F.newCall_enumerate_1 _) (fun obj => F.args_object_init_2 obj _) F.entry_enumerate_new (enum_newT l its n dct sl) ⟨hl, ?_⟩
  generalize hz1 : s.heap.push { cls := .type "tuple_iterator", data := .fields #[.ref l, .int 0 0] } = h1
  have hz : h1.objs.size = s.heap.objs.size + 1 := by rw [← hz1]; exact Heap.size_push ..
  have hi : h1.get? s.heap.objs.size = some { cls := .type "tuple_iterator", data := .fields #[.ref l, .int 0 0] } := by rw [← hz1]; exact Heap.get?_push_size _ rfl
  have hk : ∀ b o, s.heap.get? b = some o → h1.get? b = some o := fun b o z => by rw [← hz1]; exact Heap.get?_push_of_some _ z
  show _ ∧ _
  rw [hz]
  have he := Heap.get?_push_size h1 (o := { cls := .type "enumerate", data := .fields #[.none, .bool false, .ref s.heap.objs.size, rawInt 0, .none, .none] }) rfl
  rw [hz] at he
  exact ⟨⟨_, he, rfl⟩, h _ he ⟨_, Heap.get?_push_of_some _ hi, rfl, rfl⟩ fun b o z => Heap.get?_push_of_some _ (hk b o z)⟩
end
def ItEt (K : Frag) (a : Addr) (k : Nat) : It :=
  ⟨fun i H => ∃ (xs : List V) (x : V), SqT K H a xs ∧ xs.length = k ∧ xs[i]? = some x, fun i H v H' => ∃ T x, v = .ref T ∧ H T = none ∧ H' = upd H T (.tup [.int (i : Nat), x]) ∧ ∀ xs, SqT K H a xs → xs[i]? = some x, fun i H => ∃ xs : List V, SqT K H a xs ∧ xs.length = k ∧ k ≤ i⟩
theorem turn_enumT {P : Program} {w : World} {K : Frag} {elts : List Expr} {kk : Nat} {tpos : Pos} (a e it : Addr) (k : Nat) :
    Turn P w K (.Tuple elts kk tpos) (ItEt K a k) [e, it] e (fun i h => (∃ old, IsEnum h e it ((i : Nat) : Int) old) ∧ h.IsTupleIter it a i ∧ e ≠ it ∧ a ≠ it ∧ a ≠ e ∧ i ≤ k) where
  mem := by simp
  obj := fun i h st b hb => by
    obtain ⟨⟨old, he⟩, ⟨o, ho, hc, hd⟩, _⟩ := st
    rcases List.mem_cons.mp hb with z | z
    · rw [z]; exact ⟨_, he, fun v q => nomatch q⟩
    · rw [List.mem_singleton.mp z]; exact ⟨o, ho, fun v q => by rw [hd] at q; cases q⟩
  keep := fun i h h' st k => let ⟨⟨old, he⟩, hi, hne⟩ := st; ⟨⟨old, k e (by simp) _ he⟩, hi.at fun o q => k it (by simp) o q, hne⟩
  item := by
    intro X hP hw hK hc i pins s σ H E I hf st hg
    subst hP hw hK
    obtain ⟨⟨old, he⟩, hit, hne, hai, hae, hik⟩ := st
    obtain ⟨xs, x, hq, hxl, hx⟩ := hg
    obtain ⟨us, rv, p, hz⟩ := I.tuple hq
    obtain ⟨u, hu, ru⟩ := rv.get hx
    have hel : e < s.heap.objs.size := Heap.lt_size he
    have hil : it < s.heap.objs.size := by obtain ⟨_, q, _⟩ := hit; exact Heap.lt_size q
    have hu' : us.toArray[i]? = some u := by simpa using hu
    have hlt : i < us.toArray.size := (Array.getElem?_eq_some_iff.mp hu').1
    refine wpAny_pyNext_enum_itemD (Draws.tuple (prog := X.prog) (w := X.w) (A := X.A.in1) (I.ok.hd hc) it a hai us.toArray) he ⟨hit, p⟩ hlt hne (by simp [hne, Ne.symm hae]) fun y h' tk hy ho hit' hT hsz hk => ?_
    have ey : y = u := Option.some.inj (hy.symm.trans hu')
    subst ey
    refine ⟨_, rfl, wpAny_letOwnedTupleGo_enum (s := { s with heap := h', toks := tk + 1 }) ho fun h'' he' sb => ?_⟩
    have hT2 := (sb.2 s.heap.objs.size (Nat.ne_of_gt hel)).trans hT
    have new : ObjOk X.prog X.w (upd H s.heap.objs.size (.tup [.int (i : Nat), x])) h'' s.heap.objs.size (.tup [.int (i : Nat), x]) :=
      ⟨by show 2 ≤ sizeLine; decide, [.int i tk, y], .cons ⟨_, rfl⟩ (.cons ru .nil), ⟨_, hT2, rfl, _, rfl⟩⟩
    have I1 : L2.Inv X pins σ (upd H s.heap.objs.size (.tup [.int (i : Nat), x])) { s with heap := h'', toks := tk + 1 } :=
      I.turnedNew (ch := [e, it]) (t' := tk + 1) (fun b ob hb q => (sb.2 b (fun z => hb (by simp [z]))).trans (hk b ob (fun z => hb (by simp [z])) (fun z => hb (by simp [z])) q)) hf (Nat.le_refl _) new
    refine ⟨.ref s.heap.objs.size, _, I1, rfl, ⟨_, x, rfl, I.hok.fresh (Nat.le_refl _), rfl, fun ys hy => by rw [I.tuple_inj hy hq]; exact hx⟩, ⟨⟨y, ?_⟩, hit'.1.at fun o q => (sb.2 it (Ne.symm hne)).trans q, hne, hai, hae, by have := (List.getElem?_eq_some_iff.mp hx).1; omega⟩, fun b hb => ?_⟩
    · have e1 : ((i + 1 : Nat) : Int) = (i : Int) + 1 := by omega
      rw [e1]; exact he'
    · have hb' : b < s.heap.objs.size := by
        rcases List.mem_cons.mp hb with z | z
        · rw [z]; exact hel
        · rw [List.mem_singleton.mp z]; exact hil
      rw [upd_ne (Nat.ne_of_lt hb')]
      exact (hf b hb).1
  done := by
    intro X hP hw hK hc i pins s σ H E I hf st hg
    subst hP hw hK
    obtain ⟨⟨old, he⟩, hit, hne, hai, hae, hik⟩ := st
    obtain ⟨xs, hq, hxl, hx⟩ := hg
    obtain ⟨us, rv, p, hz⟩ := I.tuple hq
    obtain ⟨f0, f1, f2, f3, f4, f5⟩ := hf it (by simp)
    have hl := rv.length
    have ei : i = us.toArray.size := by simp; omega
    subst ei
    exact wpAny_pyNext_enum_endD (Draws.tuple (prog := X.prog) (w := X.w) (A := X.A.in1) (I.ok.hd hc) it a hai us.toArray) he ⟨hit, p⟩ fun h' eb => ⟨rfl, I.turned (t' := s.toks) (fun b o hb q => eb b o hb q) f0 f1 f3 f4 f5⟩
  self := fun A i s Q E st h => let ⟨⟨_, he⟩, _⟩ := st; wpAny_pyIter_enum he h
def iEnumT (K : Frag) (ta : TA) : TI := fun σ H R => ta σ H fun vs H1 => ∃ a xs, vs = [.ref a] ∧ SqT K H1 a xs ∧ R (ItEt K a xs.length) H1
theorem pi_enumT {X : Cx} {e : Expr} {ta : TA} {p pos tpos : Pos} {elts : List Expr} {kk : Nat} (hg : Gl X "enumerate") (hm : X.mg "enumerate" = none) (ha : PA X [e] ta) (hs : starEach [e] X.env = [(false, eval e X.env)] := by rfl) :
    PI X (.Tuple elts kk tpos) (.Call (.Name "enumerate" p) [e] [] pos) (iEnumT X.K ta) := by
  refine ⟨fun pins s σ H R I h => ?_⟩
  refine Call_ (ld_blt I hg hm boot_enumerate (PyProof.Rows.callWith_type1 (thn (ha.run pos pins s σ H _ I h) fun us s1 ⟨vs, H1, I1, r1, q1⟩ => ?_) hs rfl))
  obtain ⟨a, xs, ex, hq, q⟩ := q1
  subst ex
  cases r1 with
  | cons r rr =>
    cases rr
    cases r
    obtain ⟨its, rv, p', hz⟩ := I1.tuple hq
    have hal : a < s1.heap.objs.size := by obtain ⟨o, ho, _⟩ := p'; exact Heap.lt_size ho
    refine call_enumT p' fun h' he hit hk => wpAny_pyIter_enum he ?_
    have I2 : L2.Inv X pins σ H1 { s1 with heap := h' } := I1.kept (t' := s1.toks) hk
    refine ⟨s1.heap.objs.size + 1, [s1.heap.objs.size + 1, s1.heap.objs.size], _, _, H1, rfl, I2, turn_enumT a (s1.heap.objs.size + 1) s1.heap.objs.size xs.length, ⟨⟨.none, he⟩, hit, Nat.succ_ne_self _, Nat.ne_of_lt hal, Nat.ne_of_lt (Nat.lt_succ_of_lt hal), Nat.zero_le _⟩, fun b hb => ?_, q⟩
    have hle : s1.heap.objs.size ≤ b := by
      rcases List.mem_cons.mp hb with z | z
      · rw [z]; exact Nat.le_add_right _ _
      · rw [List.mem_singleton.mp z]; exact Nat.le_refl _
    exact I1.fpOk hle (I1.hok.fresh hle)
theorem itD_enumT {K : Frag} {F : Hp} {a : Addr} {vs : List V} {ds : List D} (hz : ds.length ≤ sizeLine) (h : SqT K F a vs) (r : RpAll K F vs ds) : ItD K F (ItEt K a vs.length) (enumD ds) where
  few := by unfold enumD; rw [List.length_map, List.length_zipIdx]; exact hz
  go := fun F2 H2 s1 s2 i hi => by
    unfold enumD at hi
    rw [List.length_map, List.length_zipIdx] at hi
    obtain ⟨v, h1, _⟩ := getR r hi
    exact ⟨vs, v, sq_t (s1.trans s2) h, rfl, h1⟩
  yl := fun F2 H2 s1 s2 i x H3 hi y => by
    obtain ⟨T, v, rfl, hT, rfl, y1⟩ := y
    unfold enumD at hi ⊢
    rw [List.length_map, List.length_zipIdx] at hi
    obtain ⟨v', h1, r1⟩ := getR r hi
    have e1 := y1 vs (sq_t (s1.trans s2) h)
    rw [h1] at e1; cases e1
    have n := New.one s2 hT (.tup [.int (i : Nat), v])
    refine ⟨_, _, n, ?_, .tup (.of upd_same) (.cons (.int _) (.cons (r1.mono (s1.trans n.fF)) .nil))⟩
    simp [hi]
  st := fun F2 H2 s1 s2 i hi => by
    unfold enumD at hi
    rw [List.length_map, List.length_zipIdx] at hi
    exact ⟨vs, sq_t (s1.trans s2) h, rfl, by rw [r.length]; exact hi⟩
theorem pi_or {X : Cx} {tg e : Expr} {w1 w2 : TI} (h1 : PI X tg e w1) (h2 : PI X tg e w2) : PI X tg e (fun σ H R => w1 σ H R ∨ w2 σ H R) := ⟨fun pins s σ H R I h => h.elim (h1.run pins s σ H R I) (h2.run pins s σ H R I)⟩
section
variable {X : Cx} {c : Ct} {e : Expr} {pu : Bool} {me : M D} {elts : List Expr} {kk : Nat} {tpos pos p : Pos}
theorem si_enumA (hm : X.mg "enumerate" = none) (ha : PE X e (te X.K c false pu me)) (hg : Gl X "enumerate" := by rfl) (hs : starEach [e] X.env = [(false, eval e X.env)] := by rfl) : PI X (.Tuple elts kk tpos) (.Call (.Name "enumerate" p) [e] [] pos) (ti X.K c pu (mEnumA me)) :=
  PI.imp (pi_or (pi_enum hg hm (pa_cons (pe_fits ha) pa_nil (by rw [hs]; rfl)) hs) (pi_enumT hg hm (pa_cons (pe_fits ha) pa_nil (by rw [hs]; rfl)) hs)) fun σ H R ⟨F, ρ, O, ev, h⟩ => by
    have hb := Res.post_bind h
    cases r : me ρ with
    | bad => rw [r] at hb; exact hb.elim
    | ex ξ ρ1 =>
      refine .inl ⟨F, ρ, O, ev, ?_⟩
      rw [r] at hb ⊢
      exact hb
    | ok x ρ1 =>
      rw [r] at hb
      obtain ⟨xs, hx, h3⟩ := post_ofO hb
      cases x with
      | list ds =>
        cases hx
        refine .inl ⟨F, ρ, O, ev, ?_⟩
        rw [r]
        intro F1 H1 O1 v e1 s1 q1 r1 fits
        cases r1 with
        | lst a1 b1 => exact ⟨_, _, rfl, sq_l e1.sub (.of a1), h3 F1 H1 O1 _ e1 s1 q1 (itD_enum (by rw [← b1.length]; exact (fits _ rfl).1 _ (.inl (sq_l e1.sub (.of a1)))) (.of a1) b1)⟩
      | tuple ds =>
        cases hx
        refine .inr ⟨F, ρ, O, ev, ?_⟩
        rw [r]
        intro F1 H1 O1 v e1 s1 q1 r1 fits
        cases r1 with
        | tup a1 b1 => exact ⟨_, _, rfl, sq_t e1.sub a1, h3 F1 H1 O1 _ e1 s1 q1 (itD_enumT (by rw [← b1.length]; exact (fits _ rfl).1 _ (.inr (sq_t e1.sub a1))) a1 b1)⟩
      | _ => cases hx
end
end DL
end
section
set_option maxRecDepth 100000
set_option maxHeartbeats 4000000
namespace DL
open PySem PySem.Spec PyProof.Rows L2 PySem.W
end DL
end
section
set_option maxRecDepth 100000
set_option maxHeartbeats 4000000
namespace DL
open PySem PySem.Spec PyProof.Rows L2 PySem.W
def minusF (F : Hp) (p : Addr) : Hp := fun b => if b = p then none else F b
theorem minus_ne {F : Hp} {p b : Addr} (h : b ≠ p) : minusF F p b = F b := if_neg h
mutual
def flatB : PyData → Bool
  | .none => true
  | .bool _ => true
  | .int _ => true
  | .str _ => true
  | .tuple xs => flatL xs
  | _ => false
def flatL : List PyData → Bool
  | [] => true
  | x :: xs => flatB x && flatL xs
end
section
variable {K : Frag} {F : Hp} {p : Addr} {ws : List V}
mutual
theorem rp_minus (hp : F p = some (.lst ws)) : ∀ {v : V} {x : D}, Rp K F v x → flatB x = true → Rp K (minusF F p) v x
  | _, _, .non, _ => .non
  | _, _, .bl b, _ => .bl b
  | _, _, .int i, _ => .int i
  | _, _, .str x, _ => .str x
  | _, _, .lst h r, e => by rw [flatB] at e; cases e; all_goals (intros; contradiction)
  | _, _, .scr h r, e => by rw [flatB] at e; cases e; all_goals (intros; contradiction)
  | _, _, .tup h r, e => by
    rw [flatB] at e
    refine .tup ?_ (rpAll_minus hp r e)
    rcases h with (h | ⟨o, h⟩) | h
    · refine .inl (.inl ?_)
      rw [minus_ne fun z => ?_]
      · exact h
      · rw [z, hp] at h; cases h
    · refine .inl (.inr ⟨o, ?_⟩)
      rw [minus_ne fun z => ?_]
      · exact h
      · rw [z, hp] at h; cases h
    · exact .inr h
  | _, _, .dcK h r, e => by rw [flatB] at e; cases e; all_goals (intros; contradiction)
theorem rpAll_minus (hp : F p = some (.lst ws)) : ∀ {vs : List V} {xs : List D}, RpAll K F vs xs → flatL xs = true → RpAll K (minusF F p) vs xs
  | _, _, .nil, _ => .nil
  | _, _, .cons h r, e => by
    rw [flatL, Bool.and_eq_true] at e
    exact .cons (rp_minus hp h e.1) (rpAll_minus hp r e.2)
end
end
def okSlot (k : Bool) : Option OV → Option OV → Prop
  | _, none => True
  | a, some (.d x) => flatB x = true ∨ (k = true ∧ a = some (.d x))
  | _, some (.lst ys) => flatL ys = true
  | _, _ => False
def okSlots (i : Nat) (fb : List Nat) : Nat → Env → Env → Prop
  | n, a :: ρ, b :: ρ' => (n = i ∨ okSlot (fb.contains n) a b) ∧ okSlots i fb (n + 1) ρ ρ'
  | _, [], [] => True
  | _, _, _ => False
open Classical in
noncomputable def sTmp (i : Nat) (fb : List Nat) (b : M Fl) : M Fl := fun ρ => match ρ[i]? with
  | some (some (.lst xs)) => match b (ρ.set i (some (.d (.list xs)))) with
    | .ok .nx ρ' => if ρ'[i]? = some (some (.d (.list xs))) ∧ okSlots i fb 0 (ρ.set i (some (.d (.list xs)))) ρ' then .ok .nx (ρ'.set i (some (.lst xs))) else .bad
    | _ => .bad
  | _ => .bad
section
variable {K : Frag} {ca : Str → Addr} {F F2 H : Hp}
end
section
variable {X : Cx} {c : Ct} {st : Stmt} {b : M Fl}
end
end DL
end
section
set_option maxRecDepth 100000
set_option maxHeartbeats 4000000
namespace DL
open PySem PySem.Spec PyProof.Rows L2 PySem.W
def Mk (m : Nat) : Prop := m = 7 ∨ m = 15 ∨ m = 31 ∨ m = 63 ∨ m = 127
def itS (m : Nat) : Nat → Nat → Nat
  | 0, i => i
  | b + 1, i => itS m b ((i * 5 + 1) % (m + 1))
theorem itS_add (m : Nat) : ∀ (a b i : Nat), itS m (a + b) i = itS m b (itS m a i)
  | 0, b, i => by rw [Nat.zero_add]; rfl
  | a + 1, b, i => by rw [show a + 1 + b = (a + b) + 1 from by omega]; exact itS_add m a b _
def orbS (m : Nat) : Nat → Nat → List Nat
  | 0, i => [i]
  | n + 1, i => i :: orbS m n ((i * 5 + 1) % (m + 1))
theorem orb_mem (m : Nat) : ∀ (n i x : Nat), x ∈ orbS m n i → ∃ b, b ≤ n ∧ itS m b i = x
  | 0, i, x, h => by
    rw [orbS, List.mem_singleton] at h
    exact ⟨0, Nat.le_refl _, h.symm⟩
  | n + 1, i, x, h => by
    rw [orbS] at h
    rcases List.mem_cons.mp h with h | h
    · exact ⟨0, Nat.zero_le _, h.symm⟩
    · obtain ⟨b, hb, e⟩ := orb_mem m n _ x h
      exact ⟨b + 1, by omega, e⟩
def orbAll (m : Nat) : Bool := (List.range (m + 1)).all fun j => (orbS m m 0).contains j
theorem itS_all {m : Nat} (hm : Mk m) {j : Nat} (hj : j ≤ m) : ∃ b, b ≤ m ∧ itS m b 0 = j := by
  have h : orbAll m = true := by
    rcases hm with rfl | rfl | rfl | rfl | rfl <;> decide +kernel
  have := List.all_eq_true.mp h j (List.mem_range.mpr (by omega))
  exact orb_mem m m 0 j (List.contains_iff_mem.mp this)
theorem itS_round {m : Nat} (hm : Mk m) : itS m (m + 1) 0 = 0 := by
  rcases hm with rfl | rfl | rfl | rfl | rfl <;> decide +kernel
theorem itS_from {m : Nat} (hm : Mk m) {i j : Nat} (hi : i ≤ m) (hj : j ≤ m) : ∃ b, b < m + 1 ∧ itS m b i = j := by
  obtain ⟨a, ha, ea⟩ := itS_all hm hi
  obtain ⟨c, hc, ec⟩ := itS_all hm hj
  by_cases h : a ≤ c
  · refine ⟨c - a, by omega, ?_⟩
    rw [← ea, ← itS_add, show a + (c - a) = c from by omega, ec]
  · refine ⟨c + (m + 1) - a, by omega, ?_⟩
    rw [← ea, ← itS_add, show a + (c + (m + 1) - a) = (m + 1) + c from by omega, itS_add, itS_round hm, ec]
section
variable {m : Nat} {owner : Array (Option Nat)}
theorem pick_yes {i k : Nat} {y : Option Nat} {n : Nat} (h : (List.range n).find? (fun k => (oAt owner (i + k)).isNone) = some k) : pickR (some k) i y = some (i + k) ∧ oAt owner (i + k) = none := by
  have := List.find?_some h
  refine ⟨rfl, ?_⟩
  cases e : oAt owner (i + k) with
  | none => rfl
  | some _ => rw [e] at this; cases this
theorem free_zero : ∀ (f i : Nat), (∃ b, b < f ∧ oAt owner (itS m b i) = none) → ∃ j, SetTable.layClean.free m owner f i 0 = some j ∧ oAt owner j = none
  | 0, _, ⟨b, hb, _⟩ => absurd hb (Nat.not_lt_zero _)
  | f + 1, i, ⟨b, hb, e⟩ => by
    rw [free_succ]
    cases q : (List.range (SetTable.runEnd m i + 1 - i)).find? (fun k => (oAt owner (i + k)).isNone) with
    | some k => exact ⟨i + k, (pick_yes (y := none) q).1, (pick_yes (y := none) q).2⟩
    | none =>
      have n0 : oAt owner i ≠ none := fun z => by
        have ge : i ≤ SetTable.runEnd m i := by unfold SetTable.runEnd; split <;> omega
        have := List.find?_eq_none.mp q 0 (List.mem_range.mpr (by omega))
        rw [Nat.add_zero, z] at this
        exact this rfl
      cases b with
      | zero => exact absurd e n0
      | succ b =>
        have l1 : (SetTable.leap m i 0).1 = (i * 5 + 1) % (m + 1) := by
          unfold SetTable.leap
          simp
        have l2 : (SetTable.leap m i 0).2 = 0 := rfl
        rw [l1, l2]
        exact free_zero f _ ⟨b, by omega, e⟩
theorem free_any (hm : Mk m) {j : Nat} (hj : j ≤ m) (hf : oAt owner j = none) : ∀ (c i p : Nat), p < 32 ^ c → i ≤ m → ∃ j, SetTable.layClean.free m owner (m + 1 + c) i p = some j ∧ oAt owner j = none
  | 0, i, p, hp, hi => by
    have : p = 0 := by simpa using hp
    subst this
    obtain ⟨b, hb, e⟩ := itS_from hm hi hj
    exact free_zero (m + 1) i ⟨b, hb, by rw [e]; exact hf⟩
  | c + 1, i, p, hp, hi => by
    rw [show m + 1 + (c + 1) = (m + 1 + c) + 1 from rfl, free_succ]
    cases q : (List.range (SetTable.runEnd m i + 1 - i)).find? (fun k => (oAt owner (i + k)).isNone) with
    | some k => exact ⟨i + k, (pick_yes (y := none) q).1, (pick_yes (y := none) q).2⟩
    | none =>
      refine free_any hm hj hf c (SetTable.leap m i p).1 (SetTable.leap m i p).2 ?_ (leap_le m i p)
      show p / 32 < 32 ^ c
      rw [Nat.pow_succ] at hp
      exact (Nat.div_lt_iff_lt_mul (by omega)).mpr hp
theorem free_ok (hm : Mk m) {j : Nat} (hj : j ≤ m) (hf : oAt owner j = none) (h : Int) : ∃ j, SetTable.layClean.free m owner (SetTable.turns m) (SetTable.bits h % (m + 1)) (SetTable.bits h) = some j ∧ oAt owner j = none := by
  have := free_any hm hj hf 14 (SetTable.bits h % (m + 1)) (SetTable.bits h) (by
    have : SetTable.bits h < 2 ^ 64 := by
      unfold SetTable.bits
      omega
    omega) (Nat.le_of_lt_succ (Nat.mod_lt _ (Nat.succ_pos _)))
  exact this
structure Ow (m n : Nat) (owner : Array (Option Nat)) : Prop where
  sz : owner.size = m + 1
  all : ∀ k, k < n → ∃ j, j ≤ m ∧ oAt owner j = some k
  ps : ∃ ps : List Nat, ps.length = n ∧ ∀ j, j ≤ m → oAt owner j ≠ none → j ∈ ps
theorem Ow.init (m : Nat) : Ow m 0 (Array.replicate (m + 1) none) := ⟨by simp, fun k hk => absurd hk (Nat.not_lt_zero _), [], rfl, fun j hj e => absurd (oAt_init hj) e⟩
theorem Ow.step (hm : Mk m) {n : Nat} (W : Ow m n owner) (hl : n ≤ m) (h : Int) : ∃ j, SetTable.layClean.free m owner (SetTable.turns m) (SetTable.bits h % (m + 1)) (SetTable.bits h) = some j ∧ Ow m (n + 1) (owner.setIfInBounds j (some n)) := by
  obtain ⟨ps, hps, hin⟩ := W.ps
  obtain ⟨j0, h0, hn0⟩ := st_missing ps (m + 1) (by omega)
  have hj0 : oAt owner j0 = none := by
    cases z : oAt owner j0 with
    | none => rfl
    | some k => exact absurd (hin j0 (Nat.le_of_lt_succ h0) (by rw [z]; exact fun e => nomatch e)) hn0
  obtain ⟨j, e1, e2⟩ := free_ok hm (Nat.le_of_lt_succ h0) hj0 h
  have hjs : j < owner.size := by
    by_cases z : j < owner.size
    · exact z
    · have : oAt owner j = some 0 := by
        show owner.getD j (some 0) = some 0
        rw [Array.getD_eq_getD_getElem?, Array.getElem?_eq_none (by omega)]; rfl
      rw [this] at e2; cases e2
  have hself := oAt_set_self (some n) hjs
  have hjm : j ≤ m := by rw [W.sz] at hjs; omega
  refine ⟨j, e1, by rw [Array.size_setIfInBounds]; exact W.sz, fun k hk => ?_, j :: ps, by rw [List.length_cons, hps], fun i hi e => ?_⟩
  · by_cases c : k < n
    · obtain ⟨i, hi, e⟩ := W.all k c
      refine ⟨i, hi, ?_⟩
      rw [oAt_set_ne _ (fun z => by rw [z, e2] at e; cases e)]
      exact e
    · have : k = n := by omega
      subst this
      exact ⟨j, hjm, hself⟩
  · by_cases c : i = j
    · rw [c]; exact List.mem_cons_self
    · rw [oAt_set_ne _ c] at e
      exact List.mem_cons_of_mem _ (hin i hi e)
end
end DL
end
section
set_option maxRecDepth 100000
set_option maxHeartbeats 4000000
namespace DL
open PySem PySem.Spec PyProof.Rows L2 PySem.W
section
variable {κ : Type} [DecidableEq κ] {P : Program} {w : World} {knd : KeyKind P w κ} {A : Around} {E : Value → Shared → Prop} {s : Shared} {a b : Addr} {ks ksA ksB : List κ} {es esA esB : Array (Int × Value)} {ep epA epB : Nat} {t tA tB : SetTable}
structure SetK (knd : KeyKind P w κ) (h : Heap) (a : Addr) (ks : List κ) (es : Array (Int × Value)) (ep : Nat) (t : SetTable) : Prop where
  ob : ∃ o, h.get? a = some o ∧ o.ExactSet ∧ o.data = .set es ep t
  rw : Rows knd es t ks
theorem SetK.of {h : Heap} (S : SK knd h a ks) : ∃ es ep t, SetK knd h a ks es ep t := by
  obtain ⟨o, es, ep, t, h1, h2, h3, r⟩ := S
  exact ⟨es, ep, t, ⟨o, h1, h2, h3⟩, r⟩
theorem SetK.keep {h h' : Heap} (S : SetK knd h a ks es ep t) (k : ∀ o, h.get? a = some o → h'.get? a = some o) : SetK knd h' a ks es ep t := by
  obtain ⟨⟨o, h1, h2⟩, r⟩ := S
  exact ⟨⟨o, k o h1, h2⟩, r⟩
theorem SetK.size {h : Heap} (S : SetK knd h a ks es ep t) : es.size = ks.length := by
  rw [← Array.length_toList, each_len S.rw.ent]
end
end DL
end
section
set_option maxRecDepth 100000
set_option maxHeartbeats 4000000
namespace DL
open PySem PySem.Spec PyProof.Rows L2 PySem.W
section
variable {κ : Type} [DecidableEq κ] {P : Program} {w : World} {knd : KeyKind P w κ} {A : Around} {E : Value → Shared → Prop} {s : Shared} {a b : Addr} {ks ksA ksB : List κ} {es esA esB : Array (Int × Value)} {ep epA epB : Nat} {t tA tB : SetTable}
end
end DL
end
section
set_option maxRecDepth 100000
set_option maxHeartbeats 4000000
namespace DL
open PySem PySem.Spec PyProof.Rows L2 PySem.W
section
variable {κ : Type} [DecidableEq κ] {P : Program} {w : World} {knd : KeyKind P w κ} {A : Around} {E : Value → Shared → Prop} {s : Shared} {a b : Addr} {ks ksA ksB : List κ} {es esA esB : Array (Int × Value)} {ep epA epB : Nat} {t tA tB : SetTable}
end
end DL
end
section
set_option maxRecDepth 100000
set_option maxHeartbeats 4000000
namespace DL
open PySem PySem.Spec PyProof.Rows L2 PySem.W
section
variable {X : Cx} {c : Ct} {e1 e2 : Expr} {pos : Pos} {p1 p2 : Bool} {m1 m2 : M (List Str)}
end
end DL
end
section
set_option maxRecDepth 100000
set_option maxHeartbeats 4000000
namespace DL
open PySem PySem.Spec PyProof.Rows L2 PySem.W
section
variable {X : Cx} {c : Ct} {a b : Expr} {p2 pos : Pos} {ka kb pa pb : Bool} {ma mb : M D} {tg e1 e2 e3 : Expr} {q1 q2 q3 : Bool} {m1 m2 m3 : M D}
theorem rpAll_rev {K : Frag} {F : Hp} {vs : List V} {xs : List D} (h : RpAll K F vs xs) : RpAll K F vs.reverse xs.reverse := by
  induction vs generalizing xs with
  | nil => cases h; exact .nil
  | cons v vs ih =>
    cases h with
    | cons h r =>
      rw [List.reverse_cons, List.reverse_cons]
      have app : ∀ {us ws : List V} {ys zs : List D}, RpAll K F us ys → RpAll K F ws zs → RpAll K F (us ++ ws) (ys ++ zs) := fun {us ws ys zs} p q => by
        induction us generalizing ys with
        | nil => cases p; exact q
        | cons u us ih => cases p with | cons p1 p2 => exact .cons p1 (ih p2)
      exact app (ih r) (.cons h .nil)
end
end DL
end
section
set_option maxRecDepth 100000
set_option maxHeartbeats 4000000
namespace DL
open PySem PySem.Spec PyProof.Rows L2 PySem.W
def PGx (K : Frag) (c : Ct) (F H : Hp) (σ : Sl) (Q : List V → Hp → Prop) (z : List AV × OV) (ρ' : Env) : Prop :=
  ∀ F' H' O' A vs v, EnvR K c F' H' σ ρ' O' → Same F F' → AvAll K F' σ vs z.1 → OwR K c.ca F' H' v z.2 A → Apart c F' A O' → Q (vs ++ [v]) H'
def tgt (K : Frag) (c : Ct) (m : M (List AV × OV)) : TA := fun σ H Q => ∃ F ρ O, EnvR K c F H σ ρ O ∧ (m ρ).post (PGx K c F H σ Q) (PX K c σ)
def gT (mo : M OV) : M (List AV × OV) := fun ρ => (mo ρ).bind fun o ρ1 => .ok ([], o) ρ1
def gDt (a : M D) (r : M (List AV × OV)) : M (List AV × OV) := fun ρ => (a ρ).bind fun x ρ1 => (r ρ1).bind fun z ρ2 => .ok (.d x :: z.1, z.2) ρ2
def gOt (i : Nat) (r : M (List AV × OV)) : M (List AV × OV) := fun ρ => match ρ[i]? with
  | some (some _) => (r ρ).bind fun z ρ2 => .ok (.o i :: z.1, z.2) ρ2
  | _ => .bad
def callEndT (f : Fn) (z : List AV × OV) (y : Option (List OV × Env)) : Res OV := match y with
  | none => .bad
  | some y => callRf z.1 y.2 (f (y.1 ++ [z.2]))
def mCallT (f : Fn) (m : M (List AV × OV)) : M OV := fun ρ => (m ρ).bind fun z ρ1 => callEndT f z (gather ρ1 z.1)
@[simp] theorem gT_d (mo : M OV) (ρ : Env) : gT mo ρ = (mo ρ).bind fun o ρ1 => .ok ([], o) ρ1 := rfl
@[simp] theorem gDt_d (a : M D) (r : M (List AV × OV)) (ρ : Env) : gDt a r ρ = (a ρ).bind fun x ρ1 => (r ρ1).bind fun z ρ2 => .ok (.d x :: z.1, z.2) ρ2 := rfl
@[simp] theorem gOt_d (i : Nat) (r : M (List AV × OV)) (ρ : Env) : gOt i r ρ = match ρ[i]? with
  | some (some _) => (r ρ).bind fun z ρ2 => .ok (.o i :: z.1, z.2) ρ2
  | _ => .bad := rfl
@[simp] theorem mCallT_d (f : Fn) (m : M (List AV × OV)) (ρ : Env) : mCallT f m ρ = (m ρ).bind fun z ρ1 => callEndT f z (gather ρ1 z.1) := rfl
@[simp] theorem callEndT_d (f : Fn) (z : List AV × OV) (y : List OV × Env) : callEndT f z (some y) = callRf z.1 y.2 (f (y.1 ++ [z.2])) := rfl
section
variable {X : Cx} {c : Ct} {e : Expr} {es : List Expr} {pos p : Pos} {p1 p2 pu : Bool} {me : M D} {ms : M (List AV × OV)} {mo : M OV} {k : Nat} {f : Addr} {fd : FuncData} {ps : List Str} {fn : Fn} {x : Str}
theorem tgt_step {K : Frag} {α : Type} {F H : Hp} {σ : Sl} {ρ : Env} {O : List Addr} {m : M (List AV × OV)} {k : List AV × OV → Env → Res α} {P : α → Env → Prop} {Q : List V → Hp → Prop} (e : EnvR K c F H σ ρ O) (h : ((m ρ).bind k).post P (PX K c σ))
    (q : ∀ z ρ1 F1 H1 O1 A vs v, (k z ρ1).post P (PX K c σ) → EnvR K c F1 H1 σ ρ1 O1 → Same F F1 → AvAll K F1 σ vs z.1 → OwR K c.ca F1 H1 v z.2 A → Apart c F1 A O1 → Q (vs ++ [v]) H1) : tgt K c m σ H Q :=
  ⟨F, ρ, O, e, Res.post_imp (Res.post_bind h) (fun z ρ1 h1 F1 H1 O1 A vs v e1 s1 r1 o1 a1 => q z ρ1 F1 H1 O1 A vs v h1 e1 s1 r1 o1 a1) fun _ _ h => h⟩
theorem sgt_t (ho : PE X e (to X.K c mo)) (hs : starEach [e] X.env = (false, eval e X.env) :: starEach [] X.env := by rfl) : PA X [e] (tgt X.K c (gT mo)) :=
  (pa_cons ho pa_nil hs).imp fun σ H Q ⟨F, ρ, O, e, h⟩ => to_step e h fun o ρ1 F1 H1 O1 A v h1 e1 s1 r1 a1 => h1 F1 H1 O1 A [] v e1 s1 .nil r1 a1
theorem sgt_d (ha : PE X e (te X.K c false p1 me)) (hr : PA X es (tgt X.K c ms)) (hs : starEach (e :: es) X.env = (false, eval e X.env) :: starEach es X.env := by rfl) : PA X (e :: es) (tgt X.K c (gDt me ms)) :=
  (pa_cons ha hr hs).imp fun σ H Q ⟨F, ρ, O, e, h⟩ => te_step e h fun x ρ1 F1 H1 O1 v h1 e1 s1 q1 v1 => tgt_step e1 h1 fun z ρ2 F2 H2 O2 A vs w h2 e2 s2 v2 o2 a2 => h2 F2 H2 O2 A (v :: vs) w e2 (s1.trans s2) (.d (Rp.mono s2 v1) v2) o2 a2
theorem sgt_o (i : Nat) {x : Str} {np : Pos} (hr : PA X es (tgt X.K c ms)) (hN : X.N[i]? = some x := by rfl) (hv : Vis X.env.scope x := by first | exact Or.inl rfl | exact Or.inr (Or.inl rfl) | exact Or.inr (Or.inr rfl)) (hd : (x == ("__debug__" : Str)) = false := by decide)
    (hcd : (x == ("__classdict__" : Str)) = false := by decide) (hs : starEach (Expr.Name x np :: es) X.env = (false, eval (Expr.Name x np) X.env) :: starEach es X.env := by rfl) : PA X (.Name x np :: es) (tgt X.K c (gOt i ms)) :=
  (pa_cons (pe_var hN hv hd hcd) hr hs).imp fun σ H Q ⟨F, ρ, O, e, h⟩ => by
    unfold gOt at h
    cases q : ρ[i]? with
    | none => rw [q] at h; exact h.elim
    | some w =>
      rw [q] at h
      cases w with
      | none => exact h.elim
      | some o =>
        obtain ⟨v, A, h1, h2⟩ := e.var q
        exact ⟨v, h1, tgt_step e h fun z ρ2 F2 H2 O2 A2 vs u h2 e2 s2 v2 o2 a2 => h2 F2 H2 O2 A2 (v :: vs) u e2 s2 (.o h1 v2) o2 a2⟩
theorem slR_snoc {K : Frag} {ca : Str → Addr} {F H : Hp} {v : V} {o : OV} {B : List Addr} (r : OwR K ca F H v o B) : ∀ {σ : Sl} {ρ : Env} {A : List Addr}, SlR K ca F H σ ρ A → SlR K ca F H (σ ++ [some v]) (ρ ++ [some o]) (A ++ B)
  | _, _, _, .nil => by
    have := SlR.so r (SlR.nil (K := K) (ca := ca) (F := F) (H := H))
    simpa using this
  | _, _, _, .no s => .no (slR_snoc r s)
  | _, _, _, .so h s => by
    rw [List.cons_append, List.cons_append, List.append_assoc]
    exact .so h (slR_snoc r s)
theorem slR_init {K : Frag} {ca : Str → Addr} {F H : Hp} {v : Option V} {σ : Sl} : ∀ {outs : Env} {B : List Addr}, SlR K ca F H (σ ++ [v]) outs B → ∃ o1 z B1 B2, outs = o1 ++ [z] ∧ B = B1 ++ B2 ∧ SlR K ca F H σ o1 B1 := by
  induction σ with
  | nil =>
    intro outs B h
    have h : SlR K ca F H [v] outs B := h
    cases h with
    | no s => cases s; exact ⟨[], none, [], [], rfl, rfl, .nil⟩
    | so r s => cases s; exact ⟨[], some _, [], _, rfl, rfl, .nil⟩
  | cons w σ ih =>
    intro outs B h
    have h : SlR K ca F H (w :: (σ ++ [v])) outs B := h
    cases h with
    | no s =>
      obtain ⟨o1, z, B1, B2, rfl, rfl, r⟩ := ih s
      exact ⟨none :: o1, z, B1, B2, rfl, rfl, .no r⟩
    | so q s =>
      obtain ⟨o1, z, B1, B2, rfl, rfl, r⟩ := ih s
      exact ⟨some _ :: o1, z, _ ++ B1, B2, rfl, by rw [List.append_assoc], .so q r⟩
theorem putBack_more : ∀ (as : List AV) (ρ o1 : Env) (z : Option OV), o1.length = as.length → putBack ρ as (o1 ++ [z]) = putBack ρ as o1
  | [], ρ, [], z, _ => rfl
  | .d _ :: as, ρ, y :: o1, z, h => putBack_more as ρ o1 z (by simpa using h)
  | .o i :: as, ρ, y :: o1, z, h => putBack_more as (ρ.set i y) o1 z (by simpa using h)
theorem AvAll.len {K : Frag} {F : Hp} {σ : Sl} : ∀ {vs : List V} {as : List AV}, AvAll K F σ vs as → vs.length = as.length
  | _, _, .nil => rfl
  | _, _, .d _ h => by rw [List.length_cons, List.length_cons, h.len]
  | _, _, .o _ h => by rw [List.length_cons, List.length_cons, h.len]
theorem call_inT {K : Frag} {f : Fn} {F H : Hp} {σ : Sl} {ρ : Env} {O A0 : List Addr} {as : List AV} {o0 : OV} {vs : List V} {v0 : V} {Q : VK} {P : OV → Env → Prop} (e : EnvR K c F H σ ρ O) (r : AvAll K F σ vs as) (r0 : OwR K c.ca F H v0 o0 A0) (a0 : Apart c F A0 O)
    (h : (callEndT f (as, o0) (gather ρ as)).post P (PX K c σ)) (hP : ∀ o ρ' F' H' O' A v, P o ρ' → EnvR K c F' H' σ ρ' O' → Same F F' → OwR K c.ca F' H' v o A → Apart c F' A O' → Q v H') : spF K c.ca f (vs ++ [v0]) H Q (WE c.W σ) := by
  cases g : gather ρ as with
  | none => rw [g] at h; exact h.elim
  | some z =>
    obtain ⟨os, ρ2⟩ := z
    rw [g] at h
    have h : (callRf as ρ2 (f (os ++ [o0]))).post P (PX K c σ) := h
    obtain ⟨A1, R, k1, k2, k3, k4⟩ := gather_ok g r e
    obtain ⟨m1, m2, m3⟩ := List.nodup_append.mp a0.nd
    obtain ⟨j1, j2, j3⟩ := List.nodup_append.mp k3.nd
    -- all that is lent
    have ka : SlR K c.ca F H ((vs ++ [v0]).map some) ((os ++ [o0]).map some) (A1 ++ A0) := by
      rw [List.map_append, List.map_append]
      exact slR_snoc r0 k1
    have ndA : (A1 ++ A0).Nodup := List.nodup_append.mpr ⟨j1, m1, fun x hx y hy z => m3 y hy x (k4 x (by simp [hx])) z.symm⟩
    have owA : ∀ p ∈ A1 ++ A0, F p = none ∧ (p ∈ c.O ∨ c.H p = none) := fun p hp => (List.mem_append.mp hp).elim (k3.ow p) (a0.ow p)
    have RA : ∀ p ∈ R, p ∉ A1 ++ A0 := fun p hp hq => by
      rcases List.mem_append.mp hq with z | z
      · exact j3 p z p hp rfl
      · exact m3 p z p (k4 p (by simp [hp])) rfl
    generalize A1 ++ A0 = A at ka ndA owA RA
    refine ⟨F, os ++ [o0], A, e.sub, ka, ndA, fun p hp => (owA p hp).1, ?_⟩
    have back : ∀ {F' H' : Hp}, FnEnd F H A F' H' → EnvR K c F' H' σ ρ2 R ∧ ∀ p ∈ R, H p ≠ none ∧ p ∉ A := fun {F' H'} n => by
      have hR : ∀ p ∈ R, H p ≠ none ∧ p ∉ A := fun p hp => ⟨k2.sl.there p hp, RA p hp⟩
      refine ⟨⟨n.sub, k2.f0.trans n.fF, fun b o h1 h2 => ?_, fun b h1 h2 h3 => ?_, k2.sl.mono n.fF fun b hb => ?_, k2.nd, fun p hp => ⟨n.nw p (hR p hp).1 (hR p hp).2 (k2.ow p hp).1, (k2.ow p hp).2⟩, k2.fx⟩, hR⟩
      · refine n.hH b o (k2.h0 b o h1 h2) fun hb => ?_
        rcases (owA b hb).2 with z | z
        · exact h2 z
        · rw [h1] at z; cases z
      · refine n.nw b ?_ (fun hb => ?_) (k2.n0 b h1 h2 h3)
        · cases q : c.H b with
          | none => exact absurd q h1
          | some o => rw [k2.h0 b o q h2]; simp
        · rcases (owA b hb).2 with z | z
          · exact h2 z
          · exact h1 z
      · obtain ⟨z1, z2⟩ := hR b hb
        cases q : H b with
        | none => exact absurd q z1
        | some o => exact n.hH b o q z2
    cases fo : f (os ++ [o0]) with
    | bad => rw [fo] at h; exact h.elim
    | ex ξ =>
      rw [fo] at h
      exact fun F' H' cls d n x => h F' H' R cls d (back n).1 x
    | ok r0 outs =>
      rw [fo] at h
      intro F' H' v A' B n sB ow ndB hB
      obtain ⟨e', hR⟩ := back n
      rw [List.map_append] at sB
      obtain ⟨o1, z, B1, B2, rfl, rfl, sB1⟩ := slR_init sB
      have lo : o1.length = as.length := by rw [← sB1.length, List.length_map, r.len]
      have h : P r0 (putBack ρ2 as (o1 ++ [z])) := h
      rw [putBack_more as ρ2 o1 z lo] at h
      rw [← List.append_assoc] at ndB
      have ndB := (List.nodup_append.mp ndB).1
      have hB : ∀ p ∈ A' ++ B1, F' p = none ∧ (p ∈ A ∨ H p = none) := fun p hp => hB p (by
        rw [← List.append_assoc]; exact List.mem_append_left _ hp)
      have cr : ∀ p ∈ A' ++ B1, p ∈ c.O ∨ c.H p = none := fun p hp => by
        by_cases hc : p ∈ c.O
        · exact .inl hc
        · refine .inr ?_
          rcases (hB p hp).2 with z | z
          · rcases (owA p z).2 with z | z
            · exact absurd z hc
            · exact z
          · cases q : c.H p with
            | none => rfl
            | some o => rw [e.h0 p o q hc] at z; cases z
      have dis : ∀ p ∈ A' ++ B1, p ∉ R := fun p hp hr => by
        rcases (hB p hp).2 with z | z
        · exact (hR p hr).2 z
        · exact (hR p hr).1 z
      obtain ⟨nA, nB, nAB⟩ := List.nodup_append.mp ndB
      obtain ⟨O', q1, q2, q3⟩ := putBack_ok sB1 (r.mono n.fF) e'.sl (List.nodup_append.mpr ⟨nB, e'.nd, fun x hx y hy z => dis x (by simp [hx]) (z ▸ hy)⟩)
      refine hP r0 _ F' H' O' A' v h ⟨e'.sub, e'.f0, e'.h0, e'.n0, q1, q2, fun p hp => ?_, e'.fx⟩ n.fF ow ⟨List.nodup_append.mpr ⟨nA, q2, fun x hx y hy z => ?_⟩, fun p hp => ⟨(hB p (by simp [hp])).1, cr p (by simp [hp])⟩⟩
      · rcases List.mem_append.mp (q3 p hp) with z | z
        · exact ⟨(hB p (by simp [z])).1, cr p (by simp [z])⟩
        · exact e'.ow p z
      · subst z
        rcases List.mem_append.mp (q3 x hy) with z | z
        · exact nAB x hx x z rfl
        · exact dis x (by simp [hx]) z
theorem call_stepT {K : Frag} {f : Fn} {σ : Sl} {H : Hp} {Q : VK} (h : to K c (mCallT f ms) σ H Q) : tgt K c ms σ H fun vs H1 => spF K c.ca f vs H1 Q (WE c.W σ) := by
  obtain ⟨F, ρ, O, e, h⟩ := h
  refine tgt_step e h fun z ρ1 F1 H1 O1 A vs v h1 e1 s1 r1 o1 a1 => ?_
  exact call_inT e1 r1 o1 a1 h1 fun o ρ' F' H' O' A v hp e' s' ow ap => hp F' H' O' A v e' (s1.trans s') ow ap
theorem so_callT (G : FnOk X.prog X.w X.K X.mg X.base (L2.CX X.prog X.w) k f fd ps (spF X.K c.ca fn)) (hr : Room k X.A) (hm : X.mg x = some (.ref f)) (hk : PySem.W.keepIn X.K (.ref f) = true) (hb : Binds X.K fd ps []) (tk : Takes X c.W)
    (ha : PA X (e :: es) (tgt X.K c ms)) (hg : Gl X x := by rfl) (hdb : (x == ("__debug__" : Str)) = false := by decide) (he : starEach (e :: es) X.env = (false, eval e X.env) :: starEach es X.env := by rfl) (hpl : (backTo pos (starEach es X.env)).any (·.1) = false := by rfl) :
    PE X (.Call (.Name x p) (e :: es) [] pos) (to X.K c (mCallT fn ms)) := (pe_callS G hr hg hm hk hb (fun σ => passAt tk σ) ha hdb he hpl).imp fun σ H Q h => call_stepT h
end
end DL
end
section
set_option maxRecDepth 100000
set_option maxHeartbeats 4000000
namespace DL
open PySem PySem.Spec PyProof.Rows L2 PySem.W
section
variable {X : Cx} {c : Ct} {e d : Expr} {p pos kp : Pos} {ka pa pd : Bool} {ma md : M D}
end
end DL
end
section
set_option maxRecDepth 100000
set_option maxHeartbeats 4000000
namespace DL
open PySem PySem.Spec PyProof.Rows L2 PySem.W
def mulL : D → D → Option (List D)
  | .list xs, .int k => if -(2 ^ 63) ≤ k ∧ k < 2 ^ 63 ∧ xs.length * k.toNat ≤ sizeLine then some (List.replicate k.toNat xs).flatten else none
  | _, _ => none
def mBinN (g : D → D → Option (List D)) (a b : M D) : M (List D) := fun ρ => (a ρ).bind fun x ρ1 => (b ρ1).bind fun y ρ2 => ofO (g x y) ρ2
@[simp] theorem mBinN_d (g : D → D → Option (List D)) (a b : M D) (ρ : Env) : mBinN g a b ρ = (a ρ).bind fun x ρ1 => (b ρ1).bind fun y ρ2 => ofO (g x y) ρ2 := rfl
section
variable {X : Cx} {c : Ct} {a b : Expr} {pos : Pos} {ka kb pa pb : Bool} {ma mb : M D}
theorem n_mul (ha : PE X a (te X.K c ka pa ma)) (hb : PE X b (te X.K c kb pb mb)) (hk : ka = true → pb = true := by decide) : PE X (.BinOp a .Mult b pos) (tn X.K c (pa && pb) (mBinN mulL ma mb)) := (pe_op op_rep ha hb).imp fun σ H Q ⟨F, ρ, O, ev, h⟩ => by
  refine te_step ev h fun x ρ1 F1 H1 O1 v h1 e1 s1 p1 v1 => te_step e1 h1 fun y ρ2 F2 H2 O2 u h2 e2 s2 p2 v2 => ?_
  obtain ⟨z, hz, h3⟩ := post_ofO h2
  unfold mulL at hz
  split at hz
  · rename_i xs k
    split at hz
    · rename_i hc
      cases hz
      obtain ⟨p, vs, ep, g1, r1⟩ := inv_list e2.sub (Val.up v1 s2 p2 hk)
      refine ⟨p, _, vs, ep, inv_int v2.up0, g1, hc.1, hc.2.1, by rw [r1.length]; exact hc.2.2, fun q hq => ?_⟩
      have n := New.own e2.sub hq (.lst (List.replicate k.toNat vs).flatten)
      refine h3 F2 _ O2 q _ (e2.new n) (s1.trans s2) (fun z => ?_) upd_same (r1.rep _) (e2.apart hq)
      obtain ⟨q1, q2⟩ := Bool.and_eq_true_iff.mp z
      exact ((p1 q1).trans (p2 q2)).trans n.hH
    · cases hz
  · cases hz
end
end DL
end
section
set_option maxRecDepth 100000
set_option maxHeartbeats 4000000
namespace DL
open PySem PySem.Spec PyProof.Rows L2 PySem.W
def sK (vs : List Nat) (m : M Fl) : M Fl := fun ρ => (m ρ).bind fun f ρ1 => .ok f (wipeE ρ1 vs)
def sKb (vs : List Nat) (m : M Fl) : M Fl := fun ρ => m (wipeE ρ vs)
theorem set_none_self {ρ : Env} {i : Nat} (h : ∀ o, ρ[i]? ≠ some (some o)) : ρ.set i none = ρ := by
  cases q : ρ[i]? with
  | none => exact List.set_eq_of_length_le (List.getElem?_eq_none_iff.mp q)
  | some w =>
    cases w with
    | some o => exact absurd q (h o)
    | none => exact set_self q
section
variable {K : Frag} {c : Ct} {F H : Hp} {σ : Sl} {ρ : Env} {O : List Addr}
theorem EnvR.kill1 (e : EnvR K c F H σ ρ O) (i : Nat) : ∃ O', (∀ b ∈ O', b ∈ O) ∧ EnvR K c F H σ (ρ.set i none) O' := by
  by_cases q : ∃ o, ρ[i]? = some (some o)
  · obtain ⟨o, q⟩ := q
    obtain ⟨v, A, R, h1, h2, h3, h4⟩ := e.sl.at q
    have nd := (h3.nodup_iff.mp e.nd)
    refine ⟨R, fun b hb => h3.mem_iff.mpr (List.mem_append_right _ hb), e.sub, e.f0, e.h0, e.n0, (h4 F H (Same.refl _) fun _ _ => rfl).1, (List.nodup_append.mp nd).2.1, fun p hp => e.ow p (h3.mem_iff.mpr (List.mem_append_right _ hp)), e.fx⟩
  · rw [set_none_self fun o z => q ⟨o, z⟩]
    exact ⟨O, fun _ h => h, e⟩
theorem EnvR.kill (e : EnvR K c F H σ ρ O) : ∀ vs : List Nat, ∃ O', (∀ b ∈ O', b ∈ O) ∧ EnvR K c F H σ (wipeE ρ vs) O'
  | [] => ⟨O, fun _ h => h, e⟩
  | v :: vs => by
    obtain ⟨O1, h1, e1⟩ := e.kill vs
    obtain ⟨O2, h2, e2⟩ := e1.kill1 v
    exact ⟨O2, fun b hb => h1 b (h2 b hb), e2⟩
theorem Apart.less {A O' : List Addr} (a : Apart c F A O) (h : ∀ b ∈ O', b ∈ O) (n : O'.Nodup) : Apart c F A O' :=
  ⟨by
    obtain ⟨n1, _, n3⟩ := List.nodup_append.mp a.nd
    exact List.nodup_append.mpr ⟨n1, n, fun x hx y hy => n3 x hx y (h y hy)⟩, a.ow⟩
theorem ps_wipe {Dn : Ends} {vs : List Nat} : ∀ (f : Fl) (ρ1 : Env), PS' K c Dn f (wipeE ρ1 vs) → PS' K c Dn f ρ1
  | .nx, ρ1, h => fun σ' F' H' O' e => by
    obtain ⟨O1, _, e1⟩ := e.kill vs
    exact h σ' F' H' O1 e1
  | .bk, ρ1, h => fun σ' F' H' O' e => by
    obtain ⟨O1, _, e1⟩ := e.kill vs
    exact h σ' F' H' O1 e1
  | .ct, ρ1, h => fun σ' F' H' O' e => by
    obtain ⟨O1, _, e1⟩ := e.kill vs
    exact h σ' F' H' O1 e1
  | .rt o, ρ1, h => fun σ' F' H' O' A v e r a => by
    obtain ⟨O1, h1, e1⟩ := e.kill vs
    exact h σ' F' H' O1 A v e1 r (a.less h1 e1.nd)
end
section
variable {X : Cx} {c : Ct} {st : Stmt} {xs : List Stmt} {b : M Fl}
theorem ss_kill (vs : List Nat) (h : PSs X xs (ts X.K c b)) : PSs X xs (ts X.K c (sK vs b)) := h.imp fun D σ H ⟨F, ρ, O, e, h1⟩ => ⟨F, ρ, O, e, Res.post_imp (Res.post_bind h1) (fun f ρ1 z => ps_wipe f ρ1 z) fun _ _ z => z⟩
theorem sv_kill (vs : List Nat) (h : PS X st (ts X.K c b)) : PS X st (ts X.K c (sK vs b)) := h.imp fun D σ H ⟨F, ρ, O, e, h1⟩ => ⟨F, ρ, O, e, Res.post_imp (Res.post_bind h1) (fun f ρ1 z => ps_wipe f ρ1 z) fun _ _ z => z⟩
theorem sv_killB (vs : List Nat) (h : PS X st (ts X.K c b)) : PS X st (ts X.K c (sKb vs b)) := h.imp fun D σ H ⟨F, ρ, O, e, h1⟩ => by
  obtain ⟨O1, _, e1⟩ := e.kill vs
  exact ⟨F, _, O1, e1, h1⟩
end
end DL
end
section
set_option maxRecDepth 100000
set_option maxHeartbeats 4000000
namespace DL
open PySem PySem.Spec PyProof.Rows L2 PySem.W
inductive Pr (α : Type) where
  | ok (a : α)
  | ex (ξ : Exc)
  | bad
class Tg (T : Type) where
  bad : T
  ex : Exc → T
instance : Tg Rf := ⟨.bad, .ex⟩
instance {α : Type} : Tg (Pr α) := ⟨.bad, .ex⟩
section
variable {T α β γ : Type} [Tg T]
def oB (o : Option α) (k : α → T) : T := match o with
  | some a => k a
  | none => Tg.bad
def pB (r : Pr α) (k : α → T) : T := match r with
  | .ok a => k a
  | .ex ξ => Tg.ex ξ
  | .bad => Tg.bad
def nB (r : Pr α) (k : α → T) : T := match r with
  | .ok a => k a
  | .ex _ => Tg.bad
  | .bad => Tg.bad
def cX (r : Rf) (h : Exc → T) (k : OV → Env → T) : T := match r with
  | .ok o w => k o w
  | .ex ξ => h ξ
  | .bad => Tg.bad
def cB (r : Rf) (k : OV → Env → T) : T := cX r Tg.ex k
def tH (o : Option Bool) (a b : T) : T := match o with
  | some true => a
  | some false => b
  | none => Tg.bad
def rB (r : Res α) (k : α → Env → T) (h : Exc → Env → T) : T := match r with
  | .ok a ρ => k a ρ
  | .ex ξ ρ => h ξ ρ
  | .bad => Tg.bad
abbrev hE : Exc → Env → T := fun ξ _ => Tg.ex ξ
abbrev hN : Exc → Env → T := fun _ _ => Tg.bad
@[simp] theorem oB_some (a : α) (k : α → T) : oB (some a) k = k a := rfl
@[simp] theorem oB_none (k : α → T) : oB none k = Tg.bad := rfl
@[simp] theorem pB_ok (a : α) (k : α → T) : pB (.ok a) k = k a := rfl
@[simp] theorem pB_ex (ξ : Exc) (k : α → T) : pB (.ex ξ) k = Tg.ex ξ := rfl
@[simp] theorem pB_bad (k : α → T) : pB .bad k = Tg.bad := rfl
@[simp] theorem nB_ok (a : α) (k : α → T) : nB (.ok a) k = k a := rfl
@[simp] theorem nB_ex (ξ : Exc) (k : α → T) : nB (.ex ξ) k = Tg.bad := rfl
@[simp] theorem nB_bad (k : α → T) : nB .bad k = Tg.bad := rfl
@[simp] theorem cX_ok (o : OV) (w : Env) (h : Exc → T) (k : OV → Env → T) : cX (.ok o w) h k = k o w := rfl
@[simp] theorem cX_ex (ξ : Exc) (h : Exc → T) (k : OV → Env → T) : cX (.ex ξ) h k = h ξ := rfl
@[simp] theorem cX_bad (h : Exc → T) (k : OV → Env → T) : cX .bad h k = Tg.bad := rfl
@[simp] theorem cB_ok (o : OV) (w : Env) (k : OV → Env → T) : cB (.ok o w) k = k o w := rfl
@[simp] theorem cB_ex (ξ : Exc) (k : OV → Env → T) : cB (.ex ξ) k = Tg.ex ξ := rfl
@[simp] theorem cB_bad (k : OV → Env → T) : cB .bad k = Tg.bad := rfl
@[simp] theorem tH_t (a b : T) : tH (some true) a b = a := rfl
@[simp] theorem tH_f (a b : T) : tH (some false) a b = b := rfl
@[simp] theorem bad_rf : (Tg.bad : Rf) = .bad := rfl
@[simp] theorem ex_rf (ξ : Exc) : (Tg.ex ξ : Rf) = .ex ξ := rfl
@[simp] theorem bad_pr : (Tg.bad : Pr α) = .bad := rfl
@[simp] theorem ex_pr (ξ : Exc) : (Tg.ex ξ : Pr α) = .ex ξ := rfl
theorem pB_o (o : Option β) (k : β → Pr α) (k' : α → T) : pB (oB o k) k' = oB o fun a => pB (k a) k' := by cases o <;> rfl
theorem pB_p (o : Pr β) (k : β → Pr α) (k' : α → T) : pB (pB o k) k' = pB o fun a => pB (k a) k' := by cases o <;> rfl
theorem pB_n (o : Pr β) (k : β → Pr α) (k' : α → T) : pB (nB o k) k' = nB o fun a => pB (k a) k' := by cases o <;> rfl
theorem pB_x (r : Rf) (h : Exc → Pr α) (k : OV → Env → Pr α) (k' : α → T) : pB (cX r h k) k' = cX r (fun ξ => pB (h ξ) k') fun o w => pB (k o w) k' := by cases r <;> rfl
theorem pB_i {c : Prop} [Decidable c] (a b : Pr α) (k' : α → T) : pB (if c then a else b) k' = if c then pB a k' else pB b k' := by split <;> rfl
theorem pB_h (o : Option Bool) (a b : Pr α) (k' : α → T) : pB (tH o a b) k' = tH o (pB a k') (pB b k') := by
  rcases o with _ | _ | _ <;> rfl
theorem nB_o (o : Option β) (k : β → Pr α) (k' : α → T) : nB (oB o k) k' = oB o fun a => nB (k a) k' := by cases o <;> rfl
theorem nB_p (o : Pr β) (k : β → Pr α) (k' : α → T) : nB (pB o k) k' = nB o fun a => nB (k a) k' := by cases o <;> rfl
theorem nB_n (o : Pr β) (k : β → Pr α) (k' : α → T) : nB (nB o k) k' = nB o fun a => nB (k a) k' := by cases o <;> rfl
theorem nB_x (r : Rf) (h : Exc → Pr α) (k : OV → Env → Pr α) (k' : α → T) : nB (cX r h k) k' = cX r (fun ξ => nB (h ξ) k') fun o w => nB (k o w) k' := by cases r <;> rfl
theorem nB_i {c : Prop} [Decidable c] (a b : Pr α) (k' : α → T) : nB (if c then a else b) k' = if c then nB a k' else nB b k' := by split <;> rfl
theorem cB_d (r : Rf) (k : OV → Env → T) : cB r k = cX r (fun ξ => Tg.ex ξ) k := rfl
def gt (ρ : Env) (i : Nat) : Option OV := match ρ[i]? with
  | some w => w
  | none => none
@[simp] theorem gt_0 (a : Option OV) (ρ : Env) : gt (a :: ρ) 0 = a := rfl
@[simp] theorem gt_s (a : Option OV) (ρ : Env) (i : Nat) : gt (a :: ρ) (i + 1) = gt ρ i := by
  unfold gt; rw [List.getElem?_cons_succ]
theorem gt_tail (ρ : Env) (i : Nat) : gt ρ.tail i = gt ρ (i + 1) := by
  cases ρ with
  | nil => rfl
  | cons a ρ => rw [gt_s, List.tail_cons]
def dO (w : Option OV) : Option D := match w with
  | some (.d x) => some x
  | _ => none
def lO (w : Option OV) : Option (List D) := match w with
  | some (.lst x) => some x
  | _ => none
def lk (w : Option OV) : Option D := match w with
  | some o => o.look
  | none => none
def fz (w : Option OV) : Option D := match w with
  | some o => o.frz
  | none => none
@[simp] theorem dO_d (x : D) : dO (some (.d x)) = some x := rfl
@[simp] theorem lO_l (x : List D) : lO (some (.lst x)) = some x := rfl
@[simp] theorem lk_d (x : D) : lk (some (.d x)) = some x := rfl
@[simp] theorem lk_l (x : List D) : lk (some (.lst x)) = some (.list x) := rfl
@[simp] theorem fz_d (x : D) : fz (some (.d x)) = some x := rfl
@[simp] theorem fz_l (x : List D) : fz (some (.lst x)) = some (.list x) := rfl
def bO (x : D) : Option Bool := match x with
  | .bool b => some b
  | _ => none
@[simp] theorem bO_b (b : Bool) : bO (.bool b) = some b := rfl
def iO (x : D) : Option Int := match x with
  | .int i => some i
  | _ => none
@[simp] theorem iO_i (b : Int) : iO (.int b) = some b := rfl
def sO (x : D) : Option Str := match x with
  | .str i => some i
  | _ => none
@[simp] theorem sO_s (b : Str) : sO (.str b) = some b := rfl
variable (ρ : Env) (k : α → Env → T) (h : Exc → Env → T)
theorem rB_ok (a : α) : rB (.ok a ρ) k h = k a ρ := rfl
theorem rB_ex (ξ : Exc) : rB (.ex ξ ρ : Res α) k h = h ξ ρ := rfl
theorem rB_bad : rB (.bad : Res α) k h = Tg.bad := rfl
theorem rB_bind (r : Res β) (f : β → Env → Res α) : rB (r.bind f) k h = rB r (fun a ρ1 => rB (f a ρ1) k h) h := by cases r <;> rfl
theorem rB_bindN (r : Res β) (f : β → Env → Res α) : rB (r.bindN f) k h = rB r (fun a ρ1 => rB (f a ρ1) k h) hN := by cases r <;> rfl
theorem rB_ofO (o : Option α) : rB (ofO o ρ) k h = oB o fun a => k a ρ := by cases o <;> rfl
theorem rB_i {c : Prop} [Decidable c] (a b : Res α) : rB (if c then a else b) k h = if c then rB a k h else rB b k h := by split <;> rfl
section
variable (k : D → Env → T)
theorem rB_var (i : Nat) : rB (mVar i ρ) k h = oB (dO (gt ρ i)) fun x => k x ρ := by
  unfold mVar gt
  cases ρ[i]? with
  | none => rfl
  | some w => cases w with
    | none => rfl
    | some o => cases o <;> rfl
theorem rB_C (x : D) : rB (mC x ρ) k h = k x ρ := rfl
theorem rB_look (i : Nat) : rB (mLook i ρ) k h = oB (lk (gt ρ i)) fun x => k x ρ := by
  unfold mLook gt
  cases ρ[i]? with
  | none => rfl
  | some w => cases w with
    | none => rfl
    | some o =>
      show rB (ofO o.look ρ) k h = oB o.look _
      rw [rB_ofO]
theorem rB_frzV (i : Nat) : rB (mFrzV i ρ) k h = oB (fz (gt ρ i)) fun x => k x (ρ.set i (some (.d x))) := by
  unfold mFrzV gt
  cases ρ[i]? with
  | none => rfl
  | some w => cases w with
    | none => rfl
    | some o =>
      show rB (match o.frz with | some x => .ok x (ρ.set i (some (.d x))) | none => .bad) k h = oB o.frz _
      cases o.frz <;> rfl
theorem rB_bin (g : D → D → Option D) (a b : M D) : rB (mBin g a b ρ) k h = rB (a ρ) (fun x ρ1 => rB (b ρ1) (fun y ρ2 => oB (g x y) fun z => k z ρ2) h) h := by
  unfold mBin; rw [rB_bind]; congr; funext x ρ1; rw [rB_bind]; congr; funext y ρ2; rw [rB_ofO]
theorem rB_f1 (g : D → Option D) (a : M D) : rB (mF1 g a ρ) k h = rB (a ρ) (fun x ρ1 => oB (g x) fun z => k z ρ1) h := by
  unfold mF1; rw [rB_bind]; congr; funext x ρ1; rw [rB_ofO]
theorem rB_chain (g g' : D → D → Option D) (a b d : M D) : rB (mChain g g' a b d ρ) k h = rB (a ρ) (fun x ρ1 => rB (b ρ1) (fun y ρ2 => oB ((g x y).bind bO) fun t => if t = true then rB (d ρ2) (fun z ρ3 => oB (g' y z) fun u => k u ρ3) h else k (.bool false) ρ2) h) h := by
  unfold mChain; rw [rB_bind]; congr; funext x ρ1; rw [rB_bind]; congr; funext y ρ2
  cases g x y with
  | none => rfl
  | some t =>
    cases t with
    | bool t =>
      cases t with
      | true =>
        show rB ((d ρ2).bind fun z ρ3 => ofO (g' y z) ρ3) k h = rB (d ρ2) _ h
        rw [rB_bind]; congr; funext z ρ3; rw [rB_ofO]
      | false => rfl
    | _ => rfl
theorem rB_mV (a : M Bool) : rB (mV a ρ) k h = rB (a ρ) (fun x ρ1 => k (.bool x) ρ1) h := by unfold mV; rw [rB_bind]; rfl
theorem rB_andV (a b : M D) : rB (mAndV a b ρ) k h = rB (a ρ) (fun x ρ1 => oB (bO x) fun t => if t = true then rB (b ρ1) k h else k (.bool false) ρ1) h := by
  unfold mAndV; rw [rB_bind]; congr; funext x ρ1
  cases x with
  | bool t => cases t <;> rfl
  | _ => rfl
theorem rB_orV (a b : M D) : rB (mOrV a b ρ) k h = rB (a ρ) (fun x ρ1 => oB (bO x) fun t => if t = true then k (.bool true) ρ1 else rB (b ρ1) k h) h := by
  unfold mOrV; rw [rB_bind]; congr; funext x ρ1
  cases x with
  | bool t => cases t <;> rfl
  | _ => rfl
theorem rB_notV (a : M D) : rB (mNotV a ρ) k h = rB (a ρ) (fun x ρ1 => oB (bO x) fun t => k (.bool (!t)) ρ1) h := by
  unfold mNotV; rw [rB_bind]; congr; funext x ρ1
  cases x <;> rfl
theorem rB_tup (m : M (List D)) : rB (mTup m ρ) k h = rB (m ρ) (fun xs ρ1 => k (.tuple xs) ρ1) h := by unfold mTup; rw [rB_bind]; rfl
theorem rB_lstF (m : M (List D)) : rB (mLstF m ρ) k h = rB (m ρ) (fun xs ρ1 => k (.list xs) ρ1) h := by unfold mLstF; rw [rB_bind]; rfl
theorem rB_frz (m : M OV) : rB (mFrz m ρ) k h = rB (m ρ) (fun o ρ1 => oB o.frz fun x => k x ρ1) h := by unfold mFrz; rw [rB_bind]; congr; funext x ρ1; rw [rB_ofO]
theorem rB_sl (a : M D) (l u : M (Option Int)) : rB (mSl a l u ρ) k h = rB (a ρ) (fun x ρ1 => rB (l ρ1) (fun i ρ2 => rB (u ρ2) (fun j ρ3 => oB (slD x i j) fun z => k z ρ3) h) h) h := by
  unfold mSl; rw [rB_bind]; congr; funext x ρ1; rw [rB_bind]; congr; funext y ρ2; rw [rB_bind]; congr; funext z ρ3; rw [rB_ofO]
theorem rB_LM (i : Nat) (g : List D → List D → Option (List D × D)) (ms : M (List D)) : rB (mLM i g ms ρ) k h = oB (lO (gt ρ i)) fun _ => rB (ms ρ) (fun as ρ1 => oB (lO (gt ρ1 i)) fun xs => oB (g xs as) fun z => k z.2 (ρ1.set i (some (.lst z.1)))) h := by
  unfold mLM gt
  cases ρ[i]? with
  | none => rfl
  | some w => cases w with
    | none => rfl
    | some o => cases o with
      | lst ys =>
        show rB ((ms ρ).bind _) k h = rB (ms ρ) _ h
        rw [rB_bind]; congr; funext as ρ1
        cases ρ1[i]? with
        | none => rfl
        | some w => cases w with
          | none => rfl
          | some o => cases o with
            | lst xs =>
              show rB (match g xs as with | some z => .ok z.2 (ρ1.set i (some (.lst z.1))) | none => .bad) k h = oB (g xs as) _
              cases g xs as <;> rfl
            | _ => rfl
      | _ => rfl
theorem rB_extend (i : Nat) (m : M D) : rB (mExtend i m ρ) k h = oB (lO (gt ρ i)) fun _ => rB (m ρ) (fun a ρ1 => oB (lO (gt ρ1 i)) fun xs => oB (extendD xs a) fun z => k .none (ρ1.set i (some (.lst z)))) h := by
  unfold mExtend gt
  cases ρ[i]? with
  | none => rfl
  | some w => cases w with
    | none => rfl
    | some o => cases o with
      | lst ys =>
        show rB ((m ρ).bind _) k h = rB (m ρ) _ h
        rw [rB_bind]; congr; funext as ρ1
        cases ρ1[i]? with
        | none => rfl
        | some w => cases w with
          | none => rfl
          | some o => cases o with
            | lst xs =>
              show rB (match extendD xs as with | some z => .ok .none (ρ1.set i (some (.lst z))) | none => .bad) k h = oB (extendD xs as) _
              cases extendD xs as <;> rfl
            | _ => rfl
      | _ => rfl
theorem rB_lenK (m : M (List Str)) : rB (mLenK m ρ) k h = rB (m ρ) (fun l ρ1 => k (.int ((onceS l).length : Nat)) ρ1) h := by unfold mLenK; rw [rB_bind]; rfl
theorem rB_txt (m : M D) : rB (mTxt m ρ) k h = rB (m ρ) (fun x ρ1 => oB (sO x) fun z => k (.str z) ρ1) hN := by
  unfold mTxt; rw [rB_bindN]; congr; funext x ρ1
  cases x <;> rfl
theorem rB_dict (m : M KD) : rB (mDict m ρ) k h = rB (m ρ) (fun l ρ1 => k (dK (mergeKD [] l)) ρ1) h := by unfold mDict; rw [rB_bind]; rfl
theorem rB_dcF (m : M KD) : rB (mDcF m ρ) k h = rB (m ρ) (fun l ρ1 => k (dK l) ρ1) h := by unfold mDcF; rw [rB_bind]; rfl
theorem rB_pairE (x y : M D) : rB (mPairE x y ρ) k h = rB (x ρ) (fun x ρ1 => rB (y ρ1) (fun y ρ2 => oB (keyOf x) fun _ => k (.tuple [x, y]) ρ2) hN) hN := by
  unfold mPairE; rw [rB_bindN]; congr; funext x ρ1; rw [rB_bindN]; congr; funext y ρ2
  cases keyOf x <;> rfl
end
section
variable (k : KD → Env → T)
theorem rB_nilP : rB (mNilP ρ) k h = k [] ρ := rfl
theorem rB_consP (x y : M D) (r : M KD) : rB (mConsP x y r ρ) k h = rB (x ρ) (fun x ρ1 => rB (y ρ1) (fun y ρ2 => oB (keyOf x) fun j => rB (r ρ2) (fun l ρ3 => k ((j, y) :: l) ρ3) h) h) h := by
  unfold mConsP; rw [rB_bind]; congr; funext x ρ1; rw [rB_bind]; congr; funext y ρ2
  cases keyOf x with
  | none => rfl
  | some j =>
    show rB ((r ρ2).bind _) k h = rB (r ρ2) _ h
    rw [rB_bind]; rfl
end
section
variable (k : Bool → Env → T)
theorem rB_B (m : M D) : rB (mB m ρ) k h = rB (m ρ) (fun x ρ1 => oB (bO x) fun b => k b ρ1) h := by
  unfold mB; rw [rB_bind]; congr; funext x ρ1
  cases x <;> rfl
theorem rB_and (a b : M Bool) : rB (mAnd a b ρ) k h = rB (a ρ) (fun x ρ1 => if x = true then rB (b ρ1) k h else k false ρ1) h := by
  unfold mAnd; rw [rB_bind]; congr; funext x ρ1; rw [rB_i]; rfl
theorem rB_or (a b : M Bool) : rB (mOr a b ρ) k h = rB (a ρ) (fun x ρ1 => if x = true then k true ρ1 else rB (b ρ1) k h) h := by
  unfold mOr; rw [rB_bind]; congr; funext x ρ1; rw [rB_i]; rfl
theorem rB_not (a : M Bool) : rB (mNot a ρ) k h = rB (a ρ) (fun x ρ1 => k (!x) ρ1) h := by unfold mNot; rw [rB_bind]; rfl
theorem rB_yes : rB (mYes ρ) k h = k true ρ := rfl
end
theorem rB_if (t : M Bool) (a b : M α) : rB (mIf t a b ρ) k h = rB (t ρ) (fun x ρ1 => if x = true then rB (a ρ1) k h else rB (b ρ1) k h) h := by
  unfold mIf; rw [rB_bind]; congr; funext x ρ1; rw [rB_i]
section
variable (k : List D → Env → T)
theorem rB_nil : rB (mNil ρ) k h = k [] ρ := rfl
theorem rB_cons (a : M D) (r : M (List D)) : rB (mCons a r ρ) k h = rB (a ρ) (fun x ρ1 => rB (r ρ1) (fun xs ρ2 => k (x :: xs) ρ2) h) h := by
  unfold mCons; rw [rB_bind]; congr; funext x ρ1; rw [rB_bind]; rfl
theorem rB_fN (g : D → Option (List D)) (a : M D) : rB (mFN g a ρ) k h = rB (a ρ) (fun x ρ1 => oB (g x) fun z => k z ρ1) h := by
  unfold mFN; rw [rB_bind]; congr; funext x ρ1; rw [rB_ofO]
theorem rB_binN (g : D → D → Option (List D)) (a b : M D) : rB (mBinN g a b ρ) k h = rB (a ρ) (fun x ρ1 => rB (b ρ1) (fun y ρ2 => oB (g x y) fun z => k z ρ2) h) h := by
  unfold mBinN; rw [rB_bind]; congr; funext x ρ1; rw [rB_bind]; congr; funext y ρ2; rw [rB_ofO]
theorem rB_items (a : M D) : rB (mItems a ρ) k h = rB (a ρ) (fun x ρ1 => oB (itemsD x) fun z => k z ρ1) h := by
  unfold mItems; rw [rB_bind]; congr; funext x ρ1; rw [rB_ofO]
theorem rB_itemsP (a : M D) : rB (mItemsP a ρ) k h = rB (a ρ) (fun x ρ1 => oB (itemsP x) fun z => k z ρ1) h := by
  unfold mItemsP; rw [rB_bind]; congr; funext x ρ1; rw [rB_ofO]
theorem rB_range1 (a : M D) : rB (mRange1 a ρ) k h = rB (a ρ) (fun x ρ1 => oB (range1 x) fun z => k z ρ1) h := by
  unfold mRange1; rw [rB_bind]; congr; funext x ρ1; rw [rB_ofO]
theorem rB_range2 (a b : M D) : rB (mRange2 a b ρ) k h = rB (a ρ) (fun x ρ1 => rB (b ρ1) (fun y ρ2 => oB (range2 x y) fun z => k z ρ2) h) h := by
  unfold mRange2; rw [rB_bind]; congr; funext x ρ1; rw [rB_bind]; congr; funext y ρ2; rw [rB_ofO]
theorem rB_range3 (a b c : M D) : rB (mRange3 a b c ρ) k h = rB (a ρ) (fun x ρ1 => rB (b ρ1) (fun y ρ2 => rB (c ρ2) (fun w ρ3 => oB (range3 x y w) fun z => k z ρ3) h) h) h := by
  unfold mRange3; rw [rB_bind]; congr; funext x ρ1; rw [rB_bind]; congr; funext y ρ2; rw [rB_bind]; congr; funext y ρ2; rw [rB_ofO]
theorem rB_zip (a b : M D) : rB (mZip a b ρ) k h = rB (a ρ) (fun x ρ1 => rB (b ρ1) (fun y ρ2 => oB (zipD x y) fun z => k z ρ2) h) h := by
  unfold mZip; rw [rB_bind]; congr; funext x ρ1; rw [rB_bind]; congr; funext y ρ2; rw [rB_ofO]
theorem rB_enum (a : M D) : rB (mEnum a ρ) k h = rB (a ρ) (fun x ρ1 => oB (enumO x) fun z => k z ρ1) h := by
  unfold mEnum; rw [rB_bind]; congr; funext x ρ1; rw [rB_ofO]
theorem rB_enumA (a : M D) : rB (mEnumA a ρ) k h = rB (a ρ) (fun x ρ1 => oB (enumA x) fun z => k z ρ1) h := by
  unfold mEnumA; rw [rB_bind]; congr; funext x ρ1; rw [rB_ofO]
theorem rB_sortK (m : M (List Str)) : rB (mSortK m ρ) k h = rB (m ρ) (fun l ρ1 => k ((sortS (onceS l)).map .str) ρ1) h := by unfold mSortK; rw [rB_bind]; rfl
end
section
variable (k : List Str → Env → T)
def txO (ys : List D) : Option (List Str) := if ys.length ≤ scanBound - 2 then allStr ys else none
def orO (l m : List Str) : Option (List Str) := if l.length + m.length ≤ 30 then some (l ++ m) else none
theorem rB_setOf (a : M D) : rB (mSetOf a ρ) k h = rB (a ρ) (fun x ρ1 => oB (textsD x) fun z => k z ρ1) h := by
  unfold mSetOf; rw [rB_bind]; congr; funext x ρ1; rw [rB_ofO]
theorem rB_setC (a : M (List D)) : rB (mSetC a ρ) k h = rB (a ρ) (fun x ρ1 => oB (txO x) fun z => k z ρ1) h := by
  unfold mSetC; rw [rB_bind]; congr; funext x ρ1; rw [rB_i, rB_ofO]
  unfold txO; split <;> rfl
theorem rB_setOr (a b : M (List Str)) : rB (mSetOr a b ρ) k h = rB (a ρ) (fun x ρ1 => rB (b ρ1) (fun y ρ2 => oB (orO x y) fun z => k z ρ2) h) h := by
  unfold mSetOr; rw [rB_bind]; congr; funext x ρ1; rw [rB_bind]; congr; funext y ρ2
  unfold orO; split <;> rfl
end
section
variable (k : Option Int → Env → T)
theorem rB_bNo : rB (bNo ρ) k h = k none ρ := rfl
theorem rB_bTo (m : M D) : rB (bTo m ρ) k h = rB (m ρ) (fun x ρ1 => oB (iO x) fun i => k (some i) ρ1) h := by
  unfold bTo; rw [rB_bind]; congr; funext x ρ1
  cases x <;> rfl
end
section
variable (k : OV → Env → T)
theorem rB_D (m : M D) : rB (mD m ρ) k h = rB (m ρ) (fun x ρ1 => k (.d x) ρ1) h := by unfold mD; rw [rB_bind]; rfl
theorem rB_lst (m : M (List D)) : rB (mLst m ρ) k h = rB (m ρ) (fun x ρ1 => k (.lst x) ρ1) h := by unfold mLst; rw [rB_bind]; rfl
theorem rB_move (i : Nat) : rB (mMove i ρ) k h = oB (gt ρ i) fun o => k o (ρ.set i none) := by
  unfold mMove gt
  cases ρ[i]? with
  | none => rfl
  | some w => cases w <;> rfl
theorem rB_dictO (m : M KD) : rB (mDictO m ρ) k h = rB (m ρ) (fun l ρ1 => k (.dct ((mergeKD [] l).map fun p => (kD p.1, p.2))) ρ1) h := by unfold mDictO; rw [rB_bind]; rfl
theorem rB_dcO (m : M KD) : rB (mDcO m ρ) k h = rB (m ρ) (fun l ρ1 => k (.dct (l.map fun p => (kD p.1, p.2))) ρ1) h := by unfold mDcO; rw [rB_bind]; rfl
theorem rB_callRf (avs : List AV) (r : Rf) : rB (callRf avs ρ r) k h = cX r (fun ξ => h ξ ρ) fun o w => k o (putBack ρ avs w) := by cases r <;> rfl
theorem rB_call (f : Fn) (m : M (List AV)) : rB (mCall f m ρ) k h = rB (m ρ) (fun avs ρ1 => oB (gather ρ1 avs) fun y => cX (f y.1) (fun ξ => h ξ y.2) fun o w => k o (putBack y.2 avs w)) h := by
  unfold mCall; rw [rB_bind]; congr; funext avs ρ1
  cases gather ρ1 avs with
  | none => rfl
  | some y => show rB (callRf avs y.2 (f y.1)) k h = _; rw [rB_callRf]; rfl
theorem rB_callT (f : Fn) (m : M (List AV × OV)) : rB (mCallT f m ρ) k h = rB (m ρ) (fun z ρ1 => oB (gather ρ1 z.1) fun y => cX (f (y.1 ++ [z.2])) (fun ξ => h ξ y.2) fun o w => k o (putBack y.2 z.1 w)) h := by
  unfold mCallT; rw [rB_bind]; congr; funext avs ρ1
  cases gather ρ1 avs.1 with
  | none => rfl
  | some y => show rB (callRf avs.1 y.2 (f (y.1 ++ [avs.2]))) k h = _; rw [rB_callRf]; rfl
end
section
variable (k : List AV → Env → T)
theorem rB_gNil : rB (gNil ρ) k h = k [] ρ := rfl
theorem rB_gD (a : M D) (r : M (List AV)) : rB (gD a r ρ) k h = rB (a ρ) (fun x ρ1 => rB (r ρ1) (fun xs ρ2 => k (.d x :: xs) ρ2) h) h := by
  unfold gD; rw [rB_bind]; congr; funext x ρ1; rw [rB_bind]; rfl
theorem rB_gO (i : Nat) (r : M (List AV)) : rB (gO i r ρ) k h = oB (gt ρ i) fun _ => rB (r ρ) (fun xs ρ2 => k (.o i :: xs) ρ2) h := by
  unfold gO gt
  cases ρ[i]? with
  | none => rfl
  | some w => cases w with
    | none => rfl
    | some o =>
      show rB ((r ρ).bind _) k h = rB (r ρ) _ h
      rw [rB_bind]; rfl
end
section
variable (k : List AV × OV → Env → T)
theorem rB_gT (m : M OV) : rB (gT m ρ) k h = rB (m ρ) (fun o ρ1 => k ([], o) ρ1) h := by unfold gT; rw [rB_bind]; rfl
theorem rB_gDt (a : M D) (r : M (List AV × OV)) : rB (gDt a r ρ) k h = rB (a ρ) (fun x ρ1 => rB (r ρ1) (fun z ρ2 => k (.d x :: z.1, z.2) ρ2) h) h := by
  unfold gDt; rw [rB_bind]; congr; funext x ρ1; rw [rB_bind]; rfl
theorem rB_gOt (i : Nat) (r : M (List AV × OV)) : rB (gOt i r ρ) k h = oB (gt ρ i) fun _ => rB (r ρ) (fun z ρ2 => k (.o i :: z.1, z.2) ρ2) h := by
  unfold gOt gt
  cases ρ[i]? with
  | none => rfl
  | some w => cases w with
    | none => rfl
    | some o =>
      show rB ((r ρ).bind _) k h = rB (r ρ) _ h
      rw [rB_bind]; rfl
end
theorem gath_nil (k : List OV × Env → T) : oB (gather ρ []) k = k ([], ρ) := rfl
theorem gath_d (x : D) (r : List AV) (k : List OV × Env → T) : oB (gather ρ (.d x :: r)) k = oB (gather ρ r) fun y => k (.d x :: y.1, y.2) := by
  show oB ((gather ρ r).map _) k = _
  cases gather ρ r <;> rfl
theorem gath_o (i : Nat) (r : List AV) (k : List OV × Env → T) : oB (gather ρ (.o i :: r)) k = oB (gt ρ i) fun o => oB (gather (ρ.set i none) r) fun y => k (o :: y.1, y.2) := by
  rw [gather]
  unfold gt
  cases ρ[i]? with
  | none => rfl
  | some w => cases w with
    | none => rfl
    | some o =>
      show oB ((gather (ρ.set i none) r).map _) k = oB (some o) _
      rw [oB_some]
      cases gather (ρ.set i none) r <;> rfl
theorem pb_nil (w : Env) : putBack ρ [] w = ρ := by cases w <;> rfl
theorem pb_d (x : D) (r : List AV) (w : Env) : putBack ρ (.d x :: r) w = putBack ρ r w.tail := by
  cases w with
  | nil => cases r with
    | nil => rfl
    | cons a r => cases a <;> rfl
  | cons o w => rfl
theorem pb_o (i : Nat) (r : List AV) (w : Env) (hi : gt ρ i = none) : putBack ρ (.o i :: r) w = putBack (ρ.set i (gt w 0)) r w.tail := by
  cases w with
  | nil =>
    have e : ρ.set i (gt [] 0) = ρ := set_none_self fun o z => by unfold gt at hi; rw [z] at hi; cases hi
    rw [e]
    show ρ = putBack ρ r []
    cases r with
    | nil => rfl
    | cons a r => cases a <;> rfl
  | cons o w => rfl
section
variable (k : Fl → Env → T)
def sq (f : Fl) (x : T) (y : T) : T := match f with
  | .nx => x
  | _ => y
@[simp] theorem sq_nx (x y : T) : sq .nx x y = x := rfl
@[simp] theorem sq_rt (o : OV) (x y : T) : sq (.rt o) x y = y := rfl
@[simp] theorem sq_bk (x y : T) : sq .bk x y = y := rfl
@[simp] theorem sq_ct (x y : T) : sq .ct x y = y := rfl
theorem rB_seq (a b : M Fl) : rB (sSeq a b ρ) k h = rB (a ρ) (fun f ρ1 => sq f (rB (b ρ1) k h) (k f ρ1)) h := by
  unfold sSeq; rw [rB_bind]; congr; funext f ρ1
  cases f <;> rfl
theorem rB_sNil : rB (sNil ρ) k h = k .nx ρ := rfl
theorem rB_set (i : Nat) (m : M D) : rB (sSet i m ρ) k h = rB (m ρ) (fun x ρ1 => k .nx (ρ1.set i (some (.d x)))) h := by unfold sSet; rw [rB_bind]; rfl
theorem rB_setO (i : Nat) (m : M OV) : rB (sSetO i m ρ) k h = rB (m ρ) (fun x ρ1 => k .nx (ρ1.set i (some x))) h := by unfold sSetO; rw [rB_bind]; rfl
theorem rB_ret (m : M OV) : rB (sRet m ρ) k h = rB (m ρ) (fun x ρ1 => k (.rt x) ρ1) h := by unfold sRet; rw [rB_bind]; rfl
theorem rB_drop (m : M OV) : rB (sDrop m ρ) k h = rB (m ρ) (fun _ ρ1 => k .nx ρ1) h := by unfold sDrop; rw [rB_bind]; rfl
theorem rB_put (i : Nat) (mi mv : M D) : rB (sPut i mi mv ρ) k h = rB (mv ρ) (fun v ρ1 => oB (lO (gt ρ1 i)) fun _ => rB (mi ρ1) (fun x ρ2 => oB (lO (gt ρ2 i)) fun xs => oB ((iO x).bind (ixN xs.length)) fun n => k .nx (ρ2.set i (some (.lst (xs.set n v))))) h) h := by
  unfold sPut; rw [rB_bind]; congr; funext v ρ1
  unfold gt
  cases ρ1[i]? with
  | none => rfl
  | some w => cases w with
    | none => rfl
    | some o => cases o with
      | lst ys =>
        show rB ((mi ρ1).bind _) k h = rB (mi ρ1) _ h
        rw [rB_bind]; congr; funext x ρ2
        cases ρ2[i]? with
        | none => rfl
        | some w => cases w with
          | none => rfl
          | some o => cases o with
            | lst xs =>
              cases x with
              | int j =>
                show rB (match ixN xs.length j with | some n => .ok .nx (ρ2.set i (some (.lst (xs.set n v)))) | none => .bad) k h = oB (ixN xs.length j) _
                cases ixN xs.length j <;> rfl
              | _ => rfl
            | _ => cases x <;> rfl
      | _ => rfl
def twoO (xs : List D) : Option (D × D) := match xs with
  | [x, y] => some (x, y)
  | _ => none
@[simp] theorem twoO_2 (x y : D) : twoO [x, y] = some (x, y) := rfl
theorem rB_par (i j : Nat) (m : M (List D)) : rB (sPar i j m ρ) k h = rB (m ρ) (fun xs ρ1 => oB (twoO xs) fun z => k .nx ((ρ1.set i (some (.d z.1))).set j (some (.d z.2)))) h := by
  unfold sPar; rw [rB_bind]; congr; funext xs ρ1
  rcases xs with _ | ⟨x, _ | ⟨y, _ | _⟩⟩ <;> rfl
theorem rB_tgt (t : D → Env → Option Env) (m : M D) : rB (sTgt t m ρ) k h = rB (m ρ) (fun x ρ1 => oB (t x ρ1) fun ρ2 => k .nx ρ2) h := by
  unfold sTgt; rw [rB_bind]; congr; funext x ρ1
  cases t x ρ1 <;> rfl
theorem rB_aug (g : D → D → Option D) (i : Nat) (m : M D) : rB (sAug g i m ρ) k h = oB (dO (gt ρ i)) fun x => rB (m ρ) (fun y ρ1 => oB (g x y) fun z => k .nx (ρ1.set i (some (.d z)))) h := by
  unfold sAug gt
  cases ρ[i]? with
  | none => rfl
  | some w => cases w with
    | none => rfl
    | some o => cases o with
      | d x =>
        show rB ((m ρ).bind _) k h = rB (m ρ) _ h
        rw [rB_bind]; congr; funext y ρ1
        cases g x y <;> rfl
      | _ => rfl
theorem rB_raise (x : Str) : rB (sRaise x ρ) k h = h ⟨.own x, []⟩ ρ := rfl
theorem rB_sK (vs : List Nat) (m : M Fl) : rB (sK vs m ρ) k h = rB (m ρ) (fun f ρ1 => k f (wipeE ρ1 vs)) h := by unfold sK; rw [rB_bind]; rfl
theorem rB_sKb (vs : List Nat) (m : M Fl) : rB (sKb vs m ρ) k h = rB (m (wipeE ρ vs)) k h := rfl
theorem rB_for (it : M (List D)) (tg : D → Env → Option Env) (b : M Fl) : rB (sFor it tg b ρ) k h = rB (it ρ) (fun xs ρ1 => rB (forGo tg b xs ρ1) k h) h := by unfold sFor; rw [rB_bind]
theorem rB_try (b : M Fl) (hs : List ((ECls → Option Bool) × M Fl)) : rB (sTry b hs ρ) k h = rB (b ρ) k fun ξ ρ1 => rB (tryH hs ξ ρ1) k h := by
  unfold sTry; cases b ρ <;> rfl
theorem rB_noEx (r : Res Fl) : rB (noEx r) k h = rB r k hN := by cases r <;> rfl
theorem rB_h0 (ξ : Exc) : rB (tryH [] ξ ρ) k h = h ξ ρ := rfl
theorem rB_h1 (x : (ECls → Option Bool) × M Fl) (r : List ((ECls → Option Bool) × M Fl)) (ξ : Exc) : rB (tryH (x :: r) ξ ρ) k h = tH (x.1 ξ.c) (rB (x.2 ρ) k hN) (rB (tryH r ξ ρ) k h) := by
  rw [tryH]
  rcases x.1 ξ.c with _ | _ | _
  · rfl
  · rfl
  · show rB (noEx _) k h = _; rw [rB_noEx]; rfl
end
theorem og_name (i : Nat) (x : D) (k : Env → T) : oB (tName i x ρ) k = k (ρ.set i (some (.d x))) := rfl
def tupO (n : Nat) (x : D) : Option (List D) := match x with
  | .tuple xs => if xs.length = n then some xs else none
  | _ => none
theorem og_tup (n : Nat) (u : List D → Env → Option Env) (x : D) (k : Env → T) : oB (tTup n u x ρ) k = oB (tupO n x) fun xs => oB (u xs ρ) k := by
  unfold tTup tupO
  cases x with
  | tuple xs =>
    show oB (if xs.length = n then _ else _) k = oB (if xs.length = n then _ else _) _
    split <;> rfl
  | _ => rfl
def starO (n : Nat) (x : D) : Option (List D) := match x with
  | .tuple xs => if n ≤ xs.length then some (xs.take n ++ [.list (xs.drop n)]) else none
  | .list xs => if n ≤ xs.length then some (xs.take n ++ [.list (xs.drop n)]) else none
  | _ => none
theorem og_star (n : Nat) (u : List D → Env → Option Env) (x : D) (k : Env → T) : oB (tStar n u x ρ) k = oB (starO n x) fun xs => oB (u xs ρ) k := by
  unfold tStar starO
  cases x with
  | tuple xs =>
    show oB (if n ≤ xs.length then _ else _) k = oB (if n ≤ xs.length then _ else _) _
    split <;> rfl
  | list xs =>
    show oB (if n ≤ xs.length then _ else _) k = oB (if n ≤ xs.length then _ else _) _
    split <;> rfl
  | _ => rfl
def nilO (xs : List D) : Option Unit := match xs with
  | [] => some ()
  | _ => none
def conO (xs : List D) : Option (D × List D) := match xs with
  | x :: r => some (x, r)
  | [] => none
@[simp] theorem nilO_n : nilO [] = some () := rfl
@[simp] theorem conO_c (x : D) (r : List D) : conO (x :: r) = some (x, r) := rfl
theorem og_nil (xs : List D) (k : Env → T) : oB (tsNil xs ρ) k = oB (nilO xs) fun _ => k ρ := by cases xs <;> rfl
theorem og_cons (t : D → Env → Option Env) (u : List D → Env → Option Env) (xs : List D) (k : Env → T) : oB (tsCons t u xs ρ) k = oB (conO xs) fun z => oB (t z.1 ρ) fun ρ1 => oB (u z.2 ρ1) k := by
  cases xs with
  | nil => rfl
  | cons x r =>
    show oB ((t x ρ).bind _) k = oB (t x ρ) _
    cases t x ρ <;> rfl
end
end DL
end
section
set_option maxRecDepth 100000
set_option maxHeartbeats 4000000
namespace DL
open PySem PySem.Spec PyProof.Rows L2 PySem.W
section
variable {T α β γ σ : Type} [Tg T]
def endF (fx : List Nat) (os : List OV) : Fl → Env → Rf := fun f ρ' => match f with
  | .rt o => .ok o (outsOf fx ρ' 0 os)
  | .nx => .ok (.d .none) (outsOf fx ρ' 0 os)
  | _ => .bad
theorem endF_rt (fx : List Nat) (os : List OV) (o : OV) (ρ' : Env) : endF fx os (.rt o) ρ' = .ok o (outsOf fx ρ' 0 os) := rfl
theorem endF_nx (fx : List Nat) (os : List OV) (ρ' : Env) : endF fx os .nx ρ' = .ok (.d .none) (outsOf fx ρ' 0 os) := rfl
theorem endF_bk (fx : List Nat) (os : List OV) (ρ' : Env) : endF fx os .bk ρ' = .bad := rfl
theorem endF_ct (fx : List Nat) (os : List OV) (ρ' : Env) : endF fx os .ct ρ' = .bad := rfl
theorem fn_eq {n np : Nat} {fx : List Nat} {m : M Fl} {os : List OV} {ρ : Env} (hl : os.length = np) (e : os.map some ++ List.replicate (n - np) none = ρ) : fnOf n np fx m os = rB (m ρ) (endF fx os) hE := by
  unfold fnOf
  rw [if_pos hl, e]
  cases m ρ with
  | ok f ρ' => cases f <;> rfl
  | ex ξ ρ' => rfl
  | bad => rfl
def pr (f : α) (ρ : Env) : Pr (α × Env) := .ok (f, ρ)
def cn : Fl → Fl
  | .ct => .nx
  | f => f
def stp (t : D → Env → Option Env) (b : M Fl) (x : D) (ρ : Env) : Pr (Fl × Env) := oB (t x ρ) fun ρ1 => rB (b ρ1) (fun f ρ2 => .ok (cn f, ρ2)) hE
@[simp] theorem cn_nx : cn .nx = .nx := rfl
@[simp] theorem cn_ct : cn .ct = .nx := rfl
@[simp] theorem cn_bk : cn .bk = .bk := rfl
@[simp] theorem cn_rt (o : OV) : cn (.rt o) = .rt o := rfl
def forS (b : D → σ → Pr σ) : List D → σ → Pr σ
  | [], s => .ok s
  | x :: xs, s => pB (b x s) fun s => forS b xs s
theorem rB_forGo (t : D → Env → Option Env) (b : M Fl) (x : D) (xs : List D) (ρ : Env) (k : Fl → Env → T) : rB (forGo t b (x :: xs) ρ) k hE = pB (stp t b x ρ) fun z => match z.1 with
    | .nx => rB (forGo t b xs z.2) k hE
    | .ct => rB (forGo t b xs z.2) k hE
    | .bk => k .nx z.2
    | .rt o => k (.rt o) z.2 := by
  rw [forGo_cons]
  unfold stp
  rw [pB_o]
  cases t x ρ with
  | none => rfl
  | some ρ1 =>
    rw [oB_some]
    show rB ((b ρ1).bind _) k hE = _
    rw [rB_bind]
    cases b ρ1 with
    | ok f ρ2 => cases f <;> rfl
    | ex ξ ρ2 => rfl
    | bad => rfl
theorem for_rB {t : D → Env → Option Env} {b : M Fl} {E : σ → Env} {pb : D → σ → Pr σ} (H : ∀ x s, stp t b x (E s) = pB (pb x s) fun s' => .ok (.nx, E s')) (k : Fl → Env → T) : ∀ xs s, rB (forGo t b xs (E s)) k hE = pB (forS pb xs s) fun s' => k .nx (E s')
  | [], s => rfl
  | x :: xs, s => by
    rw [rB_forGo, H, pB_p, forS, pB_p]
    congr
    funext s'
    exact for_rB H k xs s'
inductive Fo (σ : Type) where
  | nx (s : σ)
  | bk (s : σ)
  | rt (o : OV) (s : σ)
def foF (E : σ → Env) : Fo σ → Fl × Env
  | .nx s => (.nx, E s)
  | .bk s => (.bk, E s)
  | .rt o s => (.rt o, E s)
theorem foF_nx (E : σ → Env) (s : σ) : foF E (.nx s) = (.nx, E s) := rfl
theorem foF_bk (E : σ → Env) (s : σ) : foF E (.bk s) = (.bk, E s) := rfl
theorem foF_rt (E : σ → Env) (o : OV) (s : σ) : foF E (.rt o s) = (.rt o, E s) := rfl
def foB (z : Fo σ) (n : σ → T) (r : OV → σ → T) : T := match z with
  | .nx s => n s
  | .bk s => n s
  | .rt o s => r o s
@[simp] theorem foB_nx (s : σ) (n : σ → T) (r : OV → σ → T) : foB (.nx s) n r = n s := rfl
@[simp] theorem foB_rt (o : OV) (s : σ) (n : σ → T) (r : OV → σ → T) : foB (.rt o s) n r = r o s := rfl
theorem pB_fo (z : Fo σ) (n : σ → Pr α) (r : OV → σ → Pr α) (k : α → T) : pB (foB z n r) k = foB z (fun s => pB (n s) k) fun o s => pB (r o s) k := by cases z <;> rfl
theorem nB_fo (z : Fo σ) (n : σ → Pr α) (r : OV → σ → Pr α) (k : α → T) : nB (foB z n r) k = foB z (fun s => nB (n s) k) fun o s => nB (r o s) k := by cases z <;> rfl
def lF (r : Pr (Fo σ)) (rt : OV → σ → T) (k : σ → T) : T := pB r fun z => foB z k rt
theorem lF_d (r : Pr (Fo σ)) (rt : OV → σ → T) (k : σ → T) : lF r rt k = pB r fun z => foB z k rt := rfl
@[simp] theorem lF_nx (s : σ) (rt : OV → σ → T) (k : σ → T) : lF (.ok (.nx s)) rt k = k s := rfl
@[simp] theorem lF_rt (o : OV) (s : σ) (rt : OV → σ → T) (k : σ → T) : lF (.ok (.rt o s)) rt k = rt o s := rfl
def forF (b : D → σ → Pr (Fo σ)) : List D → σ → Pr (Fo σ)
  | [], s => .ok (.nx s)
  | x :: xs, s => pB (b x s) fun z => match z with
    | .nx s => forF b xs s
    | .bk s => .ok (.nx s)
    | .rt o s => .ok (.rt o s)
theorem for_rBF {t : D → Env → Option Env} {b : M Fl} {E : σ → Env} {pb : D → σ → Pr (Fo σ)} (H : ∀ x s, stp t b x (E s) = pB (pb x s) fun z => .ok (foF E z)) (k : Fl → Env → T) : ∀ xs s, rB (forGo t b xs (E s)) k hE = pB (forF pb xs s) fun z => foB z (fun s => k .nx (E s)) fun o s => k (.rt o) (E s)
  | [], s => rfl
  | x :: xs, s => by
    rw [rB_forGo, H, pB_p, forF, pB_p]
    congr
    funext z
    cases z with
    | nx s' => exact for_rBF H k xs s'
    | bk s' => rfl
    | rt o s' => rfl
def lst1 (vs : List Nat) (t : D → Env → Option Env) (tst : M Bool) (e : M D) (x : D) (ρ : Env) : Pr (Option D × Env) := oB (t x ρ) fun ρ1 => rB (tst ρ1) (fun b ρ2 => if b = true then rB (e ρ2) (fun y ρ3 => .ok (some y, wipeE ρ3 vs)) hN else .ok (none, wipeE ρ2 vs)) hN
def opC (o : Option D) (ys : List D) : List D := match o with
  | some y => y :: ys
  | none => ys
def lcP (pe : D → Pr (Option D)) : List D → Pr (List D)
  | [] => .ok []
  | x :: xs => nB (pe x) fun o => nB (lcP pe xs) fun ys => .ok (opC o ys)
def lcS (pe : D → σ → Pr (Option D × σ)) : List D → σ → Pr (List D × σ)
  | [], s => .ok ([], s)
  | x :: xs, s => nB (pe x s) fun o => nB (lcS pe xs o.2) fun z => .ok (opC o.1 z.1, z.2)
theorem rB_lcGo (vs : List Nat) (t : D → Env → Option Env) (tst : M Bool) (e : M D) (x : D) (xs : List D) (ρ : Env) (k : List D → Env → T) (h : Exc → Env → T) : rB (lcGo vs t tst e (x :: xs) ρ) k h = nB (lst1 vs t tst e x ρ) fun o => rB (lcGo vs t tst e xs o.2) (fun ys ρ' => k (opC o.1 ys) ρ') hN := by
  have hd : lcGo vs t tst e (x :: xs) ρ = match t x ρ with
    | none => .bad
    | some ρ1 => (tst ρ1).bindN fun b ρ2 => if b = true then (e ρ2).bindN fun y ρ3 => (lcGo vs t tst e xs (wipeE ρ3 vs)).bindN fun ys ρ4 => .ok (y :: ys) ρ4 else lcGo vs t tst e xs (wipeE ρ2 vs) := rfl
  have nx : ∀ (xs : List D) (ρ : Env) (h h' : Exc → Env → T) (k : List D → Env → T), rB (lcGo vs t tst e xs ρ) k h = rB (lcGo vs t tst e xs ρ) k h' := by
    intro xs
    induction xs with
    | nil => intros; rfl
    | cons x xs ih =>
      intro ρ h h' k
      have hd : lcGo vs t tst e (x :: xs) ρ = match t x ρ with
        | none => .bad
        | some ρ1 => (tst ρ1).bindN fun b ρ2 => if b = true then (e ρ2).bindN fun y ρ3 => (lcGo vs t tst e xs (wipeE ρ3 vs)).bindN fun ys ρ4 => .ok (y :: ys) ρ4 else lcGo vs t tst e xs (wipeE ρ2 vs) := rfl
      rw [hd]
      cases t x ρ with
      | none => rfl
      | some ρ1 =>
        show rB ((tst ρ1).bindN _) k h = rB ((tst ρ1).bindN _) k h'
        rw [rB_bindN, rB_bindN]
        congr
        funext b ρ2
        cases b with
        | true => show rB ((e ρ2).bindN _) k h = rB ((e ρ2).bindN _) k h'; rw [rB_bindN, rB_bindN]; congr; funext y ρ3; rw [rB_bindN, rB_bindN]; rfl
        | false => exact ih _ _ _ _
  rw [hd]
  unfold lst1
  cases t x ρ with
  | none => rfl
  | some ρ1 =>
    rw [oB_some]
    show rB ((tst ρ1).bindN _) k h = _
    rw [rB_bindN]
    cases tst ρ1 with
    | ok b ρ2 =>
      cases b with
      | true =>
        show rB ((e ρ2).bindN _) k h = nB (rB (e ρ2) _ hN) _
        rw [rB_bindN]
        cases e ρ2 with
        | ok y ρ3 =>
          show rB ((lcGo vs t tst e xs (wipeE ρ3 vs)).bindN _) k h = rB (lcGo vs t tst e xs (wipeE ρ3 vs)) _ hN
          rw [rB_bindN]
          rfl
        | ex ξ ρ3 => rfl
        | bad => rfl
      | false => exact nx _ _ _ _ _
    | ex ξ ρ2 => rfl
    | bad => rfl
theorem lc_rB {vs : List Nat} {t : D → Env → Option Env} {tst : M Bool} {e : M D} {ρ : Env} {pe : D → Pr (Option D)} (H : ∀ x, lst1 vs t tst e x ρ = nB (pe x) fun o => .ok (o, ρ)) : ∀ (xs : List D) (k : List D → Env → T) (h : Exc → Env → T), rB (lcGo vs t tst e xs ρ) k h = nB (lcP pe xs) fun ys => k ys ρ
  | [], k, h => rfl
  | x :: xs, k, h => by
    rw [rB_lcGo, H, nB_n, lcP, nB_n]
    congr
    funext o
    rw [nB_ok, lc_rB H xs, nB_n]
    rfl
theorem lc_rBS {vs : List Nat} {t : D → Env → Option Env} {tst : M Bool} {e : M D} {E : σ → Env} {pe : D → σ → Pr (Option D × σ)} (H : ∀ x s, lst1 vs t tst e x (E s) = nB (pe x s) fun o => .ok (o.1, E o.2)) : ∀ (xs : List D) (s : σ) (k : List D → Env → T) (h : Exc → Env → T), rB (lcGo vs t tst e xs (E s)) k h = nB (lcS pe xs s) fun z => k z.1 (E z.2)
  | [], s, k, h => rfl
  | x :: xs, s, k, h => by
    rw [rB_lcGo, H, nB_n, lcS, nB_n]
    congr
    funext o
    rw [nB_ok, lc_rBS H xs, nB_n]
    rfl
theorem rB_lc (vs : List Nat) (it : M (List D)) (t : D → Env → Option Env) (tst : M Bool) (e : M D) (ρ : Env) (k : List D → Env → T) (h : Exc → Env → T) : rB (mLc vs it t tst e ρ) k h = rB (it ρ) (fun xs ρ1 => if dataAt ρ1 vs = true then rB (lcGo vs t tst e xs (wipeE ρ1 vs)) (fun ys ρ2 => k ys (backE ρ1 vs ρ2)) hN else Tg.bad) h := by
  unfold mLc; rw [rB_bind]; congr; funext xs ρ1; rw [rB_i, rB_bindN]; rfl
theorem rB_lcN (c : FC) (it b : M (List D)) (ρ : Env) (k : List D → Env → T) (h : Exc → Env → T) : rB (mLcN c it b ρ) k h = rB (it ρ) (fun xs ρ1 => if dataAt ρ1 c.vs = true then rB (cLoop c b xs (wipeE ρ1 c.vs)) (fun ys ρ2 => k ys (backE ρ1 c.vs ρ2)) hN else Tg.bad) h := by
  unfold mLcN; rw [rB_bind]; congr; funext xs ρ1; rw [rB_i, rB_bindN]; rfl
theorem rB_cIn (c : FC) (it b : M (List D)) (ρ : Env) (k : List D → Env → T) (h : Exc → Env → T) : rB (cIn c it b ρ) k h = rB (it ρ) (fun xs ρ1 => rB (cLoop c b xs (wipeE ρ1 c.vs)) k h) hN := by
  unfold cIn; rw [rB_bindN]
theorem rB_cEnd (e : M D) (ρ : Env) (k : List D → Env → T) (h : Exc → Env → T) : rB (cEnd e ρ) k h = rB (e ρ) (fun y ρ1 => k [y] ρ1) hN := by
  unfold cEnd; rw [rB_bindN]; rfl
def szO (ys : List D) : Option (List D) := if ys.length ≤ sizeLine then some ys else none
theorem rB_lc2 (vs : List Nat) (it : M (List D)) (t : D → Env → Option Env) (tst : M Bool) (vs1 : List Nat) (it1 : M (List D)) (t1 : D → Env → Option Env) (tst1 : M Bool) (e : M D) (ρ : Env) (k : List D → Env → T) (h : Exc → Env → T) : rB (mLc2 vs it t tst vs1 it1 t1 tst1 e ρ) k h = rB (mLcN ⟨vs, t, tst⟩ it (cIn ⟨vs1, t1, tst1⟩ it1 (cEnd e)) ρ) (fun ys ρ1 => oB (szO ys) fun ys => k ys ρ1) h := by
  unfold mLc2; rw [rB_bind]; congr; funext ys ρ1
  unfold szO
  rw [rB_i]
  split <;> rfl
theorem rB_dc (vs : List Nat) (it : M (List D)) (t : D → Env → Option Env) (tst : M Bool) (x y : M D) (ρ : Env) (k : KD → Env → T) (h : Exc → Env → T) : rB (mDc vs it t tst x y ρ) k h = rB (mLcN ⟨vs, t, tst⟩ it (cEnd (mPairE x y)) ρ) (fun ys ρ1 => oB (szO ys) fun ys => k (kdsOf ys) ρ1) h := by
  unfold mDc; rw [rB_bind]; congr; funext ys ρ1
  unfold szO
  rw [rB_i]
  split <;> rfl
noncomputable def iB (c : Prop) (x : T) : T := by
  classical exact if c then x else Tg.bad
theorem iB_t {c : Prop} (h : c) (x : T) : iB c x = x := if_pos h
@[simp] theorem iB_True (x : T) : iB True x = x := if_pos trivial
theorem pB_iB (c : Prop) (x : Pr α) (k : α → T) : pB (iB c x) k = iB c (pB x k) := by
  by_cases h : c
  · rw [iB_t h, iB_t h]
  · unfold iB; rw [if_neg h, if_neg h]; rfl
theorem nB_iB (c : Prop) (x : Pr α) (k : α → T) : nB (iB c x) k = iB c (nB x k) := by
  by_cases h : c
  · rw [iB_t h, iB_t h]
  · unfold iB; rw [if_neg h, if_neg h]; rfl
theorem rB_tmp (i : Nat) (fb : List Nat) (b : M Fl) (ρ : Env) (k : Fl → Env → T) (h : Exc → Env → T) : rB (sTmp i fb b ρ) k h = oB (lO (gt ρ i)) fun xs => rB (b (ρ.set i (some (.d (.list xs))))) (fun f ρ' => sq f (iB (ρ'[i]? = some (some (.d (.list xs))) ∧ okSlots i fb 0 (ρ.set i (some (.d (.list xs)))) ρ') (k .nx (ρ'.set i (some (.lst xs))))) Tg.bad) hN := by
  unfold sTmp gt
  cases ρ[i]? with
  | none => rfl
  | some w => cases w with
    | none => rfl
    | some o => cases o with
      | lst xs =>
        simp only [lO, oB_some]
        cases b (ρ.set i (some (.d (.list xs)))) with
        | ok f ρ' =>
          cases f with
          | nx =>
            by_cases q : ρ'[i]? = some (some (.d (.list xs))) ∧ okSlots i fb 0 (ρ.set i (some (.d (.list xs)))) ρ'
            · simp only [rB, sq, iB_t q, if_pos q]
            · simp only [rB, sq, iB, if_neg q]
          | _ => rfl
        | ex ξ ρ' => rfl
        | bad => rfl
      | _ => rfl
end
section
variable {α σ : Type}
theorem forS_inv {b : D → σ → Pr σ} : ∀ {xs : List D} {s : σ} (I : Nat → σ → Prop), I 0 s → (∀ i x s, xs[i]? = some x → I i s → ∃ s', b x s = .ok s' ∧ I (i + 1) s') → ∃ s', forS b xs s = .ok s' ∧ I xs.length s'
  | [], s, I, h0, _ => ⟨s, rfl, h0⟩
  | x :: xs, s, I, h0, hs => by
    obtain ⟨s1, h2, h3⟩ := hs 0 x s rfl h0
    obtain ⟨s', h4, h5⟩ := forS_inv (xs := xs) (s := s1) (fun i => I (i + 1)) h3 fun i y s hy hp => hs (i + 1) y s (by simpa using hy) hp
    exact ⟨s', by rw [forS, h2]; exact h4, h5⟩
theorem forS_map {b : D → σ → Pr σ} {f : α → D} : ∀ {l : List α} {s : σ} (I : List α → σ → Prop), I [] s → (∀ pre a post s, l = pre ++ a :: post → I pre s → ∃ s', b (f a) s = .ok s' ∧ I (pre ++ [a]) s') → ∃ s', forS b (l.map f) s = .ok s' ∧ I l s'
  | l, s, I, h0, hs => by
    obtain ⟨s', h1, h2⟩ := forS_inv (b := b) (xs := l.map f) (s := s) (fun i s => I (l.take i) s) (by simpa using h0) fun i x s hx hI => by
      rw [List.getElem?_map] at hx
      obtain ⟨a, ha, rfl⟩ := Option.map_eq_some_iff.mp hx
      obtain ⟨hi, e⟩ := List.getElem?_eq_some_iff.mp ha
      have sp : l = l.take i ++ a :: l.drop (i + 1) := by rw [← e]; simp
      obtain ⟨s', k1, k2⟩ := hs _ _ _ s sp hI
      exact ⟨s', k1, by rw [List.take_add_one, ha]; exact k2⟩
    rw [List.length_map, List.take_length] at h2
    exact ⟨s', h1, h2⟩
theorem forF_inv {b : D → σ → Pr (Fo σ)} : ∀ {xs : List D} {s : σ} (I : Nat → σ → Prop) (R : Fo σ → Prop), I 0 s → (∀ s, I xs.length s → R (.nx s)) → (∀ i x s, xs[i]? = some x → I i s → (∃ s', b x s = .ok (.nx s') ∧ I (i + 1) s') ∨ (∃ s', b x s = .ok (.bk s') ∧ R (.nx s')) ∨ ∃ o s', b x s = .ok (.rt o s') ∧ R (.rt o s')) → ∃ z, forF b xs s = .ok z ∧ R z
  | [], s, I, R, h0, hn, _ => ⟨.nx s, rfl, hn s h0⟩
  | x :: xs, s, I, R, h0, hn, hs => by
    rcases hs 0 x s rfl h0 with ⟨s1, h2, h3⟩ | ⟨s1, h2, h3⟩ | ⟨o, s1, h2, h3⟩
    · obtain ⟨z, h4, h5⟩ := forF_inv (xs := xs) (s := s1) (fun i => I (i + 1)) R h3 hn fun i y s hy hp => hs (i + 1) y s (by simpa using hy) hp
      exact ⟨z, by rw [forF, h2]; exact h4, h5⟩
    · exact ⟨.nx s1, by rw [forF, h2]; rfl, h3⟩
    · exact ⟨.rt o s1, by rw [forF, h2]; rfl, h3⟩
theorem forF_all {b : D → σ → Pr (Fo σ)} : ∀ {xs : List D} {s : σ} (I : Nat → σ → Prop), I 0 s → (∀ i x s, xs[i]? = some x → I i s → ∃ s', b x s = .ok (.nx s') ∧ I (i + 1) s') → ∃ s', forF b xs s = .ok (.nx s') ∧ I xs.length s'
  | xs, s, I, h0, hs => by
    obtain ⟨z, h1, s', rfl, h2⟩ := forF_inv (b := b) (xs := xs) (s := s) I (fun z => ∃ s', z = .nx s' ∧ I xs.length s') h0 (fun s h => ⟨s, rfl, h⟩) fun i x s hx hI => .inl (hs i x s hx hI)
    exact ⟨s', h1, h2⟩
theorem lcP_map {pe : D → Pr (Option D)} {f : α → D} {g : α → D} : ∀ {l : List α}, (∀ a ∈ l, pe (f a) = .ok (some (g a))) → lcP pe (l.map f) = .ok (l.map g)
  | [], _ => rfl
  | a :: l, h => by
    rw [List.map_cons, lcP, h a List.mem_cons_self, nB_ok, lcP_map fun y hy => h y (List.mem_cons_of_mem _ hy)]
    rfl
theorem lcS_inv {pe : D → σ → Pr (Option D × σ)} {β : Type} {G : β → D} : ∀ {xs : List D} {s : σ} (I : Nat → List β → σ → Prop), I 0 [] s → (∀ i x ys s, xs[i]? = some x → I i ys s → ∃ y s', pe x s = .ok (some (G y), s') ∧ I (i + 1) (ys ++ [y]) s') → ∃ ys s', lcS pe xs s = .ok (ys.map G, s') ∧ I xs.length ys s'
  | xs, s, I, h0, hs => by
    have gen : ∀ (xs : List D) (i : Nat) (pre : List β) (s : σ), I i pre s → (∀ j x ys s, xs[j]? = some x → I (i + j) ys s → ∃ y s', pe x s = .ok (some (G y), s') ∧ I (i + j + 1) (ys ++ [y]) s') → ∃ ys s', lcS pe xs s = .ok (ys.map G, s') ∧ I (i + xs.length) (pre ++ ys) s' := by
      intro xs
      induction xs with
      | nil => intro i pre s h _; exact ⟨[], s, rfl, by simpa using h⟩
      | cons x xs ih =>
        intro i pre s h hs
        obtain ⟨y, s1, h1, h2⟩ := hs 0 x pre s rfl h
        obtain ⟨ys, s', h3, h4⟩ := ih (i + 1) (pre ++ [y]) s1 h2 fun j x ys s hx hI => by
          have := hs (j + 1) x ys s (by simpa using hx) (by rw [show i + (j + 1) = i + 1 + j by omega]; exact hI)
          rw [show i + (j + 1) + 1 = i + 1 + j + 1 by omega] at this
          exact this
        refine ⟨y :: ys, s', ?_, ?_⟩
        · rw [lcS, h1, nB_ok, h3]; rfl
        · rw [List.length_cons, show i + (xs.length + 1) = i + 1 + xs.length by omega]
          simpa using h4
    obtain ⟨ys, s', h1, h2⟩ := gen xs 0 [] s h0 fun j x ys s hx hI => by
      rw [Nat.zero_add] at hI ⊢
      exact hs j x ys s hx hI
    exact ⟨ys, s', h1, by simpa using h2⟩
end
end DL
end
section
set_option maxRecDepth 100000
set_option maxHeartbeats 4000000
namespace DL
open PySem PySem.Spec PyProof.Rows L2 PySem.W
theorem ite_b {T : Type} (b : Bool) (x y : T) : (if (!b) = true then x else y) = if b = true then y else x := by cases b <;> rfl
theorem if_tt {T : Type} (x y : T) : (if true = true then x else y) = x := rfl
theorem if_ff {T : Type} (x y : T) : (if false = true then x else y) = y := rfl
theorem if_T {T : Type} [d : Decidable True] (x y : T) : (@ite T True d x y) = x := if_pos trivial
theorem if_F {T : Type} [d : Decidable False] (x y : T) : (@ite T False d x y) = y := if_neg id
theorem tt_and (b : Bool) : (true && b) = b := rfl
theorem ff_or (b : Bool) : (false || b) = b := rfl
theorem not_ff : (!false) = true := rfl
theorem cont_n (v : Nat) : ([] : List Nat).contains v = false := rfl
theorem cont_c (a v : Nat) (l : List Nat) : (a :: l).contains v = ((v == a) || l.contains v) := List.contains_cons
theorem gt_getE (a : Option OV) (ρ : Env) (i : Nat) : (a :: ρ)[i + 1]? = ρ[i]? := List.getElem?_cons_succ
theorem gt_z (a : Option OV) (ρ : Env) : (a :: ρ)[0]? = some a := rfl
theorem set_s (a w : Option OV) (ρ : Env) (i : Nat) : List.set (a :: ρ) (i + 1) w = a :: List.set ρ i w := rfl
theorem set_z (a w : Option OV) (ρ : Env) : List.set (a :: ρ) 0 w = w :: ρ := rfl
theorem nil_app' (z : OV) : ([] : List OV) ++ [z] = [z] := rfl
theorem con_app' (a z : OV) (r : List OV) : (a :: r) ++ [z] = a :: (r ++ [z]) := rfl
theorem bind_some' {α β : Type} (a : α) (f : α → Option β) : (some a).bind f = f a := rfl
theorem dAt_nil (ρ : Env) : dataAt ρ [] = true := rfl
theorem dAt_d (ρ : Env) (v : Nat) (vs : List Nat) : dataAt ρ (v :: vs) = ((match gt ρ v with
    | some (.d _) => !vs.contains v
    | some _ => false
    | _ => true) && dataAt ρ vs) := by
  unfold gt
  rw [dataAt]
  cases ρ[v]? with
  | none => rfl
  | some w => cases w with
    | none => rfl
    | some o => cases o <;> rfl
theorem back_nil (ρ1 ρ2 : Env) : backE ρ1 [] ρ2 = ρ2 := rfl
theorem back_cons (ρ1 ρ2 : Env) (v : Nat) (vs : List Nat) : backE ρ1 (v :: vs) ρ2 = backE ρ1 vs (ρ2.set v (gt ρ1 v)) := rfl
theorem fst_d {α β : Type} (a : α) (b : β) : (a, b).1 = a := rfl
theorem snd_d {α β : Type} (a : α) (b : β) : (a, b).2 = b := rfl
abbrev RB1 := And.intro @oB_some <| And.intro @oB_none <| And.intro @pB_ok <| And.intro @pB_ex <| And.intro @pB_bad <| And.intro @nB_ok <| And.intro @nB_ex <| And.intro @nB_bad <| And.intro @cX_ok <| And.intro @cX_ex <| And.intro @cX_bad <| And.intro @tH_t <| And.intro @tH_f <| And.intro @bad_rf <| And.intro @ex_rf <| And.intro @bad_pr <| And.intro @ex_pr <| And.intro @pB_o <| And.intro @pB_p <| And.intro @pB_n <| And.intro @pB_x <| And.intro @pB_i <| And.intro @pB_h <| And.intro @nB_o <| And.intro @nB_p <| And.intro @nB_n <| And.intro @nB_x <| And.intro @nB_i <| And.intro @cB_d <| And.intro @gt_0 <| And.intro @gt_s <| And.intro @gt_tail <| And.intro @dO_d <| And.intro @lO_l <| And.intro @lk_d <| And.intro @lk_l <| And.intro @fz_d <| And.intro @fz_l <| And.intro @bO_b <| And.intro @iO_i <| And.intro @sO_s <| And.intro @foB_nx <| And.intro @foB_rt <| And.intro @pB_fo <| And.intro @nB_fo <| And.intro @lF_d <| And.intro @pB_iB @nB_iB
abbrev RB2 := And.intro @rB_ok <| And.intro @rB_ex <| And.intro @rB_bad <| And.intro @rB_i <| And.intro @rB_var <| And.intro @rB_C <| And.intro @rB_look <| And.intro @rB_frzV <| And.intro @rB_bin <| And.intro @rB_f1 <| And.intro @rB_chain <| And.intro @rB_mV <| And.intro @rB_andV <| And.intro @rB_orV <| And.intro @rB_notV <| And.intro @rB_tup <| And.intro @rB_lstF <| And.intro @rB_frz <| And.intro @rB_sl <| And.intro @rB_LM <| And.intro @rB_extend <| And.intro @rB_lenK <| And.intro @rB_txt <| And.intro @rB_dict <| And.intro @rB_dcF <| And.intro @rB_pairE <| And.intro @rB_nilP <| And.intro @rB_consP <| And.intro @rB_B <| And.intro @rB_and <| And.intro @rB_or <| And.intro @rB_not <| And.intro @rB_yes <| And.intro @rB_if <| And.intro @rB_nil <| And.intro @rB_cons <| And.intro @rB_fN <| And.intro @rB_binN <| And.intro @rB_items <| And.intro @rB_itemsP <| And.intro @rB_range1 <| And.intro @rB_range2 <| And.intro @rB_range3 <| And.intro @rB_zip <| And.intro @rB_enum <| And.intro @rB_enumA <| And.intro @rB_sortK <| And.intro @rB_setOf <| And.intro @rB_setC <| And.intro @rB_setOr <| And.intro @rB_bNo <| And.intro @rB_bTo <| And.intro @rB_D <| And.intro @rB_lst <| And.intro @rB_move <| And.intro @rB_dictO @rB_dcO
abbrev RB3 := And.intro @rB_call <| And.intro @rB_callT <| And.intro @rB_gNil <| And.intro @rB_gD <| And.intro @rB_gO <| And.intro @rB_gT <| And.intro @rB_gDt <| And.intro @rB_gOt <| And.intro @gath_nil <| And.intro @gath_d <| And.intro @gath_o <| And.intro @pb_nil <| And.intro @pb_d <| And.intro @pb_o <| And.intro @sq_nx <| And.intro @sq_rt <| And.intro @sq_bk <| And.intro @sq_ct <| And.intro @rB_seq <| And.intro @rB_sNil <| And.intro @rB_set <| And.intro @rB_setO <| And.intro @rB_ret <| And.intro @rB_drop <| And.intro @rB_put <| And.intro @rB_par <| And.intro @rB_tgt <| And.intro @rB_aug <| And.intro @rB_raise <| And.intro @rB_sK <| And.intro @rB_sKb <| And.intro @rB_for <| And.intro @rB_try <| And.intro @rB_h0 <| And.intro @rB_h1 <| And.intro @og_name <| And.intro @og_tup <| And.intro @og_star <| And.intro @og_nil <| And.intro @og_cons <| And.intro @twoO_2 <| And.intro @nilO_n <| And.intro @conO_c <| And.intro @endF_rt <| And.intro @endF_nx <| And.intro @endF_bk <| And.intro @endF_ct <| And.intro @cn_nx <| And.intro @cn_ct <| And.intro @cn_bk <| And.intro @cn_rt <| And.intro @foF_nx <| And.intro @foF_bk <| And.intro @foF_rt <| And.intro @rB_lc <| And.intro @rB_lcN <| And.intro @rB_cIn <| And.intro @rB_cEnd <| And.intro @rB_lc2 <| And.intro @rB_dc @rB_tmp
abbrev RB4 := And.intro @tt_and <| And.intro @ff_or <| And.intro @not_ff <| And.intro @cont_n <| And.intro @cont_c <| And.intro @if_T <| And.intro @if_F <| And.intro @ite_b <| And.intro @if_tt <| And.intro @if_ff <| And.intro @gt_getE <| And.intro @gt_z <| And.intro @set_s <| And.intro @set_z <| And.intro @nil_app' <| And.intro @con_app' <| And.intro @bind_some' <| And.intro @dAt_nil <| And.intro @dAt_d <| And.intro @back_nil <| And.intro @back_cons <| And.intro @wipeE_nil <| And.intro @wipeE_cons <| And.intro @fst_d @snd_d
abbrev RB := And.intro RB1 (And.intro RB2 (And.intro RB3 RB4))
end DL
end
section
set_option maxRecDepth 100000
set_option maxHeartbeats 2000000
namespace DL
open PySem PySem.Spec PyProof.Rows L2
def slA : Option Nat → Addr → Sl → Sl
  | none, _, σ => σ
  | some i, a, σ => σ.set i (some (.ref a))
def slE : Option Nat → Sl → Sl
  | none, σ => σ
  | some i, σ => σ.set i none
def endA (i : Option Nat) (D : Ends) : Ends := { nx := fun σ H => D.nx (slE i σ) H, rt := D.rt, bk := fun σ H => D.bk (slE i σ) H, ct := fun σ H => D.ct (slE i σ) H }
abbrev HTr := Value × Option Nat × (Addr → Value → Option Addr → TS)
def wMix (K : Frag) (Wo : WX) (D : Ends) : List HTr → WX
  | [] => Wo
  | h :: r => fun cls d σ H => ∃ b, PySem.W.exmOne K cls h.1 = some b ∧ (b = true → ∀ a, H a = none → h.2.2 a cls d (endA h.2.1 D) (slA h.2.1 a σ) H) ∧ (b = false → wMix K Wo D r cls d σ H)
inductive OnOk (X : Cx) : Option Str → Option Nat → Prop
  | no : OnOk X none none
  | as {n : Str} {i : Nat} (hN : X.N.Nodup) (hi : X.N[i]? = some n) (hl : X.env.kindOf n = some .local) : OnOk X (some n) (some i)
inductive HdsM (X : Cx) : List ExceptHandler → List HTr → Prop
  | nil : HdsM X [] []
  | cons {x : Str} {h : HTr} {b₀ : Stmt} {suite : List Stmt} {np pos' : Pos} {hds : List ExceptHandler} {l : List HTr} {on : Option Str} (hc : Names X x h.1) (ho : OnOk X on h.2.1)
      (hsu : ∀ (a : Addr) (oe : Obj) (cls : Value) (d : Option Addr) (pn : List (Addr × Obj)), Zc cls d oe → (∃ vs, oe.data = .fields vs) → PSs (X.suite a ((a, oe) :: pn)) (b₀ :: suite) (h.2.2 a cls d)) (r : HdsM X hds l) :
      HdsM X (.ExceptHandler (some (.Name x np)) on (b₀ :: suite) pos' :: hds) (h :: l)
section
variable {X : Cx} {Wo : WX} {D : Ends} {a : Addr} {B : Heap} {sI s' : Shared} {pins : List (Addr × Obj)} {σ : Sl} {H : Hp} {cls : Value} {d : Option Addr}
theorem mix_go (hs : X.stack = X.env :: X.outer) (hf : X.env.frame = some X.env.locals) (tk : Takes X Wo) (J : Inv X pins σ H sI) (nb : ∀ b o, sI.heap.get? b = some o → b ∉ frs X.stack → B.get? b = some o)
    (fl : HandSPX.FlyingZ B (X.env :: X.outer) a (Zc cls d) s'.heap) (up : sI.heap.UpToSlots s'.heap) (na : H a = none) (os : s'.os = sI.os) (ag : AllBare s'.gens) :
    ∀ {hds : List ExceptHandler} {l : List HTr}, HdsM X hds l → wMix X.K Wo D l cls d σ H → wpAny (model X.prog X.w) X.A (handleBy (.ref a) X.env hds) (L2.SP X pins D) X.xe s'
  | _, _, .nil, w => by
    refine wpAny_handleBy_nil ?_
    obtain ⟨_, _, _, _, _, T, _, _, he, _, hd, h1, _⟩ := id fl
    unfold PySem.passOn
    refine wpAny_bind (wpAny_field he hd h1 ?_)
    rw [if_neg (show ¬ ((Value.ref T == Value.none) = true) from by simp)]
    have q : wpAny (model X.prog X.w) X.A (setFlight (.ref a) X.env.frame) (fun _ s4 => wpAny (model X.prog X.w) X.A (throw (.ref a) : Sem Flow) (L2.SP X pins D) X.xe s4) X.xe s' := by
      rw [hf]
      refine HandSPX.setFlight_upZ fl fun h4 hh up4 => wpAny_throw (tk _ _ ?_)
      exact ⟨a, B, sI, pins, σ, H, cls, d, rfl, J, nb, up.trans up4, .inr (.inr (by rw [hs]; exact hh)), na, os, ag, w⟩
    first
      | exact wpAny_bind (wpAny_pure (wpAny_bind q))
      | exact wpAny_bind q
  | _, _, .cons (x := x) (h := h) (b₀ := b₀) (suite := suite) (np := np) (pos' := pos') hc ho hsu r, w => by
    obtain ⟨b, hb, yes, no⟩ := w
    have ok := J.ok
    obtain ⟨oe, vs, he, hz, hd⟩ := fl.there
    have apart : ∀ {g : Heap} {o : Obj} {vs : Array Value}, g.FunFrames B (X.env :: X.outer) → g.get? a = some o → o.data = .fields vs → a ≠ X.env.locals ∧ a ∉ X.fs := fun {g o vs} ff e dd => by
      have nm : a ∉ frs (X.env :: X.outer) := fun hm => by
        obtain ⟨_, o', e', hnf⟩ := ff.mem hm
        rw [e] at e'
        cases e'
        exact hnf _ dd
      refine ⟨fun z => nm (List.mem_filterMap.mpr ⟨X.env, List.mem_cons_self, by rw [hf, z]⟩), fun hm => ?_⟩
      obtain ⟨e, he, q⟩ := List.mem_filterMap.mp hm
      exact nm (List.mem_filterMap.mpr ⟨e, List.mem_cons_of_mem _ he, q⟩)
    obtain ⟨nL, nF⟩ := apart fl.2.2.1 he hd
    have S := (J.landed nb fl.1 up os ag).suite he hd na nL nF
    refine wpAny_handleBy_cons (codeAny_handlers_test ?_) (by intro q; cases q)
    have LT : PySem.W.Looks (model X.prog X.w) s'.heap (typeOf (.ref a)) cls := fun A Q E s k q => wpAny_typeOf_ref (k _ _ he) (by rw [hz.1]; exact q)
    have test : ∀ {Q : Value → Shared → Prop} {E : Value → Shared → Prop}, Q h.1 s' → wpAny (model X.prog X.w) (X.A.mark (some (.ref a))) (eval (.Name x np) X.env) Q E s' := fun {Q E} q => by
      obtain ⟨hg, hdb, hm | ⟨hm, hv, hnn⟩⟩ := hc
      · exact ld_glob (X := X.suite a ((a, oe) :: (X.pn ++ pins))) S hg hm q hdb
      · exact ld_blt (X := X.suite a ((a, oe) :: (X.pn ++ pins))) S hg hm hv q hnn hdb
    refine test ((PySem.W.exm_one (M := model X.prog X.w) S.kIn LT hb).here ?_)
    cases b with
    | false =>
      show wpAny _ X.A (handleBy (.ref a) X.env _) _ _ _
      exact mix_go hs hf tk J nb fl up na os ag r (no rfl)
    | true =>
      have w2 := yes rfl a na
      revert w2
      generalize h.2.1 = oi at ho
      cases ho with
      | no =>
        intro w2
        refine codeAny_handlers_suite (HandSPX.lands_againZ fl fun h4 fl4 up4 => ?_)
        obtain ⟨oe4, vs4, he4, hz4, hd4⟩ := fl4.there
        have S4 := (J.landed (s' := { s' with heap := h4 }) nb fl4.1 (up.trans up4) os ag).suite he4 hd4 na nL nF
        refine wpAny_mono ((hsu a oe4 cls d (X.pn ++ pins) hz4 ⟨_, hd4⟩).run [] _ _ H _ S4 w2) (fun f s6 z => ?_) (fun _ _ z => False.elim z)
        cases f with
        | ret u =>
          obtain ⟨v6, σ6, H6, S6, r6, q6⟩ := z
          exact ⟨_, _, _, S6.unsuite ok, r6, q6⟩
        | next => obtain ⟨σ6, H6, S6, q6⟩ := z; exact ⟨_, _, S6.unsuite ok, q6⟩
        | brk => obtain ⟨σ6, H6, S6, q6⟩ := z; exact ⟨_, _, S6.unsuite ok, q6⟩
        | cont => obtain ⟨σ6, H6, S6, q6⟩ := z; exact ⟨_, _, S6.unsuite ok, q6⟩
      | @as n i hN hi hl =>
        intro w2
        refine codeAny_handlers_suite_as (HandSPX.lands_againZ fl fun h4 fl4 up4 => ?_)
        obtain ⟨oe4, vs4, he4, hz4, hd4⟩ := fl4.there
        have S4 := (J.landed (s' := { s' with heap := h4 }) nb fl4.1 (up.trans up4) os ag).suite he4 hd4 na nL nF
        refine store_ok (X := X.suite a ((a, oe4) :: (X.pn ++ pins))) (v := .ref a) S4 hN hi (.inl hl) rfl (fun s5 S5 => ?_) (.inr hl)
        refine wpAny_mono ((hsu a oe4 cls d (X.pn ++ pins) hz4 ⟨_, hd4⟩).run [] s5 _ H _ S5 w2) (fun f s6 z => ?_) (fun _ _ z => False.elim z)
        have fin : ∀ {σ6 : Sl} {H6 : Hp} {Q : Shared → Prop}, Inv (X.suite a ((a, oe4) :: (X.pn ++ pins))) [] σ6 H6 s6 → (∀ s7, Inv X pins (σ6.set i none) H6 s7 → Q s7) →
            wpAny (model X.prog X.w) X.A (do bindName X.env n .none; unbindBehindTheSuite X.env n pos') (fun _ s7 => Q s7) X.xe s6 := fun S6 q => gone_ok (S6.unsuite ok) hN hi hl q
        cases f with
        | ret u =>
          obtain ⟨v6, σ6, H6, S6, r6, q6⟩ := z
          exact fin S6 fun s7 J7 => ⟨_, _, _, J7, r6, q6⟩
        | next => obtain ⟨σ6, H6, S6, q6⟩ := z; exact fin S6 fun s7 J7 => ⟨_, _, J7, q6⟩
        | brk => obtain ⟨σ6, H6, S6, q6⟩ := z; exact fin S6 fun s7 J7 => ⟨_, _, J7, q6⟩
        | cont => obtain ⟨σ6, H6, S6, q6⟩ := z; exact fin S6 fun s7 J7 => ⟨_, _, J7, q6⟩
theorem sp_ofTry {X : Cx} {pins : List (Addr × Obj)} {D : Ends} {W : WX} {xe : Value → Shared → Prop} {f : Flow} {s : Shared} (ok : X.Ok) (h : L2.SP (X.tr (X.pn ++ pins) xe) [] D f s) : L2.SP X pins D f s := by
  cases f with
  | ret u => obtain ⟨v, σ', H', J', r, q⟩ := h; exact ⟨v, σ', H', J'.ofTry ok, r, q⟩
  | next => obtain ⟨σ', H', J', q⟩ := h; exact ⟨σ', H', J'.ofTry ok, q⟩
  | brk => obtain ⟨σ', H', J', q⟩ := h; exact ⟨σ', H', J'.ofTry ok, q⟩
  | cont => obtain ⟨σ', H', J', q⟩ := h; exact ⟨σ', H', J'.ofTry ok, q⟩
theorem ps_try_mix {body : List Stmt} {h₀ : ExceptHandler} {hds : List ExceptHandler} {l : List HTr} {pos : Pos} {tb : WX → TS} (hs : X.stack = X.env :: X.outer) (hf : X.env.frame = some X.env.locals) (tk : Takes X Wo)
    (hb : ∀ (W : WX) (pn : List (Addr × Obj)) (xe : Value → Shared → Prop), Takes (X.tr pn xe) W → PassesOwn (model X.prog X.w) X.A X.env xe → PSs (X.tr pn xe) body (tb W))
    (hh : HdsM X (h₀ :: hds) l) : PS X (.Try body (h₀ :: hds) [] [] pos) (fun D σ H => tb (wMix X.K Wo D l) D σ H) := by
  refine ⟨fun pins s σ H D I h => ?_⟩
  have ok := I.ok
  refine wpAny_Try_except (wpAny_mono ((hb (wMix X.K Wo D l) (X.pn ++ pins) (fun e s₁ => wpAny (model X.prog X.w) X.A (noteFrame e X.env) (fun _ s₂ => wpAny (model X.prog X.w) X.A (setFlight e none) (fun _ s₃ =>
    wpAny (model X.prog X.w) X.A (handleBy e X.env (h₀ :: hds)) (L2.SP X pins D) X.xe s₃) X.xe s₂) X.xe s₁) (fun u s' xx => ?_) PassesOwn.looking).run [] s σ H D (I.toTry _) h) (fun f s1 z => ?_) (fun e s1 he => he))
  · obtain ⟨a, B, sI, pins', σ', H', cls, d, rfl, J', nb, up, sky, na, os, ag, w⟩ := xx
    have fr : X.A.frames = some (X.env :: X.outer) := by rw [ok.frames, hs]
    have sky2 : Sky B (X.env :: X.outer) a (Zc cls d) X.env.locals s'.heap := by rw [← hs]; exact sky
    show wpAny (model X.prog X.w) X.A (noteFrame (.ref a) X.env) _ _ _
    refine Sky.land Zc.steady fr hf sky2 fun h3 fl up3 => mix_go (s' := { s' with heap := h3 }) hs hf tk (J'.ofTry ok) nb fl (up.trans up3) na os ag hh w
  · have z2 : L2.SP X pins D f s1 := sp_ofTry (W := Wo) ok z
    cases f with
    | next => exact wpAny_execs_nil z2
    | brk => exact z2
    | cont => exact z2
    | ret u => exact z2
end
end DL
end
section
set_option maxRecDepth 100000
set_option maxHeartbeats 2000000
namespace DL
open PySem PySem.Spec PyProof.Rows L2
section
variable {K : Frag} {ca : Str → Addr} {F H : Hp}
mutual
theorem OwR.noxd : ∀ {v : V} {o : OV} {O : List Addr}, OwR K ca F H v o O → ∀ b ∈ O, ∀ fs, H b ≠ some (.xd fs)
  | _, _, _, .d _, b, hb, _ => by cases hb
  | _, _, _, .lst h _, b, hb, fs => by
    rw [List.mem_singleton.mp hb, h]
    exact fun z => by cases z
  | _, _, _, .dcK h _, b, hb, fs => by
    rw [List.mem_singleton.mp hb, h]
    exact fun z => by cases z
  | _, _, _, .dcT h _, b, hb, fs => by
    rw [List.mem_singleton.mp hb, h]
    exact fun z => by cases z
  | _, _, _, .obj h1 h2 r, b, hb, fs => by
    rcases List.mem_cons.mp hb with e | hb
    · rw [e, h1]; exact fun z => by cases z
    · rcases List.mem_cons.mp hb with e | hb
      · rw [e, h2]; exact fun z => by cases z
      · exact r.noxd b hb fs
theorem OwF.noxd : ∀ {fvs : List (Str × V)} {fs : List (Str × OV)} {O : List Addr}, OwF K ca F H fvs fs O → ∀ b ∈ O, ∀ gs, H b ≠ some (.xd gs)
  | _, _, _, .nil, b, hb, _ => by cases hb
  | _, _, _, .cons h r, b, hb, gs => by
    rcases List.mem_append.mp hb with hb | hb
    · exact h.noxd b hb gs
    · exact r.noxd b hb gs
end
theorem SlR.noxd : ∀ {σ : Sl} {ρ : Env} {O : List Addr}, SlR K ca F H σ ρ O → ∀ b ∈ O, ∀ fs, H b ≠ some (.xd fs)
  | _, _, _, .nil, b, hb, _ => by cases hb
  | _, _, _, .no r, b, hb, fs => r.noxd b hb fs
  | _, _, _, .so h r, b, hb, fs => by
    rcases List.mem_append.mp hb with hb | hb
    · exact h.noxd b hb fs
    · exact r.noxd b hb fs
theorem SlR.setS {v : Option V} : ∀ {i : Nat} {σ : Sl} {ρ : Env} {O : List Addr}, SlR K ca F H σ ρ O → (∀ o, ρ[i]? ≠ some (some o)) → SlR K ca F H (σ.set i v) ρ O
  | _, _, _, _, .nil, _ => .nil
  | 0, _, _, _, .no r, _ => .no r
  | i + 1, _, _, _, .no r, h => .no (r.setS fun o z => h o z)
  | 0, _, _, _, .so w r, h => absurd rfl (h _)
  | i + 1, _, _, _, .so w r, h => .so w (r.setS fun o z => h o z)
end
def cutI : Option Nat → Env → Env
  | none, ρ => ρ
  | some i, ρ => ρ.set i none
def notFx : Option Nat → List Nat → Bool
  | none, _ => true
  | some i, fx => !fx.contains i
theorem cut_no {ρ : Env} {i : Nat} (o : OV) : (ρ.set i none)[i]? ≠ some (some o) := fun z => by
  by_cases h : i < ρ.length
  · rw [List.getElem?_set_self h] at z; cases z
  · rw [List.getElem?_eq_none (by simpa using h)] at z; cases z
abbrev Ct.su (c : Ct) (F H : Hp) (O : List Addr) (σ : Sl) (i : Option Nat) : Ct := ⟨c.ca, F, H, O, (match i with | some i => i :: c.fx | none => c.fx), σ, fun _ _ _ _ => False⟩
section
variable {K : Frag} {c : Ct} {F H F1 H1 : Hp} {σ σ1 : Sl} {ρ ρ1 : Env} {O O1 : List Addr} {a : Addr}
theorem EnvR.setS (e : EnvR K c F H σ ρ O) {i : Nat} {v : Option V} (h : ∀ o, ρ[i]? ≠ some (some o)) (n : c.fx.contains i = false) : EnvR K c F H (σ.set i v) ρ O where
  sub := e.sub
  f0 := e.f0
  h0 := e.h0
  n0 := e.n0
  sl := e.sl.setS h
  nd := e.nd
  ow := e.ow
  fx := fun j hj => by
    rw [List.getElem?_set_ne (fun z => by
      subst z
      rw [List.contains_eq_mem] at n
      simp at n
      exact n hj)]
    exact e.fx j hj
theorem EnvR.cutA (e : EnvR K c F H σ ρ O) (i : Option Nat) (n : notFx i c.fx = true) (a : Addr) : ∃ O', EnvR K c F H (slA i a σ) (cutI i ρ) O' := by
  cases i with
  | none => exact ⟨O, e⟩
  | some i =>
    obtain ⟨O', _, e1⟩ := e.kill1 i
    exact ⟨O', e1.setS (fun o => cut_no o) (by simpa [notFx] using n)⟩
theorem EnvR.cutE (e : EnvR K c F H σ ρ O) (i : Option Nat) (n : notFx i c.fx = true) : ∃ O', (∀ b ∈ O', b ∈ O) ∧ EnvR K c F H (slE i σ) (cutI i ρ) O' := by
  cases i with
  | none => exact ⟨O, fun _ h => h, e⟩
  | some i =>
    obtain ⟨O', h, e1⟩ := e.kill1 i
    exact ⟨O', h, e1.setS (fun o => cut_no o) (by simpa [notFx] using n)⟩
theorem EnvR.selfSu (e : EnvR K c F H σ ρ O) (i : Option Nat) : EnvR K (c.su F H O σ i) F H σ ρ O :=
  ⟨e.sub, Same.refl _, fun b o q _ => q, fun b _ _ q => q, e.sl, e.nd, fun p hp => ⟨(e.ow p hp).1, .inl hp⟩, fun i _ => rfl⟩
theorem EnvR.toAt {i : Option Nat} (b : EnvR K (c.su F1 H1 O1 σ1 i) F H σ ρ O) : EnvR K (c.at F1 H1 O1 σ1) F H σ ρ O :=
  ⟨b.sub, b.f0, b.h0, b.n0, b.sl, b.nd, b.ow, fun j hj => b.fx j (by cases i with | none => exact hj | some i => exact List.mem_cons_of_mem _ hj)⟩
theorem ends_su {i : Option Nat} {Dn : Ends} {f : Fl} {ρ' : Env} (n : notFx i c.fx = true) (e : EnvR K c F1 H1 σ1 ρ1 O1) (h : PS' K c Dn f (cutI i ρ')) : PS' K (c.su F1 H1 O1 σ1 i) (endA i Dn) f ρ' := by
  cases f with
  | nx => exact fun σ' F' H' O' e' => by obtain ⟨O2, _, e2⟩ := (e.trans e'.toAt).cutE i n; exact h _ F' H' O2 e2
  | bk => exact fun σ' F' H' O' e' => by obtain ⟨O2, _, e2⟩ := (e.trans e'.toAt).cutE i n; exact h _ F' H' O2 e2
  | ct => exact fun σ' F' H' O' e' => by obtain ⟨O2, _, e2⟩ := (e.trans e'.toAt).cutE i n; exact h _ F' H' O2 e2
  | rt o =>
      intro σ' F' H' O' A v e' r ap
      obtain ⟨O2, h2, e2⟩ := (e.trans e'.toAt).cutE i n
      have ap1 : Apart c F' A O' := Apart.trans e (b := (⟨ap.nd, ap.ow⟩ : Apart (c.at F1 H1 O1 σ1) F' A O'))
      exact h _ F' H' O2 A v e2 r (ap1.less h2 e2.nd)
end
structure HdX where
  cv : Value
  isa : ECls → Option Bool
  ix : Option Nat
  m : Exc → M Fl
abbrev HP := (ECls → Option Bool) × Option Nat × (Exc → M Fl)
def HdX.p (h : HdX) : HP := (h.isa, h.ix, h.m)
def cutR (i : Option Nat) : Res Fl → Res Fl
  | .ok f ρ => .ok f (cutI i ρ)
  | _ => .bad
def tryX : List HP → Exc → M Fl
  | [], ξ => fun ρ => .ex ξ ρ
  | h :: r, ξ => fun ρ => match h.1 ξ.c with
    | some true => cutR h.2.1 (h.2.2 ξ (cutI h.2.1 ρ))
    | some false => tryX r ξ ρ
    | none => .bad
def sTryX (b : M Fl) (hs : List HP) : M Fl := fun ρ => match b ρ with
  | .ok f ρ1 => .ok f ρ1
  | .ex ξ ρ1 => tryX hs ξ ρ1
  | .bad => .bad
structure SuF (K : Frag) (c : Ct) (i : Option Nat) (a : Addr) (cls : Value) (d : Option Addr) (ξ : Exc) : Prop where
  nm : ∀ j, i = some j → j ∈ c.fx ∧ (c.σ[j]? = some (some (.ref a)) ∨ c.σ[j]? = none)
  xr : XR K c.ca c.F c.H cls d ξ
  no : ∀ b ∈ c.O, ∀ fs, c.H b ≠ some (.xd fs)
inductive HsX (X : Cx) (c : Ct) : List ExceptHandler → List HdX → Prop
  | nil : HsX X c [] []
  | cons {x : Str} {h : HdX} {b₀ : Stmt} {suite : List Stmt} {np pos' : Pos} {hds : List ExceptHandler} {l : List HdX} {on : Option Str} (hc : Names X x h.cv) (ho : OnOk X on h.ix) (nf : notFx h.ix c.fx = true)
      (hi : ∀ e b, h.isa e = some b → PySem.W.exmOne X.K (ecV c.ca e) h.cv = some b)
      (hsu : ∀ (a : Addr) (oe : Obj) (cls : Value) (d : Option Addr) (pn : List (Addr × Obj)) (F H : Hp) (O : List Addr) (σ : Sl) (ξ : Exc), Zc cls d oe → (∃ vs, oe.data = .fields vs) → SuF X.K (c.su F H O σ h.ix) h.ix a cls d ξ →
        PSs (X.suite a ((a, oe) :: pn)) (b₀ :: suite) (ts X.K (c.su F H O σ h.ix) (h.m ξ))) (r : HsX X c hds l) :
      HsX X c (.ExceptHandler (some (.Name x np)) on (b₀ :: suite) pos' :: hds) (h :: l)
def hdTX (K : Frag) (c : Ct) (l : List HdX) : List HTr := l.map fun h => (h.cv, h.ix, fun a cls d D σ H => ∃ F O ξ, SuF K (c.su F H O σ h.ix) h.ix a cls d ξ ∧ ts K (c.su F H O σ h.ix) (h.m ξ) D σ H)
section
variable {X : Cx} {c : Ct} {body : List Stmt} {hds : List ExceptHandler} {h₀ : ExceptHandler} {l : List HdX} {b : M Fl} {pos : Pos}
theorem hsx_ok : ∀ {hds : List ExceptHandler} {l : List HdX}, HsX X c hds l → HdsM X hds (hdTX X.K c l)
  | _, _, .nil => .nil
  | _, _, .cons hc ho nf hi hsu r => .cons hc ho (fun a oe cls d pn z1 z2 => ⟨fun pins s σ H D I ⟨F, O, ξ, sf, q⟩ => (hsu a oe cls d pn F H O σ ξ z1 z2 sf).run pins s σ H D I q⟩) (hsx_ok r)
theorem hsx_many : ∀ {hds : List ExceptHandler} {l : List HdX}, HsX X c hds l → ∀ {Dn : Ends} {ξ : Exc} {ρ : Env} {σ : Sl} {F H : Hp} {O : List Addr} {cls : Value} {d : Option Addr}, EnvR X.K c F H σ ρ O → XR X.K c.ca F H cls d ξ → (tryX (l.map HdX.p) ξ ρ).post (PS' X.K c Dn) (PXs X.K c) →
    wMix X.K c.W Dn (hdTX X.K c l) cls d σ H
  | _, _, .nil, Dn, ξ, ρ, σ, F, H, O, cls, d, e, x, h => h σ F H O cls d e x
  | _, _, .cons (h := hd) hc ho nf hi hsu r, Dn, ξ, ρ, σ, F, H, O, cls, d, e, x, h => by
    have h : (match hd.isa ξ.c with
      | some true => cutR hd.ix (hd.m ξ (cutI hd.ix ρ))
      | some false => tryX (List.map HdX.p _) ξ ρ
      | none => .bad).post (PS' X.K c Dn) (PXs X.K c) := h
    cases q : hd.isa ξ.c with
    | none => rw [q] at h; exact h.elim
    | some b =>
      rw [q] at h
      refine ⟨b, by rw [x.1]; exact hi _ _ q, fun hb a ha => ?_, fun hb => ?_⟩
      · subst hb
        obtain ⟨O1, e1⟩ := e.cutA hd.ix nf a
        refine ⟨F, O1, ξ, ⟨fun j hj => ?_, x, fun b hb fs => e1.sl.noxd b hb fs⟩, F, cutI hd.ix ρ, O1, e1.selfSu _, ?_⟩
        · show j ∈ (match hd.ix with | some i => i :: c.fx | none => c.fx) ∧ ((slA hd.ix a σ)[j]? = some (some (.ref a)) ∨ (slA hd.ix a σ)[j]? = none)
          rw [hj]
          refine ⟨List.mem_cons_self, ?_⟩
          by_cases hl : j < σ.length
          · exact .inl (List.getElem?_set_self hl)
          · exact .inr (List.getElem?_eq_none (by show (List.set σ j _).length ≤ j; rw [List.length_set]; omega))
        · have h : (cutR hd.ix (hd.m ξ (cutI hd.ix ρ))).post (PS' X.K c Dn) (PXs X.K c) := h
          cases r : hd.m ξ (cutI hd.ix ρ) with
          | ok f ρ1 => rw [r] at h; exact ends_su nf e1 h
          | ex _ _ => rw [r] at h; exact h.elim
          | bad => rw [r] at h; exact h.elim
      · subst hb
        exact hsx_many r e x h
theorem sv_tryX (hs : X.stack = X.env :: X.outer) (hf : X.env.frame = some X.env.locals) (tk : Takes X c.W)
    (hb : ∀ (W : WX) (pn : List (Addr × Obj)) (xe : Value → Shared → Prop), Takes (X.tr pn xe) W → PassesOwn (model X.prog X.w) X.A X.env xe → PSs (X.tr pn xe) body (ts X.K (c.wish W) b))
    (hh : HsX X c (h₀ :: hds) l) {l2 : List HP} (hl : l.map HdX.p = l2 := by rfl) : PS X (.Try body (h₀ :: hds) [] [] pos) (ts X.K c (sTryX b l2)) := (ps_try_mix hs hf tk (tb := fun W => ts X.K (c.wish W) b) hb (hsx_ok hh)).imp fun Dn σ H ⟨F, ρ, O, ev, h⟩ => by
  refine ⟨F, ρ, O, ev.wish, ?_⟩
  unfold sTryX at h
  cases r : b ρ with
  | bad => rw [r] at h; exact h.elim
  | ok f ρ1 =>
    rw [r] at h
    cases f with
    | nx => exact fun σ' F' H' O' e' => h σ' F' H' O' e'.unwish
    | bk => exact fun σ' F' H' O' e' => h σ' F' H' O' e'.unwish
    | ct => exact fun σ' F' H' O' e' => h σ' F' H' O' e'.unwish
    | rt o => exact fun σ' F' H' O' A v e' r' a' => h σ' F' H' O' A v e'.unwish r' ⟨a'.nd, a'.ow⟩
  | ex ξ ρ1 =>
    rw [r] at h
    exact fun σ' F' H' O' cls d e' x => hsx_many hh e'.unwish x (by rw [hl]; exact h)
end
def xfO (ys : List Str) (ξ : Exc) (f : Str) : Option D := match ξ.c with
  | .own y => if y ∈ ys then ξ.fs.lookup f else none
  | .blt _ => none
def mXf (ys : List Str) (ξ : Exc) (f : Str) : M D := fun ρ => ofO (xfO ys ξ f) ρ
theorem xr_look {K : Frag} {F : Hp} {f : Str} {x : D} : ∀ {fvs : List (Str × V)} {fs : List (Str × D)}, fvs.map (·.1) = fs.map (·.1) → RpAll K F (fvs.map (·.2)) (fs.map (·.2)) → fs.lookup f = some x → ∃ v, fvs.lookup f = some v ∧ Rp K F v x
  | [], [], _, _, h => by cases h
  | [], _ :: _, h, _, _ => by cases h
  | _ :: _, [], h, _, _ => by cases h
  | (g, v) :: r, (g', y) :: s, h, hr, hl => by
    have h1 : g = g' ∧ r.map (·.1) = s.map (·.1) := by simpa using h
    obtain ⟨rfl, h1⟩ := h1
    cases hr with
    | cons r1 r2 =>
      rw [List.lookup_cons] at hl ⊢
      cases e : f == g with
      | true =>
        rw [e] at hl
        cases hl
        exact ⟨v, rfl, r1⟩
      | false =>
        rw [e] at hl
        exact xr_look h1 r2 hl
section
variable {X : Cx} {c : Ct} {a : Addr} {oe : Obj} {cls : Value} {d : Option Addr} {pn : List (Addr × Obj)} {ξ : Exc} {pos pos' : Pos} {f x : Str}
theorem se_xf {i : Nat} {ys : List Str} (T : ∀ y ∈ ys, XfC X.K (c.ca y) ∧ PySem.W.findIn X.K (.ref (c.ca y)) f = some none) (hz : Zc cls d oe) (hf : ∃ vs, oe.data = .fields vs) (S : SuF X.K c (some i) a cls d ξ)
    (hN : X.N[i]? = some x) (hv : Vis X.env.scope x) (hd : (x == ("__debug__" : Str)) = false) (hcd : (x == ("__classdict__" : Str)) = false) :
    PE (X.suite a ((a, oe) :: pn)) (.Attribute (.Name x pos) f pos') (te X.K c false true (mXf ys ξ f)) := by
  refine ⟨fun pins s σ H Q I h => ?_⟩
  obtain ⟨F, ρ, O, e, h⟩ := h
  obtain ⟨y, hy, h2⟩ := post_ofO h
  unfold xfO at hy
  split at hy
  case h_2 => cases hy
  case h_1 z hz1 =>
    split at hy
    case isFalse => cases hy
    case isTrue hm =>
      obtain ⟨T1, T2⟩ := T z hm
      have xr := S.xr
      obtain ⟨x1, x2⟩ := xr
      have ne : ξ.fs ≠ [] := fun q => by rw [q] at hy; cases hy
      obtain ⟨dd, fvs, ed, eH, k1, k2⟩ := x2 ne
      obtain ⟨v, hv1, rv⟩ := xr_look k1 k2 hy
      have ec : cls = .ref (c.ca z) := by rw [x1, hz1]; rfl
      have hH : H dd = some (.xd fvs) := e.h0 dd _ eH fun q => S.no dd q fvs eH
      refine (pe_xf (te := fun σ H Q => ∃ v, σ[i]? = some (some v) ∧ Q v H) T1 T2 hz hf ((pe_var (X := X.suite a ((a, oe) :: pn)) (i := i) hN hv hd hcd).imp fun σ H Q q => q)).run pins s σ H Q I ?_
      obtain ⟨hi, hs⟩ := S.nm i rfl
      rcases hs with hs | hs
      · refine ⟨.ref a, by rw [e.fx i hi]; exact hs, rfl, ec, dd, fvs, v, ed, hH, hv1, h2 F H O v e (Same.refl _) (fun _ => Same.refl _) (rv.mono e.f0)⟩
      · exfalso
        have q := e.fx i hi
        rw [hs] at q
        have := List.getElem?_eq_none_iff.mp q
        have l : σ.length = X.N.length := I.len
        have := (List.getElem?_eq_some_iff.mp hN).1
        omega
end
end DL
end
section
set_option maxRecDepth 100000
set_option maxHeartbeats 2000000
namespace DL
open PySem PySem.Spec PyProof.Rows L2
structure XbC (K : Frag) (S : Addr) : Prop where
  ga : PySem.W.specialIn K (.ref S) "__getattribute__" = some (some (.builtin "type.__getattribute__"))
  rd : PySem.W.readsIn K S (.type "type") = true
  fi : PySem.W.findCls K (.ref S) (.type "type") "__init__" = some (.val (.builtin "ValueError.__init__"))
section
variable {X : Cx} {e : Expr} {es : List Expr} {ta : TA} {x : Str} {S : Addr} {p1 p2 pos : Pos}
theorem pe_oinit {pl : Sem Bool} (T : XbC X.K S) (hg : Gl X x) (hm : X.mg x = some (.ref S)) (hdb : (x == ("__debug__" : Str)) = false) (ha : PA X (e :: es) ta)
    (hc : eval (.Call (.Attribute (.Name x p1) "__init__" p2) (e :: es) [] pos) X.env = (do
      let ov ← eval (.Name x p1) X.env
      standAt p2.atName
      let (f, first) ← holding [ov] (getMethod ov "__init__" pl)
      callWith pos f first (backTo pos (starEach (e :: es) X.env)) (backToKw pos (keywordEach [] X.env))) := by rfl)
    (he : starEach (e :: es) X.env = (false, eval e X.env) :: starEach es X.env := by rfl) (hpl : (backTo pos (starEach es X.env)).any (·.1) = false := by rfl) :
    PE X (.Call (.Attribute (.Name x p1) "__init__" p2) (e :: es) [] pos) (tVeI X.K ta) := by
  refine ⟨fun pins s σ H Q I h => ?_⟩
  refine PySem.W.methodCall_KW (ld_glob I hg hm ?_ hdb) hc
  refine PySem.W.method_cls I.kIn T.ga (PySem.W.cls_value I.kIn T.rd T.fi rfl ?_)
  show wpAny _ _ (callWith pos (Value.builtin "ValueError.__init__") [] (backTo pos (starEach (e :: es) X.env)) []) _ _ _
  refine callWith_method1 (thn (ha.run pos pins _ σ H _ (I.tok _) h) fun us s1 ⟨vs, H1, I1, r1, a, C, ws, ev, hl, T1, ea, q⟩ => ?_) he hpl
  subst ev
  cases r1 with
  | @cons _ u0 _ ur ra rw' =>
    obtain rfl : u0 = Value.ref a := ra
    have hlen : ur.length ≤ sizeLine := by
      rw [← Paired.length rw', sizeLine_eq]
      omega
    exact oinit_ok T1 I1 ea hlen fun s' J => ⟨.non, H1, J, rfl, q⟩
end
def spI (C : Addr) (gs : List Str) : Sp := fun vs H Q _ => ∃ (a : Addr) (ys : List V), vs = .ref a :: ys ∧ ys.length = gs.length ∧ H a = some (exo a C none) ∧
  ∀ dx H', H dx = none → dx ≠ a → H' a = some (exo a C (some dx)) → H' dx = some (exd dx (gs.zip ys).reverse) → (∀ b, b ≠ a → b ≠ dx → H' b = H b) → Q .non H'
section
variable {P : Program} {w : World} {K : Frag} {mg : Str → Option Value} {base : Heap} {x qual g g2 : Str} {params : Arguments} {body : List Stmt} {scope : Scope} {dvs : List V} {kws : List (Str × V)} {f C : Addr} {fd : FuncData} {k : Nat} {m : V}
theorem fn_init1 (Fd : FunD K x qual params body scope dvs kws f fd) (S : FnScope ["self", g] ["self", g] scope) (T : OexC K C) (no : PySem.W.findIn K (.ref C) g = some none)
    (hb : ∀ (cdv : Value) (A : Around) (outer : List PySem.Env) (s : Shared) (H : Hp) (E : XK), PSs (cxOf (L2.CX P w) P w K mg base ["self", g] qual scope f cdv A outer s H E) body (tSeq (tDrop (tVeI K (tCons (tVar 0) (tCons (tC m) tNil)))) (tOst K g (tVar 0) (tVar 1)))) :
    FnOk P w K mg base (L2.CX P w) (k + 1) f fd ["self", g] (spI C [g]) := by
  refine Fd.ok S (fun vs H Q E h => ?_) fun cdv A outer s H vs Q E hr h => ⟨_, hb cdv A outer s H E, ?_⟩
  · obtain ⟨a, ys, rfl, hl, _⟩ := h
    rw [List.length_cons, hl] <;> rfl
  · obtain ⟨a, ys, rfl, hl, ea, q⟩ := h
    match ys, hl with
    | [y], _ =>
      refine ⟨.ref a, rfl, a, C, [m], rfl, by simp, T, ea, ⟨y, rfl, .ref a, rfl, a, C, rfl, T, no, .inl ⟨ea, fun dx hd ne => ?_⟩⟩⟩
      refine q dx _ hd ne upd_same ?_ fun b h1 h2 => ?_
      · rw [upd_ne ne, upd_same] <;> rfl
      · rw [upd_ne h1, upd_ne h2]
end
structure XnC (K : Frag) (C fI : Addr) : Prop where
  T : OexC K C
  iC : PySem.W.findIn K (.ref C) "__init__" = some (some (.ref fI))
  tI : PySem.W.typeIn K (.ref fI) = some (.type "function")
def avD : List AV → Option (List D)
  | [] => some []
  | .d x :: r => (avD r).map (x :: ·)
  | .o _ :: _ => none
def sRaiseX (y : Str) (gs : List Str) (m : M (List AV)) : M Fl := fun ρ => (m ρ).bind fun as ρ1 => match avD as with
  | some xs => if xs.length = gs.length then .ex ⟨.own y, (gs.zip xs).reverse⟩ ρ1 else .bad
  | none => .bad
theorem avD_ok {K : Frag} {F : Hp} {σ : Sl} : ∀ {vs : List V} {as : List AV} {xs : List D}, AvAll K F σ vs as → avD as = some xs → RpAll K F vs xs
  | _, _, _, .nil, h => by cases h; exact .nil
  | _, _, _, .d (as := as) r h, e => by
    unfold avD at e
    cases q : avD as with
    | none => rw [q] at e; cases e
    | some zs =>
      rw [q] at e
      cases e
      exact .cons r (avD_ok h q)
  | _, _, _, .o _ _, e => by cases e
theorem rpAll_len {K : Frag} {F : Hp} : ∀ {vs : List V} {xs : List D}, RpAll K F vs xs → vs.length = xs.length
  | _, _, .nil => rfl
  | _, _, .cons _ h => by rw [List.length_cons, List.length_cons, rpAll_len h]
theorem zip_snd {α : Type} : ∀ {gs : List Str} {ys : List α}, ys.length = gs.length → (gs.zip ys).map (·.2) = ys
  | [], [], _ => rfl
  | _ :: gs, _ :: ys, h => by
    rw [List.zip_cons_cons, List.map_cons, zip_snd (gs := gs) (by simpa using h)]
theorem zip_fst {α : Type} : ∀ {gs : List Str} {ys : List α}, ys.length = gs.length → (gs.zip ys).map (·.1) = gs
  | [], [], _ => rfl
  | _ :: gs, _ :: ys, h => by
    rw [List.zip_cons_cons, List.map_cons, zip_fst (gs := gs) (by simpa using h)]
section
variable {X : Cx} {c : Ct} {CX : CXT} {C fI : Addr} {fd : FuncData} {ps gs : List Str} {k : Nat} {x y : Str} {e : Expr} {es : List Expr} {m : M (List AV)} {p pos pos' : Pos}
theorem sv_raiseX (hc : X.calm = true) (tk : Takes X c.W) (N : XnC X.K C fI) (F1 : FnOk X.prog X.w X.K X.mg X.base CX k fI fd ps (spI C gs)) (hr : Room (k + 1) X.A) (hb : Binds X.K fd ps []) (hx : Passes CX X (fun _ _ _ => False))
    (gC : X.mg x = some (.ref C)) (hca : c.ca y = C) (hl : gs.length ≤ 1000) (ha : PA X (e :: es) (tg X.K c m)) (hg : Gl X x := by rfl) (hdb : (x == ("__debug__" : Str)) = false := by decide)
    (he : starEach (e :: es) X.env = (false, eval e X.env) :: starEach es X.env := by rfl) (hpl : (backTo pos (starEach es X.env)).any (·.1) = false := by rfl) :
    PS X (.Raise (some (.Call (.Name x p) (e :: es) [] pos)) none pos') (ts X.K c (sRaiseX y gs m)) := (ps_raise hc tk (pmk_oex N.T N.iC N.tI F1 hr hb .nil hx hg gC ha hdb he hpl)).imp fun Dn σ H ⟨F, ρ, O, ev, h⟩ => by
  refine ⟨F, ρ, O, ev, Res.post_imp (Res.post_bind h) (fun as ρ1 h1 F1 H1 O1 vs e1 s1 av => ?_) fun ξ ρ1 h1 => h1 σ⟩
  have h1 : (match avD as with
    | some xs => if xs.length = gs.length then Res.ex ⟨.own y, (gs.zip xs).reverse⟩ ρ1 else .bad
    | none => .bad : Res Fl).post (PS' X.K c Dn) (PXs X.K c) := h1
  cases q : avD as with
  | none => rw [q] at h1; exact h1.elim
  | some xs =>
    rw [q] at h1
    have rp := avD_ok av q
    by_cases hn : xs.length = gs.length
    · have h1 : (if xs.length = gs.length then Res.ex ⟨.own y, (gs.zip xs).reverse⟩ ρ1 else .bad : Res Fl).post (PS' X.K c Dn) (PXs X.K c) := h1
      rw [if_pos hn] at h1
      have lv : vs.length = gs.length := (rpAll_len rp).trans hn
      refine ⟨by rw [lv]; exact hl, fun a na => ⟨a, vs, by rw [List.append_nil], lv, upd_same, fun dx H' hd ne ea ed ot => ?_⟩⟩
      rw [upd_ne ne] at hd
      refine ⟨rfl, dx, _, ea, ed, hd, ?_⟩
      have eq : upd (del H' a) dx (.xd (gs.zip vs).reverse) = upd H1 dx (.xd (gs.zip vs).reverse) := by
        funext b
        by_cases hbd : b = dx
        · subst hbd; rw [upd_same, upd_same]
        · rw [upd_ne hbd, upd_ne hbd]
          by_cases hba : b = a
          · subst hba; rw [del_same, na]
          · rw [del_ne hba, ot b hba hbd, upd_ne hba]
      rw [eq]
      refine h1 σ F1 _ O1 (.ref C) (some dx) (e1.new (New.own e1.sub hd _)) ⟨by show _ = Value.ref (c.ca y); rw [hca], fun _ => ⟨dx, _, rfl, upd_same, ?_, ?_⟩⟩
      · rw [List.map_reverse, List.map_reverse, zip_fst lv, zip_fst hn]
      · rw [List.map_reverse, List.map_reverse, zip_snd lv, zip_snd hn]
        exact rpAll_rev rp
    · have h1 : (if xs.length = gs.length then Res.ex ⟨.own y, (gs.zip xs).reverse⟩ ρ1 else .bad : Res Fl).post (PS' X.K c Dn) (PXs X.K c) := h1
      rw [if_neg hn] at h1
      exact h1.elim
end
end DL
end
section
set_option maxRecDepth 100000
set_option maxHeartbeats 2000000
namespace DL
open PySem PySem.Spec PyProof.Rows L2
def oexB (K : Frag) (C : Addr) : Bool := (match K.lookup C with
  | some ⟨.type t, _, .cls cd, sl⟩ => decide (t = "type") && (match cd.mro, sl.toList with
    | .ref D :: bm, [_, _, _, _, some (.builtin n), _] => decide (D = C) && (decide (n = "ValueError.__new__") && (!cd.hasDel && (cd.hasDict && HandSPX.refsVE bm)))
    | _, _ => false)
  | _ => false) && (decide (PySem.W.findIn K (.ref C) "__setattr__" = some (some (.builtin "object.__setattr__"))) && (decide (PySem.W.subIn K (.ref C) (.type "BaseException") = some true) && (decide (PySem.W.typeIn K (.ref C) = some (.type "type")) && PySem.W.keepIn K (.ref C))))
theorem oexB_ok {K : Frag} {C : Addr} (h : oexB K C = true) : OexC K C := by
  obtain ⟨h1, h⟩ := Bool.and_eq_true_iff.mp h
  obtain ⟨h2, h⟩ := Bool.and_eq_true_iff.mp h
  obtain ⟨h3, h⟩ := Bool.and_eq_true_iff.mp h
  obtain ⟨h4, h5⟩ := Bool.and_eq_true_iff.mp h
  refine ⟨?_, of_decide_eq_true h2, of_decide_eq_true h3, of_decide_eq_true h4, h5⟩
  split at h1
  case h_2 => cases h1
  case h_1 t dd cd sl ho =>
    obtain ⟨e1, g1⟩ := Bool.and_eq_true_iff.mp h1
    have e1 : t = "type" := of_decide_eq_true e1
    subst e1
    clear h1
    split at g1
    case h_2 => cases g1
    case h_1 D bm k0 k1 k2 k3 n k5 hm hs =>
      obtain ⟨q1, g2⟩ := Bool.and_eq_true_iff.mp g1
      obtain ⟨q2, g3⟩ := Bool.and_eq_true_iff.mp g2
      obtain ⟨hdel, g4⟩ := Bool.and_eq_true_iff.mp g3
      obtain ⟨hdi, hv⟩ := Bool.and_eq_true_iff.mp g4
      have hdl : cd.hasDel = false := by simpa using hdel
      clear hdel g3 g2 g1 g4
      have q1 : D = C := of_decide_eq_true q1
      have q2 : n = "ValueError.__new__" := of_decide_eq_true q2
      subst q1 q2
      obtain ⟨nm, bs, mro, ns, qn, hd, sn, sub, ab, col, del⟩ := cd
      dsimp only at hm hdl hdi
      subst hm hdl hdi
      have hsl : sl = #[k0, k1, k2, k3, some (.builtin "ValueError.__new__"), k5] := by
        obtain ⟨l⟩ := sl
        simp only at hs
        rw [hs]
      subst hsl
      exact ⟨nm, qn, ns, bs, bm, sn, sub, ab, col, dd, k0, k1, k2, k3, k5, ho, hv⟩
def xbB (K : Frag) (S : Addr) : Bool := decide (PySem.W.specialIn K (.ref S) "__getattribute__" = some (some (.builtin "type.__getattribute__"))) && (PySem.W.readsIn K S (.type "type") &&
  (match PySem.W.findCls K (.ref S) (.type "type") "__init__" with
  | some (.val (.builtin n)) => decide (n = "ValueError.__init__")
  | _ => false))
theorem xbB_ok {K : Frag} {S : Addr} (h : xbB K S = true) : XbC K S := by
  obtain ⟨h1, h⟩ := Bool.and_eq_true_iff.mp h
  obtain ⟨h2, h3⟩ := Bool.and_eq_true_iff.mp h
  refine ⟨of_decide_eq_true h1, h2, ?_⟩
  split at h3
  case h_2 => cases h3
  case h_1 n e => rw [e, of_decide_eq_true h3]
inductive Fx where
  | oex (x : Str) | xb (x : Str) | xf (x : Str)
def Fx.ok (K : Frag) : Fx → Bool
  | .oex x => oexB K (He.ga K x)
  | .xb x => xbB K (He.ga K x)
  | .xf x => xfB K (He.ga K x)
def fxB (l : List Fx) (K : Frag) : Bool := l.all fun f => f.ok K
theorem fx_at {l : List Fx} {K : Frag} (c : fxB l K = true) (i : Nat) {f : Fx} (h : l[i]? = some f) : f.ok K = true := List.all_eq_true.mp c f (List.mem_of_getElem? h)
theorem xn_ok {K : Frag} {x : Str} (c : (Fx.oex x).ok K = true) (m : (He.Fa.meth x "__init__").ok K = true) : XnC K (He.ga K x) (He.ma K (He.ga K x) "__init__") := by
  obtain ⟨m1, m2, m3⟩ := He.meth_ok m
  exact ⟨oexB_ok c, m1, beq_iff_eq.mp m2⟩
theorem xf_ok {K : Frag} {x : Str} (c : (Fx.xf x).ok K = true) : XfC K (He.ga K x) := xfB_ok c
theorem xb_ok {K : Frag} {x : Str} (c : (Fx.xb x).ok K = true) : XbC K (He.ga K x) := xbB_ok c
def meth (s : Stmt) (j : Nat) : Stmt := match s with
  | .ClassDef _ _ _ b _ _ _ _ _ _ _ => b.getD j (.Pass ⟨0, 0, 0, 0⟩)
  | _ => .Pass ⟨0, 0, 0, 0⟩
abbrev AlZ : Type := He.AlD × Bool
def obsZ (n : Nat) (xs : List Addr) (fa : List He.Fa) (fn : List He.DefD) (fx : List Fx) (g : Addr → Option Obj) : AlZ := (He.obsD fa fn (He.frG g (He.asD g n ++ xs)), fxB fx (He.frG g (He.asD g n ++ xs)))
def hookZ (n : Nat) (xs : List Addr) (fa : List He.Fa) (fn : List He.DefD) (fx : List Fx) : PySem.W.Hook where
  α := AlZ
  obs := fun s => obsZ n xs fa fn fx s.heap.get?
  val := fun _ => (He.valD fn, true)
  says := fun _ h => ∃ K : PySem.W.Frag, K.In h ∧ He.SaysD fa fn K ∧ fxB fx K = true
  of := fun _ _ e => ⟨_, He.frG_in, congrArg (fun z : AlZ => z.1) e, congrArg (fun z : AlZ => z.2) e⟩
  keeps := fun _ _ _ ⟨K, hK, c⟩ k => ⟨K, PySem.W.Frag.In.keeps hK k, c⟩
theorem obsZ_eq {n : Nat} {xs : List Addr} {fa : List He.Fa} {fn : List He.DefD} {fx : List Fx} {g : Addr → Option Obj} {s : Shared} (h : ∀ a, g a = s.heap.get? a) : obsZ n xs fa fn fx g = (hookZ n xs fa fn fx).obs s := by
  have e : g = s.heap.get? := funext h
  rw [e] <;> rfl
section
variable {T : Type} [Tg T] {ρ : DL.Env}
section
variable {k : D → DL.Env → T} {h : Exc → DL.Env → T}
theorem rB_xf (ys : List Str) (ξ : Exc) (f : Str) : rB (mXf ys ξ f ρ) k h = oB (xfO ys ξ f) fun x => k x ρ := by unfold mXf; rw [rB_ofO]
end
variable {k : Fl → DL.Env → T} {h : Exc → DL.Env → T}
def xcO (y : Str) (gs : List Str) (as : List AV) : Option Exc := (avD as).bind fun xs => if xs.length = gs.length then some ⟨.own y, (gs.zip xs).reverse⟩ else none
theorem xcO_1 (y g : Str) (x : D) : xcO y [g] [.d x] = some ⟨.own y, [(g, x)]⟩ := rfl
theorem xcO_2 (y g g2 : Str) (x z : D) : xcO y [g, g2] [.d x, .d z] = some ⟨.own y, [(g2, z), (g, x)]⟩ := rfl
theorem rB_raiseX (y : Str) (gs : List Str) (m : M (List AV)) : rB (sRaiseX y gs m ρ) k h = rB (m ρ) (fun as ρ1 => oB (xcO y gs as) fun ξ => h ξ ρ1) h := by
  unfold sRaiseX; rw [rB_bind]; congr; funext as ρ1
  unfold xcO
  cases avD as with
  | none => rfl
  | some xs =>
    show rB (if xs.length = gs.length then _ else _) k h = oB (if xs.length = gs.length then _ else _) _
    by_cases e : xs.length = gs.length
    · rw [if_pos e, if_pos e]; rfl
    · rw [if_neg e, if_neg e]; rfl
theorem rB_tryX (b : M Fl) (hs : List HP) : rB (sTryX b hs ρ) k h = rB (b ρ) k fun ξ ρ1 => rB (tryX hs ξ ρ1) k h := by
  unfold sTryX; cases b ρ <;> rfl
theorem rB_tx0 (ξ : Exc) : rB (tryX [] ξ ρ) k h = h ξ ρ := rfl
theorem rB_tx1 (x : HP) (r : List HP) (ξ : Exc) : rB (tryX (x :: r) ξ ρ) k h = tH (x.1 ξ.c) (rB (x.2.2 ξ (cutI x.2.1 ρ)) (fun f ρ1 => k f (cutI x.2.1 ρ1)) hN) (rB (tryX r ξ ρ) k h) := by
  rw [tryX]
  rcases x.1 ξ.c with _ | _ | _
  · rfl
  · rfl
  · show rB (cutR _ _) k h = rB _ _ _
    cases x.2.2 ξ (cutI x.2.1 ρ) <;> rfl
theorem cutI_n (ρ : DL.Env) : cutI none ρ = ρ := rfl
theorem cutI_s (i : Nat) (ρ : DL.Env) : cutI (some i) ρ = ρ.set i none := rfl
end
abbrev hX (a : ECls → Option Bool) (i : Option Nat) (f : Exc → M Fl) : HP := (a, i, f)
abbrev RBX := And.intro @rB_xf <| And.intro @xcO_1 <| And.intro @xcO_2 <| And.intro @rB_raiseX <| And.intro @rB_tryX <| And.intro @rB_tx0 <| And.intro @rB_tx1 <| And.intro @cutI_n @cutI_s
end DL
end
section
set_option maxRecDepth 100000
set_option maxHeartbeats 4000000
namespace DL
open PySem PySem.Spec PyProof.Rows L2 PySem.W
section
variable {X : Cx} {c : Ct} {a b : Expr} {pos : Pos} {ka kb pa pb : Bool} {ma mb : M D}
end
end DL
end
section
set_option maxRecDepth 100000
set_option maxHeartbeats 4000000
namespace PySem.W
open PySem PySem.Calls PyProof.Rows
section
variable {M : Model} {A : Around} {E : Value → Shared → Prop} {s : Shared}
end
section
variable {prog : Program} {w : World} {A : Around} {E : Value → Shared → Prop} {s : Shared}
variable {β : Type} {vs : List Value} {bs : List β} {enc : β → PyData} {R : Value → β → Prop}
end
end PySem.W
namespace DL
open PySem PySem.Spec PyProof.Rows L2 PySem.W
end DL
end
section
set_option maxRecDepth 100000
set_option maxHeartbeats 4000000
namespace DL
open PySem PySem.Spec PyProof.Rows L2 PySem.W
inductive AW where
  | d (x : D) | o (i : Nat) | n (o : OV)
def gatX : Env → List AW → Option (List OV × Env)
  | ρ, [] => some ([], ρ)
  | ρ, .d x :: r => (gatX ρ r).map fun z => (.d x :: z.1, z.2)
  | ρ, .n o :: r => (gatX ρ r).map fun z => (o :: z.1, z.2)
  | ρ, .o i :: r => match ρ[i]? with
    | some (some o) => (gatX (ρ.set i none) r).map fun z => (o :: z.1, z.2)
    | _ => none
def backX : Env → List AW → Env → Env
  | ρ, .d _ :: r, _ :: s => backX ρ r s
  | ρ, .n _ :: r, _ :: s => backX ρ r s
  | ρ, .o i :: r, o :: s => backX (ρ.set i o) r s
  | ρ, _, _ => ρ
def callXf (ws : List AW) (ρ2 : Env) (r : Rf) : Res OV := match r with
  | .ok r outs => .ok r (backX ρ2 ws outs)
  | .ex ξ => .ex ξ ρ2
  | .bad => .bad
def callXe (f : Fn) (dds : List D) (ws : List AW) (z : Option (List OV × Env)) : Res OV := match z with
  | none => .bad
  | some y => callXf ws y.2 (f (y.1 ++ dds.map .d))
def mCallX (f : Fn) (dds : List D) (m : M (List AW)) : M OV := fun ρ => (m ρ).bind fun ws ρ1 => callXe f dds ws (gatX ρ1 ws)
def wNil : M (List AW) := fun ρ => .ok [] ρ
def wD (a : M D) (r : M (List AW)) : M (List AW) := fun ρ => (a ρ).bind fun x ρ1 => (r ρ1).bind fun xs ρ2 => .ok (.d x :: xs) ρ2
def wN (a : M OV) (r : M (List AW)) : M (List AW) := fun ρ => (a ρ).bind fun x ρ1 => (r ρ1).bind fun xs ρ2 => .ok (.n x :: xs) ρ2
def wO (i : Nat) (r : M (List AW)) : M (List AW) := fun ρ => match ρ[i]? with
  | some (some _) => (r ρ).bind fun xs ρ2 => .ok (.o i :: xs) ρ2
  | _ => .bad
inductive AwAll (K : Frag) (ca : Str → Addr) (F H : Hp) (σ : Sl) : List V → List AW → List Addr → Prop where
  | nil : AwAll K ca F H σ [] [] []
  | d {v : V} {x : D} {vs : List V} {as : List AW} {A : List Addr} : Rp K F v x → AwAll K ca F H σ vs as A → AwAll K ca F H σ (v :: vs) (.d x :: as) A
  | o {v : V} {i : Nat} {vs : List V} {as : List AW} {A : List Addr} : σ[i]? = some (some v) → AwAll K ca F H σ vs as A → AwAll K ca F H σ (v :: vs) (.o i :: as) A
  | n {v : V} {o : OV} {vs : List V} {as : List AW} {A B : List Addr} : OwR K ca F H v o A → AwAll K ca F H σ vs as B → AwAll K ca F H σ (v :: vs) (.n o :: as) (A ++ B)
def PGX (K : Frag) (c : Ct) (F H : Hp) (σ : Sl) (Q : List V → Hp → Prop) (ws : List AW) (ρ' : Env) : Prop :=
  ∀ F' H' O' A vs, EnvR K c F' H' σ ρ' O' → Same F F' → AwAll K c.ca F' H' σ vs ws A → Apart c F' A O' → Q vs H'
def tgX (K : Frag) (c : Ct) (m : M (List AW)) : TA := fun σ H Q => ∃ F ρ O, EnvR K c F H σ ρ O ∧ (m ρ).post (PGX K c F H σ Q) (PX K c σ)
theorem tgX_step {K : Frag} {c : Ct} {α : Type} {F H : Hp} {σ : Sl} {ρ : Env} {O : List Addr} {m : M (List AW)} {k : List AW → Env → Res α} {P : α → Env → Prop} {Q : List V → Hp → Prop} (e : EnvR K c F H σ ρ O) (h : ((m ρ).bind k).post P (PX K c σ))
    (q : ∀ ws ρ1 F1 H1 O1 A vs, (k ws ρ1).post P (PX K c σ) → EnvR K c F1 H1 σ ρ1 O1 → Same F F1 → AwAll K c.ca F1 H1 σ vs ws A → Apart c F1 A O1 → Q vs H1) : tgX K c m σ H Q :=
  ⟨F, ρ, O, e, Res.post_imp (Res.post_bind h) (fun z ρ1 h1 F1 H1 O1 A vs e1 s1 r1 a1 => q z ρ1 F1 H1 O1 A vs h1 e1 s1 r1 a1) fun _ _ h => h⟩
theorem EnvR.noA {K : Frag} {c : Ct} {F H : Hp} {σ : Sl} {ρ : Env} {O : List Addr} (e : EnvR K c F H σ ρ O) : Apart c F [] O := ⟨by simpa using e.nd, fun p hp => by cases hp⟩
section
variable {X : Cx} {c : Ct} {e : Expr} {es : List Expr} {pos p : Pos} {p1 : Bool} {me : M D} {mo : M OV} {ms : M (List AW)}
theorem sgx_nil : PA X [] (tgX X.K c wNil) := pa_nil.imp fun σ H Q ⟨F, ρ, O, e, h⟩ => h F H O [] [] e (Same.refl _) .nil e.noA
theorem sgx_d (ha : PE X e (te X.K c false p1 me)) (hr : PA X es (tgX X.K c ms)) (hs : starEach (e :: es) X.env = (false, eval e X.env) :: starEach es X.env := by rfl) : PA X (e :: es) (tgX X.K c (wD me ms)) :=
  (pa_cons ha hr hs).imp fun σ H Q ⟨F, ρ, O, e, h⟩ => te_step e h fun x ρ1 F1 H1 O1 v h1 e1 s1 q1 v1 => tgX_step e1 h1 fun ws ρ2 F2 H2 O2 A vs h2 e2 s2 v2 a2 => h2 F2 H2 O2 A (v :: vs) e2 (s1.trans s2) (.d (Rp.mono s2 v1) v2) a2
theorem sgx_o (i : Nat) {x : Str} {np : Pos} (hr : PA X es (tgX X.K c ms)) (hN : X.N[i]? = some x := by rfl) (hv : Vis X.env.scope x := by first | exact Or.inl rfl | exact Or.inr (Or.inl rfl) | exact Or.inr (Or.inr rfl)) (hd : (x == ("__debug__" : Str)) = false := by decide)
    (hcd : (x == ("__classdict__" : Str)) = false := by decide) (hs : starEach (Expr.Name x np :: es) X.env = (false, eval (Expr.Name x np) X.env) :: starEach es X.env := by rfl) : PA X (.Name x np :: es) (tgX X.K c (wO i ms)) :=
  (pa_cons (pe_var hN hv hd hcd) hr hs).imp fun σ H Q ⟨F, ρ, O, e, h⟩ => by
    unfold wO at h
    cases q : ρ[i]? with
    | none => rw [q] at h; exact h.elim
    | some w =>
      rw [q] at h
      cases w with
      | none => exact h.elim
      | some o =>
        obtain ⟨v, A, h1, h2⟩ := e.var q
        exact ⟨v, h1, tgX_step e h fun ws ρ2 F2 H2 O2 A2 vs h2 e2 s2 v2 a2 => h2 F2 H2 O2 A2 (v :: vs) e2 s2 (.o h1 v2) a2⟩
theorem sgx_n (ho : PE X e (to X.K c mo)) (hr : ∀ F H O σ, PA X es (tgX X.K (c.at F H O σ) ms)) (hs : starEach (e :: es) X.env = (false, eval e X.env) :: starEach es X.env := by rfl) : PA X (e :: es) (tgX X.K c (wN mo ms)) := by
  have hr' : PA X es (fun σ H Q => ∃ F0 H0 O0 σ0, tgX X.K (c.at F0 H0 O0 σ0) ms σ H Q) := ⟨fun pos pins s σ H Q I ⟨F0, H0, O0, σ0, q⟩ => (hr F0 H0 O0 σ0).run pos pins s σ H Q I q⟩
  refine (pa_cons ho hr' hs).imp fun σ H Q ⟨F, ρ, O, e, h⟩ => to_step e h fun o ρ1 F1 H1 O1 A1 v h1 e1 s1 r1 a1 => ?_
  refine ⟨F1, H1, O1, σ, tgX_step e1.self (Res.post_imp h1 (fun _ _ z => z) fun ξ ρ' z F' H' O' cls d e' x => z F' H' O' cls d (e1.trans e') x) fun ws ρ2 F2 H2 O2 A2 vs h2 e2 s2 v2 a2 => ?_⟩
  obtain ⟨n1, n2, n3⟩ := List.nodup_append.mp a1.nd
  have out : ∀ p ∈ A1, ∀ q, (q ∈ O1 ∨ H1 q = none) → q ≠ p := fun p hp q hq e => by
    subst e
    rcases hq with z | z
    · exact n3 q hp q z rfl
    · exact r1.there q hp z
  have keep : ∀ b ∈ A1, H2 b = H1 b := fun b hb => by
    cases q : H1 b with
    | none => exact absurd q (r1.there b hb)
    | some o => exact e2.h0 b o q fun z => n3 b hb b z rfl
  refine h2 F2 H2 O2 (A1 ++ A2) (v :: vs) (e1.trans e2) (s1.trans s2) (.n (r1.mono s2 keep) v2) ⟨?_, fun p hp => ?_⟩
  · rw [List.append_assoc]
    refine List.nodup_append.mpr ⟨n1, a2.nd, fun x hx y hy z => ?_⟩
    subst z
    rcases List.mem_append.mp hy with hy | hy
    · exact out x hx x (a2.ow x hy).2 rfl
    · exact out x hx x (e2.ow x hy).2 rfl
  · rcases List.mem_append.mp hp with hp | hp
    · exact ⟨e2.n0 p (r1.there p hp) (fun z => n3 p hp p z rfl) (a1.ow p hp).1, (a1.ow p hp).2⟩
    · exact (Apart.trans e1 a2).ow p hp
end
def newsX : List AW → List OV
  | [] => []
  | .n o :: r => o :: newsX r
  | _ :: r => newsX r
def splX : Nat → List AW → List AV
  | _, [] => []
  | k, .d x :: r => .d x :: splX k r
  | k, .o i :: r => .o i :: splX k r
  | k, .n _ :: r => .o k :: splX (k + 1) r
theorem gat_eq : ∀ (ws : List AW) (k : Nat) (ρ : Env) {os : List OV} {ρ2 : Env}, gatX ρ ws = some (os, ρ2) → ∀ dds : List D,
    gather (ρ ++ (List.replicate k none ++ (newsX ws).map some)) (splX (ρ.length + k) ws ++ dds.map .d) = some (os ++ dds.map .d, ρ2 ++ List.replicate (k + (newsX ws).length) none) ∧ ρ2.length = ρ.length ∧ ∀ i, AW.o i ∈ ws → i < ρ.length
  | [], k, ρ, os, ρ2, h, dds => by
    cases h
    refine ⟨?_, rfl, fun i hi => by cases hi⟩
    have g : ∀ (ρ : Env) (dds : List D), gather ρ (dds.map AV.d) = some (dds.map OV.d, ρ) := fun ρ dds => by
      induction dds with
      | nil => rfl
      | cons d dds ih => rw [List.map_cons, gather, ih]; rfl
    show gather _ (dds.map AV.d) = _
    rw [g]
    simp [newsX]
  | .d x :: r, k, ρ, os, ρ2, h, dds => by
    unfold gatX at h
    obtain ⟨z, hz, e⟩ := Option.map_eq_some_iff.mp h
    cases e
    obtain ⟨g1, g2, g3⟩ := gat_eq r k ρ hz dds
    refine ⟨?_, g2, fun i hi => g3 i (by rcases List.mem_cons.mp hi with e | hi; cases e; exact hi)⟩
    show gather _ (.d x :: (splX (ρ.length + k) r ++ dds.map .d)) = _
    rw [gather, show newsX (.d x :: r) = newsX r from rfl, g1]
    rfl
  | .n o :: r, k, ρ, os, ρ2, h, dds => by
    unfold gatX at h
    obtain ⟨z, hz, e⟩ := Option.map_eq_some_iff.mp h
    cases e
    obtain ⟨g1, g2, g3⟩ := gat_eq r (k + 1) ρ hz dds
    refine ⟨?_, g2, fun i hi => g3 i (by rcases List.mem_cons.mp hi with e | hi; cases e; exact hi)⟩
    show gather _ (.o (ρ.length + k) :: (splX (ρ.length + k + 1) r ++ dds.map .d)) = _
    have ix : (ρ ++ (List.replicate k none ++ (newsX (.n o :: r)).map some))[ρ.length + k]? = some (some o) := by
      rw [show newsX (.n o :: r) = o :: newsX r from rfl, List.getElem?_append_right (by omega), Nat.add_sub_cancel_left, List.getElem?_append_right (by simp)]
      simp
    have st : (ρ ++ (List.replicate k none ++ (newsX (.n o :: r)).map some)).set (ρ.length + k) none = ρ ++ (List.replicate (k + 1) none ++ (newsX r).map some) := by
      rw [show newsX (.n o :: r) = o :: newsX r from rfl, List.set_append_right _ _ (by omega), Nat.add_sub_cancel_left, List.set_append_right _ _ (by simp)]
      simp [List.replicate_succ']
    rw [gather, ix]
    simp only
    rw [st, Nat.add_assoc, g1]
    show some _ = some _
    rw [show newsX (.n o :: r) = o :: newsX r from rfl, List.length_cons]
    simp only [List.cons_append]
    rw [show k + 1 + (newsX r).length = k + ((newsX r).length + 1) by omega]
  | .o i :: r, k, ρ, os, ρ2, h, dds => by
    unfold gatX at h
    split at h
    · rename_i o ho
      obtain ⟨z, hz, e⟩ := Option.map_eq_some_iff.mp h
      cases e
      have hi : i < ρ.length := (List.getElem?_eq_some_iff.mp ho).1
      obtain ⟨g1, g2, g3⟩ := gat_eq r k (ρ.set i none) hz dds
      rw [List.length_set] at g1 g2 g3
      refine ⟨?_, g2, fun j hj => by rcases List.mem_cons.mp hj with e | hj; cases e; exact hi; exact g3 j hj⟩
      show gather _ (.o i :: (splX (ρ.length + k) r ++ dds.map .d)) = _
      rw [gather, List.getElem?_append_left hi, ho]
      simp only
      rw [List.set_append_left _ _ hi, show newsX (.o i :: r) = newsX r from rfl, g1]
      rfl
    · cases h
theorem back_eq : ∀ (ws : List AW) (k : Nat) (ρ t : Env) (dds : List D) (w : Env), (∀ i, AW.o i ∈ ws → i < ρ.length) → w.length = ws.length + dds.length → ∃ t', putBack (ρ ++ t) (splX (ρ.length + k) ws ++ dds.map .d) w = backX ρ ws w ++ t'
  | [], k, ρ, t, dds, w, _, _ => by
    refine ⟨t, ?_⟩
    have g : ∀ (dds : List D) (ρ w : Env), putBack ρ (dds.map AV.d) w = ρ := fun dds => by
      induction dds with
      | nil => intro ρ w; cases w <;> rfl
      | cons d dds ih =>
        intro ρ w
        cases w with
        | nil => rfl
        | cons o w => exact ih ρ w
    show putBack _ (dds.map AV.d) w = _
    rw [g]
    cases w <;> rfl
  | .d x :: r, k, ρ, t, dds, [], _, hl => by simp at hl; omega
  | .n x :: r, k, ρ, t, dds, [], _, hl => by simp at hl; omega
  | .o x :: r, k, ρ, t, dds, [], _, hl => by simp at hl; omega
  | .d x :: r, k, ρ, t, dds, y :: w, h, hl => back_eq r k ρ t dds w (fun i hi => h i (List.mem_cons_of_mem _ hi)) (by simp at hl; omega)
  | .n o :: r, k, ρ, t, dds, y :: w, h, hl => by
    show ∃ t', putBack ((ρ ++ t).set (ρ.length + k) y) (splX (ρ.length + k + 1) r ++ dds.map .d) w = backX ρ r w ++ t'
    rw [List.set_append_right _ _ (by omega), Nat.add_assoc]
    exact back_eq r (k + 1) ρ _ dds w (fun i hi => h i (List.mem_cons_of_mem _ hi)) (by simp at hl; omega)
  | .o i :: r, k, ρ, t, dds, y :: w, h, hl => by
    show ∃ t', putBack ((ρ ++ t).set i y) (splX (ρ.length + k) r ++ dds.map .d) w = backX (ρ.set i y) r w ++ t'
    have hi := h i List.mem_cons_self
    rw [List.set_append_left _ _ hi]
    have := back_eq r k (ρ.set i y) t dds w (fun j hj => by rw [List.length_set]; exact h j (List.mem_cons_of_mem _ hj)) (by simp at hl; omega)
    rw [List.length_set] at this
    exact this
theorem backX_len : ∀ (ws : List AW) (ρ w : Env), (backX ρ ws w).length = ρ.length
  | [], ρ, w => by cases w <;> rfl
  | .d _ :: r, ρ, [] => rfl
  | .n _ :: r, ρ, [] => rfl
  | .o _ :: r, ρ, [] => rfl
  | .d _ :: r, ρ, _ :: w => backX_len r ρ w
  | .n _ :: r, ρ, _ :: w => backX_len r ρ w
  | .o i :: r, ρ, o :: w => by rw [backX, backX_len r, List.length_set]
end DL
end
section
set_option maxRecDepth 100000
set_option maxHeartbeats 4000000
namespace DL
open PySem PySem.Spec PyProof.Rows L2 PySem.W
section
variable {K : Frag} {ca : Str → Addr} {F H : Hp}
theorem slR_app {σ2 : Sl} {ρ2 : Env} {B : List Addr} (r : SlR K ca F H σ2 ρ2 B) : ∀ {σ : Sl} {ρ : Env} {A : List Addr}, SlR K ca F H σ ρ A → SlR K ca F H (σ ++ σ2) (ρ ++ ρ2) (A ++ B)
  | _, _, _, .nil => r
  | _, _, _, .no s => .no (slR_app r s)
  | _, _, _, .so h s => by
    rw [List.cons_append, List.cons_append, List.append_assoc]
    exact .so h (slR_app r s)
theorem slR_take : ∀ {σ σ2 : Sl} {ρ : Env} {O : List Addr}, SlR K ca F H (σ ++ σ2) ρ O → ∃ A B, O = A ++ B ∧ SlR K ca F H σ (ρ.take σ.length) A
  | [], _, _, O, _ => ⟨[], O, rfl, .nil⟩
  | v :: σ, σ2, ρ, O, h => by
    have h : SlR K ca F H (v :: (σ ++ σ2)) ρ O := h
    cases h with
    | no s =>
      obtain ⟨A, B, rfl, r⟩ := slR_take s
      exact ⟨A, B, rfl, .no r⟩
    | so q s =>
      obtain ⟨A, B, rfl, r⟩ := slR_take s
      exact ⟨_ ++ A, B, by rw [List.append_assoc], .so q r⟩
def nvX : List V → List AW → List V
  | v :: vs, .n _ :: r => v :: nvX vs r
  | _ :: vs, _ :: r => nvX vs r
  | _, _ => []
theorem AwAll.news {σ : Sl} : ∀ {vs : List V} {ws : List AW} {A : List Addr}, AwAll K ca F H σ vs ws A → SlR K ca F H ((nvX vs ws).map some) ((newsX ws).map some) A
  | _, _, _, .nil => .nil
  | _, _, _, .d _ h => h.news
  | _, _, _, .o _ h => h.news
  | _, _, _, .n r h => .so r h.news
theorem AwAll.spl {σ : Sl} : ∀ {vs : List V} {ws : List AW} {A : List Addr} (k : Nat) (pre : Sl), AwAll K ca F H σ vs ws A → pre.length = k → AvAll K F (σ ++ (pre ++ (nvX vs ws).map some)) vs (splX (σ.length + k) ws)
  | _, _, _, k, pre, .nil, _ => .nil
  | _, _, _, k, pre, .d r h, hp => .d r (h.spl k pre hp)
  | _, _, _, k, pre, .o (i := i) r h, hp => .o (by rw [List.getElem?_append_left (List.getElem?_eq_some_iff.mp r).1]; exact r) (h.spl k pre hp)
  | _, _, _, k, pre, .n (v := v) (vs := vs) (as := as) r h, hp => by
    have := h.spl (k + 1) (pre ++ [some v]) (by simp [hp])
    rw [List.append_assoc] at this
    refine .o ?_ this
    show (σ ++ (pre ++ some v :: (nvX vs as).map some))[σ.length + k]? = _
    rw [List.getElem?_append_right (by omega), Nat.add_sub_cancel_left, List.getElem?_append_right (by omega), hp, Nat.sub_self]
    rfl
theorem rp_av {σ : Sl} : ∀ {dvs : List V} {dds : List D}, RpAll K F dvs dds → AvAll K F σ dvs (dds.map .d)
  | _, _, .nil => .nil
  | _, _, .cons r h => .d r (rp_av h)
theorem AvAll.app {σ : Sl} : ∀ {vs : List V} {as : List AV} {dvs : List V} {dds : List D}, AvAll K F σ vs as → RpAll K F dvs dds → AvAll K F σ (vs ++ dvs) (as ++ dds.map .d)
  | _, _, _, _, .nil, r => rp_av r
  | _, _, _, _, .d q h, r => .d q (h.app r)
  | _, _, _, _, .o q h, r => .o q (h.app r)
theorem AwAll.len {σ : Sl} : ∀ {vs : List V} {ws : List AW} {A : List Addr}, AwAll K ca F H σ vs ws A → vs.length = ws.length
  | _, _, _, .nil => rfl
  | _, _, _, .d _ h => by rw [List.length_cons, List.length_cons, h.len]
  | _, _, _, .o _ h => by rw [List.length_cons, List.length_cons, h.len]
  | _, _, _, .n _ h => by rw [List.length_cons, List.length_cons, h.len]
end
abbrev Ct.wide (c : Ct) (σ : Sl) : Ct := ⟨c.ca, c.F, c.H, c.O, [], σ, fun cls d _ H => c.W cls d σ H⟩
theorem call_inX {K : Frag} {c : Ct} {f : Fn} {F H : Hp} {σ : Sl} {ρ : Env} {O A0 : List Addr} {ws : List AW} {vs dvs : List V} {dds : List D} {Q : VK} {P : OV → Env → Prop} (e : EnvR K c F H σ ρ O) (r : AwAll K c.ca F H σ vs ws A0) (a0 : Apart c F A0 O) (hd : RpAll K F dvs dds)
    (len : ∀ os r outs, f os = .ok r outs → outs.length = os.length)
    (h : (callXe f dds ws (gatX ρ ws)).post P (PX K c σ)) (hP : ∀ o ρ' F' H' O' A v, P o ρ' → EnvR K c F' H' σ ρ' O' → Same F F' → OwR K c.ca F' H' v o A → Apart c F' A O' → Q v H') : spF K c.ca f (vs ++ dvs) H Q (WE c.W σ) := by
  cases g : gatX ρ ws with
  | none => rw [g] at h; exact h.elim
  | some z =>
    obtain ⟨os, ρ2⟩ := z
    rw [g] at h
    obtain ⟨g1, g2, g3⟩ := gat_eq ws 0 ρ g dds
    rw [Nat.add_zero, List.replicate_zero, List.nil_append, Nat.zero_add] at g1
    have sl : σ.length = ρ.length := e.sl.length
    obtain ⟨n1, n2, n3⟩ := List.nodup_append.mp a0.nd
    have e0 : EnvR K (c.wide σ) F H (σ ++ (nvX vs ws).map some) (ρ ++ (newsX ws).map some) (O ++ A0) :=
      ⟨e.sub, e.f0, e.h0, e.n0, slR_app r.news e.sl, List.nodup_append.mpr ⟨n2, n1, fun x hx y hy z => n3 y hy x hx z.symm⟩, fun p hp => (List.mem_append.mp hp).elim (e.ow p) (a0.ow p), fun i hi => by cases hi⟩
    have av : AvAll K F (σ ++ (nvX vs ws).map some) (vs ++ dvs) (splX ρ.length ws ++ dds.map .d) := by
      have := (r.spl 0 [] rfl).app hd
      rw [Nat.add_zero, sl] at this
      exact this
    -- an end of the wide environment is one of ours
    have narrow : ∀ {F' H' : Hp} {ρ' : Env} {O' : List Addr}, EnvR K (c.wide σ) F' H' (σ ++ (nvX vs ws).map some) ρ' O' → ∃ A B, O' = A ++ B ∧ EnvR K c F' H' σ (ρ'.take ρ.length) A := fun {F' H' ρ' O'} e' => by
      obtain ⟨A, B, rfl, s⟩ := slR_take e'.sl
      rw [sl] at s
      exact ⟨A, B, rfl, e'.sub, e'.f0, e'.h0, e'.n0, s, (List.nodup_append.mp e'.nd).1, fun p hp => e'.ow p (List.mem_append_left _ hp), e.fx⟩
    refine call_in (c := c.wide σ) (P := fun o ρ' => P o (ρ'.take ρ.length)) e0 av ?_ fun o ρ' F' H' O' A v hp e' s' ow ap => ?_
    · rw [g1]
      show (callRf (splX ρ.length ws ++ dds.map .d) (ρ2 ++ List.replicate (newsX ws).length none) (f (os ++ dds.map .d))).post _ _
      have h : (callXf ws ρ2 (f (os ++ dds.map .d))).post P (PX K c σ) := h
      cases fo : f (os ++ dds.map .d) with
      | bad => rw [fo] at h; exact h.elim
      | ex ξ =>
        rw [fo] at h
        intro F' H' O' cls d e' x
        obtain ⟨A, B, _, e2⟩ := narrow e'
        have tk : (ρ2 ++ List.replicate (newsX ws).length (none : Option OV)).take ρ.length = ρ2 := by rw [← g2, List.take_left]
        rw [tk] at e2
        exact h F' H' A cls d e2 x
      | ok r0 outs =>
        rw [fo] at h
        have lo := len _ _ _ fo
        have los : os.length = ws.length := by
          have gl : ∀ (ws : List AW) (ρ : Env) {os : List OV} {ρ2 : Env}, gatX ρ ws = some (os, ρ2) → os.length = ws.length := by
            intro ws
            induction ws with
            | nil => intro ρ os ρ2 h; cases h; rfl
            | cons w ws ih =>
              intro ρ os ρ2 h
              cases w with
              | d x =>
                obtain ⟨z, hz, e⟩ := Option.map_eq_some_iff.mp (show (gatX ρ ws).map _ = _ from h)
                cases e
                rw [List.length_cons, List.length_cons, ih _ hz]
              | n x =>
                obtain ⟨z, hz, e⟩ := Option.map_eq_some_iff.mp (show (gatX ρ ws).map _ = _ from h)
                cases e
                rw [List.length_cons, List.length_cons, ih _ hz]
              | o i =>
                unfold gatX at h
                split at h
                · obtain ⟨z, hz, e⟩ := Option.map_eq_some_iff.mp h
                  cases e
                  rw [List.length_cons, List.length_cons, ih _ hz]
                · cases h
          exact gl ws ρ g
        rw [List.length_append, List.length_map, los] at lo
        obtain ⟨t', bk⟩ := back_eq ws 0 ρ2 (List.replicate (newsX ws).length none) dds outs (fun i hi => by rw [g2]; exact g3 i hi) lo
        rw [Nat.add_zero, g2] at bk
        show P r0 ((putBack _ (splX ρ.length ws ++ dds.map .d) outs).take ρ.length)
        rw [bk, ← g2, ← backX_len ws ρ2 outs, List.take_left]
        exact h
    · obtain ⟨A', B', rfl, e2⟩ := narrow e'
      have ap' : Apart c F' A (A' ++ B') := ⟨ap.nd, ap.ow⟩
      exact hP o _ F' H' A' A v hp e2 s' ow (ap'.less (fun b hb => List.mem_append_left _ hb) e2.nd)
theorem fnOf_len {n k : Nat} {fx : List Nat} {m : M Fl} {os : List OV} {r : OV} {outs : DL.Env} (h : fnOf n k fx m os = .ok r outs) : outs.length = os.length := by
  have lo : ∀ (os : List OV) (ρ : DL.Env) (i : Nat), (outsOf fx ρ i os).length = os.length := fun os => by
    induction os with
    | nil => intro ρ i; rfl
    | cons o os ih =>
      intro ρ i
      unfold outsOf
      split <;> rw [List.length_cons, List.length_cons, ih]
  unfold fnOf at h
  split at h
  · split at h
    all_goals first
      | (cases h; exact lo _ _ _)
      | cases h
  · cases h
section
variable {X : Cx} {c : Ct} {e : Expr} {es : List Expr} {pos p : Pos} {ms : M (List AW)} {k : Nat} {f : Addr} {fd : FuncData} {ps : List Str} {fn : Fn} {x : Str} {ds : List Value} {dvs : List V} {dds : List D}
theorem so_callX (G : FnOk X.prog X.w X.K X.mg X.base (L2.CX X.prog X.w) k f fd ps (spF X.K c.ca fn)) (hr : Room k X.A) (hm : X.mg x = some (.ref f)) (hk : PySem.W.keepIn X.K (.ref f) = true) (hb : Binds X.K fd ps ds) (hd : Vals dvs ds) (hdd : ∀ F, RpAll X.K F dvs dds)
    (len : ∀ os r outs, fn os = .ok r outs → outs.length = os.length) (tk : Takes X c.W)
    (ha : PA X (e :: es) (tgX X.K c ms)) (hg : Gl X x := by rfl) (hdb : (x == ("__debug__" : Str)) = false := by decide) (he : starEach (e :: es) X.env = (false, eval e X.env) :: starEach es X.env := by rfl) (hpl : (backTo pos (starEach es X.env)).any (·.1) = false := by rfl) :
    PE X (.Call (.Name x p) (e :: es) [] pos) (to X.K c (mCallX fn dds ms)) := (pe_callSD G hr hg hm hk hb hd (fun σ => passAt tk σ) ha hdb he hpl).imp fun σ H Q ⟨F, ρ, O, ev, h⟩ => by
  refine tgX_step ev h fun ws ρ1 F1 H1 O1 A vs h1 e1 s1 r1 a1 => ?_
  exact call_inX e1 r1 a1 (hdd F1) len h1 fun o ρ' F' H' O' A v hp e' s' ow ap => hp F' H' O' A v e' (s1.trans s') ow ap
end
end DL
end
section
set_option maxRecDepth 100000
set_option maxHeartbeats 4000000
namespace DL
open PySem PySem.Spec PyProof.Rows L2 PySem.W
section
variable {X : Cx} {c : Ct} {a b : Expr} {pos p : Pos} {ka pa kb pb : Bool} {ma mb : M D} {g : D → D → Option D} {id : String} {x : Str}
end
section
variable {T : Type} [Tg T] {ρ : DL.Env} {h : Exc → DL.Env → T}
theorem rB_callX (k : OV → DL.Env → T) (f : Fn) (dds : List D) (m : M (List AW)) : rB (mCallX f dds m ρ) k h = rB (m ρ) (fun ws ρ1 => oB (gatX ρ1 ws) fun y => cX (f (y.1 ++ dds.map .d)) (fun ξ => h ξ y.2) fun o w => k o (backX y.2 ws w)) h := by
  unfold mCallX; rw [rB_bind]; congr; funext ws ρ1
  cases gatX ρ1 ws with
  | none => rfl
  | some y =>
    show rB (callXf ws y.2 (f (y.1 ++ dds.map .d))) k h = cX _ _ _
    cases f (y.1 ++ dds.map .d) <;> rfl
variable (k : List AW → DL.Env → T)
theorem rB_wNil : rB (wNil ρ) k h = k [] ρ := rfl
theorem rB_wD (a : M D) (r : M (List AW)) : rB (wD a r ρ) k h = rB (a ρ) (fun x ρ1 => rB (r ρ1) (fun xs ρ2 => k (.d x :: xs) ρ2) h) h := by
  unfold wD; rw [rB_bind]; congr; funext x ρ1; rw [rB_bind]; rfl
theorem rB_wN (a : M OV) (r : M (List AW)) : rB (wN a r ρ) k h = rB (a ρ) (fun x ρ1 => rB (r ρ1) (fun xs ρ2 => k (.n x :: xs) ρ2) h) h := by
  unfold wN; rw [rB_bind]; congr; funext x ρ1; rw [rB_bind]; rfl
theorem rB_wO (i : Nat) (r : M (List AW)) : rB (wO i r ρ) k h = oB (gt ρ i) fun _ => rB (r ρ) (fun xs ρ2 => k (.o i :: xs) ρ2) h := by
  unfold wO gt
  cases ρ[i]? with
  | none => rfl
  | some w => cases w with
    | none => rfl
    | some o =>
      show rB ((r ρ).bind _) k h = rB (r ρ) _ h
      rw [rB_bind]; rfl
end
section
variable {T : Type} [Tg T] {ρ : DL.Env} (k : List OV × DL.Env → T)
theorem gx_nil : oB (gatX ρ []) k = k ([], ρ) := rfl
theorem gx_d (x : D) (r : List AW) : oB (gatX ρ (.d x :: r)) k = oB (gatX ρ r) fun y => k (.d x :: y.1, y.2) := by
  show oB ((gatX ρ r).map _) k = _
  cases gatX ρ r <;> rfl
theorem gx_n (x : OV) (r : List AW) : oB (gatX ρ (.n x :: r)) k = oB (gatX ρ r) fun y => k (x :: y.1, y.2) := by
  show oB ((gatX ρ r).map _) k = _
  cases gatX ρ r <;> rfl
theorem gx_o (i : Nat) (r : List AW) : oB (gatX ρ (.o i :: r)) k = oB (gt ρ i) fun o => oB (gatX (ρ.set i none) r) fun y => k (o :: y.1, y.2) := by
  rw [gatX]
  unfold gt
  cases ρ[i]? with
  | none => rfl
  | some w => cases w with
    | none => rfl
    | some o =>
      show oB ((gatX (ρ.set i none) r).map _) k = oB (some o) _
      rw [oB_some]
      cases gatX (ρ.set i none) r <;> rfl
end
theorem bx_nil (ρ w : DL.Env) : backX ρ [] w = ρ := by cases w <;> rfl
theorem bx_e (ρ : DL.Env) (r : List AW) : backX ρ r [] = ρ := by
  cases r with
  | nil => rfl
  | cons a r => cases a <;> rfl
theorem bx_d (ρ : DL.Env) (x : D) (r : List AW) (w : DL.Env) : backX ρ (.d x :: r) w = backX ρ r w.tail := by
  cases w with
  | nil => rw [List.tail_nil, bx_e, bx_e]
  | cons o w => rfl
theorem bx_n (ρ : DL.Env) (x : OV) (r : List AW) (w : DL.Env) : backX ρ (.n x :: r) w = backX ρ r w.tail := by
  cases w with
  | nil => rw [List.tail_nil, bx_e, bx_e]
  | cons o w => rfl
theorem bx_o (ρ : DL.Env) (i : Nat) (r : List AW) (w : DL.Env) (hi : gt ρ i = none) : backX ρ (.o i :: r) w = backX (ρ.set i (gt w 0)) r w.tail := by
  cases w with
  | nil =>
    have e : ρ.set i (gt [] 0) = ρ := set_none_self fun o z => by unfold gt at hi; rw [z] at hi; cases hi
    rw [e, List.tail_nil, bx_e, bx_e]
  | cons o w => rfl
theorem ov_nil (xs : List OV) : ([] : List OV) ++ xs = xs := rfl
theorem ov_cons (x : OV) (r xs : List OV) : (x :: r) ++ xs = x :: (r ++ xs) := rfl
theorem md_nil : ([] : List D).map OV.d = [] := rfl
theorem md_cons (x : D) (r : List D) : (x :: r).map OV.d = .d x :: r.map OV.d := rfl
abbrev RBY := And.intro RBX <| And.intro @rB_callX <| And.intro @rB_wNil <| And.intro @rB_wD <| And.intro @rB_wN <| And.intro @rB_wO <| And.intro @gx_nil <| And.intro @gx_d <| And.intro @gx_n <| And.intro @gx_o <| And.intro @bx_nil <| And.intro @bx_d <| And.intro @bx_n <| And.intro @bx_o <| And.intro @ov_nil <| And.intro @ov_cons <| And.intro @md_nil @md_cons
end DL
end
section
set_option maxRecDepth 100000
set_option maxHeartbeats 4000000
namespace DL
open PySem PySem.Spec PyProof.Rows L2 PySem.W
section
variable {X : Cx} {c : Ct} {a b : Expr} {pos : Pos} {ka pa kb pb : Bool} {ma mb : M D}
end
end DL
end
section
set_option maxRecDepth 100000
set_option maxHeartbeats 0
namespace SH
open PySem PySem.Spec PyProof.Rows L2 DL
noncomputable abbrev e1_is_called : M D := (mOrV (mBin inD (mVar 2) (mVar 1)) (mBin inD (mVar 2) (mC (.str "0123456789"))))
noncomputable def m_is_called : M Fl := (sSeq (mIf (mOr (mNot (mB (mF1 (isiD .str) (mVar 0)))) (mOr (mNot (mB (mChain leD leD (mC (.int 1)) (mF1 lenD (mVar 0)) (mC (.int 8))))) (mB (mBin ninD (mBin ixD (mVar 0) (mC (.int 0))) (mVar 1))))) (sRet (mD (mC (.bool false)))) sNil)
 (sRet (mD (mF1 allD (mLstF (mLc [2] (mItems (mVar 0)) (tName 2) mYes e1_is_called))))))
noncomputable def f_is_called : Fn := fnOf 3 2 [] m_is_called
noncomputable def m_is_name : M Fl := (sRet (mCall SH.f_is_called (gD (mVar 0) (gD (mC (.str "abcdefghijklmnopqrstuvwxyz")) gNil))))
noncomputable def f_is_name : Fn := fnOf 1 1 [] m_is_name
noncomputable abbrev e1_is_turn : M D := (mAndV (mF1 (isiD .tup) (mVar 1)) (mBin eqD (mF1 lenD (mVar 1)) (mC (.int 2))))
noncomputable abbrev e2_is_turn : M D := (mAndV (mFrz (mCall SH.f_is_name (gD (mVar 2) gNil))) (mAndV (mFrz (mCall SH.f_is_name (gD (mVar 3) gNil))) (mBin neD (mVar 2) (mVar 3))))
noncomputable def m_is_turn : M Fl := (sSeq (mIf (mOr (mNot (mB (mF1 (isiD .tup) (mVar 0)))) (mNot (mB (mF1 allD (mLstF (mLc [1] (mItems (mVar 0)) (tName 1) mYes e1_is_turn)))))) (sRet (mD (mC (.bool false)))) sNil)
 (sSeq (mIf (mNot (mB (mF1 allD (mLstF (mLc [2, 3] (mItems (mVar 0)) (tTup 2 (tsCons (tName 2) (tsCons (tName 3) tsNil))) mYes e2_is_turn))))) (sRet (mD (mC (.bool false)))) sNil)
 (sSeq (sSet 4 (mLstF (mLc [2, 3] (mItems (mVar 0)) (tTup 2 (tsCons (tName 2) (tsCons (tName 3) tsNil))) mYes (mVar 2))))
 (sRet (mD (mAndV (mBin eqD (mVar 4) (mLstF (mSortK (mSetOf (mVar 4))))) (mBin eqD (mLstF (mFN sortO (mLstF (mLc [2, 3] (mItems (mVar 0)) (tTup 2 (tsCons (tName 2) (tsCons (tName 3) tsNil))) mYes (mVar 3))))) (mVar 4))))))))
noncomputable def f_is_turn : Fn := fnOf 5 1 [] m_is_turn
noncomputable abbrev b1_sure_turns : M Fl := (mIf (mNot (mB (mFrz (mCall SH.f_is_turn (gD (mVar 1) gNil))))) (sRaise "NoTurn") sNil)
noncomputable def m_sure_turns : M Fl := (sFor (mItems (mVar 0)) (tName 1) b1_sure_turns)
noncomputable def f_sure_turns : Fn := fnOf 2 1 [] m_sure_turns
noncomputable abbrev b1_led_name : M Fl := (mIf (mB (mBin eqD (mVar 2) (mVar 1))) (sRet (mD (mVar 3))) sNil)
noncomputable def m_led_name : M Fl := (sSeq (sFor (mItems (mVar 0)) (tTup 2 (tsCons (tName 2) (tsCons (tName 3) tsNil))) b1_led_name)
 (sRet (mD (mVar 1))))
noncomputable def f_led_name : Fn := fnOf 4 2 [] m_led_name
noncomputable abbrev e1_undone : M D := (mTup (mCons (mVar 2) (mCons (mVar 1) mNil)))
noncomputable def m_undone : M Fl := (sRet (mD (mF1 tupD (mLstF (mFN sortO (mLstF (mLc [1, 2] (mItems (mVar 0)) (tTup 2 (tsCons (tName 1) (tsCons (tName 2) tsNil))) mYes e1_undone)))))))
noncomputable def f_undone : Fn := fnOf 3 1 [] m_undone
noncomputable def m_turned_name : M Fl := (sSeq (sDrop (mCall SH.f_sure_turns (gD (mLstF (mCons (mVar 0) mNil)) gNil)))
 (sSeq (mIf (mNot (mB (mFrz (mCall SH.f_is_name (gD (mVar 1) gNil))))) (sRaise "NoName") sNil)
 (sRet (mCall SH.f_led_name (gD (mVar 0) (gD (mVar 1) gNil))))))
noncomputable def f_turned_name : Fn := fnOf 2 2 [] m_turned_name
noncomputable def m_back_turn : M Fl := (sSeq (sDrop (mCall SH.f_sure_turns (gD (mLstF (mCons (mVar 0) mNil)) gNil)))
 (sRet (mCall SH.f_undone (gD (mVar 0) gNil))))
noncomputable def f_back_turn : Fn := fnOf 1 1 [] m_back_turn
noncomputable abbrev w1_rounds_of : M Bool := (mB (mBin neD (mFrz (mCall SH.f_led_name (gD (mVar 0) (gD (mBin ixD (mLook 5) (mF1 negD (mC (.int 1)))) gNil)))) (mVar 3)))
noncomputable abbrev b2_rounds_of : M Fl := (sDrop (mD (mLM 5 appendD (mCons (mFrz (mCall SH.f_led_name (gD (mVar 0) (gD (mBin ixD (mLook 5) (mF1 negD (mC (.int 1)))) gNil)))) mNil))))
noncomputable abbrev b3_rounds_of : M Fl := (mIf (mB (mBin ninD (mVar 3) (mLook 2))) (sSeq (sSetO 5 (mLst (mCons (mVar 3) mNil)))
 (sSeq (sWhile w1_rounds_of b2_rounds_of)
 (sSeq (sDrop (mD (mExtend 2 (mLook 5))))
 (sDrop (mD (mLM 1 appendD (mCons (mF1 tupD (mLook 5)) mNil))))))) sNil)
noncomputable def m_rounds_of : M Fl := (sSeq (sDrop (mCall SH.f_sure_turns (gD (mLstF (mCons (mVar 0) mNil)) gNil)))
 (sSeq (sSetO 1 (mLst mNil))
 (sSeq (sSetO 2 (mLst mNil))
 (sSeq (sFor (mItems (mVar 0)) (tTup 2 (tsCons (tName 3) (tsCons (tName 4) tsNil))) b3_rounds_of)
 (sRet (mMove 1))))))
noncomputable def f_rounds_of : Fn := fnOf 6 1 [] m_rounds_of
noncomputable abbrev e1_swaps_of : M D := (mTup (mCons (mVar 2) (mCons (mVar 4) mNil)))
noncomputable abbrev b2_swaps_of : M Fl := (sDrop (mD (mExtend 1 (mLstF (mLc [4] (mItems (mVar 3)) (tName 4) mYes e1_swaps_of)))))
noncomputable def m_swaps_of : M Fl := (sSeq (sSetO 1 (mLst mNil))
 (sSeq (sFor (mItems (mFrz (mCall SH.f_rounds_of (gD (mVar 0) gNil)))) (tStar 1 (tsCons (tName 2) (tsCons (tName 3) tsNil))) b2_swaps_of)
 (sRet (mMove 1))))
noncomputable def f_swaps_of : Fn := fnOf 5 1 [] m_swaps_of
noncomputable def m__law_mixed : M Fl := (sSeq (sSet 2 (mBin modD (mBin addD (mBin addD (mBin mulD (mVar 0) (mC (.int 48271))) (mBin mulD (mVar 1) (mC (.int 69621)))) (mC (.int 11))) (mC (.int 2147483629))))
 (sSeq (sSet 2 (mBin modD (mBin mulD (mVar 2) (mVar 2)) (mC (.int 2147483587))))
 (sRet (mD (mBin divD (mBin modD (mBin mulD (mVar 2) (mVar 2)) (mC (.int 2147483549))) (mC (.int 64)))))))
noncomputable def f__law_mixed : Fn := fnOf 3 2 [] m__law_mixed
noncomputable def m__law_pile : M Fl := (sSeq (sSet 2 (mC (.int 0)))
 (sSeq (mIf (mB (mBin ltD (mVar 1) (mF1 lenD (mVar 0)))) (sSet 2 (mBin ixD (mVar 0) (mVar 1))) sNil)
 (sSeq (sSet 3 (mBin modD (mVar 2) (mBin mulD (mBin mulD (mBin powD (mC (.int 10)) (mC (.int 60))) (mBin powD (mC (.int 10)) (mC (.int 60)))) (mBin powD (mC (.int 10)) (mC (.int 60))))))
 (sRet (mLst (mCons (mBin mulD (mVar 3) (mF1 intD (mBin geD (mF1 absD (mVar 2)) (mBin powD (mC (.int 10)) (mC (.int 18)))))) (mCons (mBin modD (mVar 2) (mC (.int 2147483629))) (mCons (mBin mulD (mC (.int 131)) (mVar 1)) mNil))))))))
noncomputable def f__law_pile : Fn := fnOf 4 2 [] m__law_pile
noncomputable def m__law_take : M Fl := (sSeq (mIf (mB (mBin eqD (mBin ixD (mLook 0) (mC (.int 0))) (mC (.int 0)))) (sSeq (sPut 0 (mC (.int 2)) (mBin addD (mBin ixD (mLook 0) (mC (.int 2))) (mC (.int 1))))
 (sRet (mD (mBin modD (mFrz (mCall SH.f__law_mixed (gD (mBin ixD (mLook 0) (mC (.int 1))) (gD (mBin ixD (mLook 0) (mC (.int 2))) gNil)))) (mVar 1))))) sNil)
 (sSeq (sSet 2 (mBin modD (mBin ixD (mLook 0) (mC (.int 0))) (mVar 1)))
 (sSeq (sPut 0 (mC (.int 0)) (mBin divD (mBin ixD (mLook 0) (mC (.int 0))) (mVar 1)))
 (sRet (mD (mVar 2))))))
noncomputable def f__law_take : Fn := fnOf 3 2 [0] m__law_take
noncomputable abbrev b1__law_name : M Fl := (sSet 3 (mBin addD (mVar 3) (mBin ixD (mBin addD (mVar 2) (mC (.str "0123456789"))) (mFrz (mCall SH.f__law_take (gO 0 (gD (mC (.int 36)) gNil)))))))
noncomputable def m__law_name : M Fl := (sSeq (sSet 1 (mFrz (mCall SH.f__law_take (gO 0 (gD (mC (.int 4)) gNil)))))
 (sSeq (sSet 2 (mC (.str "abcdefghijklmnopqrstuvwxyz")))
 (sSeq (sSet 3 (mBin ixD (mVar 2) (mFrz (mCall SH.f__law_take (gO 0 (gD (mBin ixD (mLstF (mCons (mC (.int 5)) (mCons (mC (.int 26)) mNil))) (mF1 intD (mBin gtD (mVar 1) (mC (.int 1))))) gNil))))))
 (sSeq (mIf (mB (mBin eqD (mVar 1) (mC (.int 1)))) (sSet 3 (mBin addD (mVar 3) (mF1 strD (mFrz (mCall SH.f__law_take (gO 0 (gD (mC (.int 4)) gNil))))))) sNil)
 (sSeq (mIf (mB (mBin eqD (mVar 1) (mC (.int 3)))) (sFor (mRange1 (mBin addD (mC (.int 1)) (mFrz (mCall SH.f__law_take (gO 0 (gD (mC (.int 7)) gNil)))))) (tName 4) b1__law_name) sNil)
 (sRet (mD (mVar 3))))))))
noncomputable def f__law_name : Fn := fnOf 5 1 [0] m__law_name
noncomputable abbrev p1__law_names : M Bool := (mB (mBin ninD (mVar 5) (mLook 2)))
noncomputable abbrev b2__law_names : M Fl := (sSeq (sSet 4 (mFrz (mCall SH.f__law_name (gO 0 gNil))))
 (sSeq (mIf (mB (mBin inD (mVar 4) (mLook 2))) (sSet 4 (mBin ixD (mLstF (mLc [5] (mItems (mLstF (mCons (mC (.str "a")) (mCons (mC (.str "b")) (mCons (mC (.str "c")) (mCons (mC (.str "d")) (mCons (mC (.str "e")) (mCons (mC (.str "f")) (mCons (mC (.str "g")) (mCons (mC (.str "h")) mNil)))))))))) (tName 5) p1__law_names (mVar 5))) (mC (.int 0)))) sNil)
 (sDrop (mD (mLM 2 appendD (mCons (mVar 4) mNil))))))
noncomputable def m__law_names : M Fl := (sSeq (sSetO 2 (mLst mNil))
 (sSeq (sFor (mRange1 (mVar 1)) (tName 3) b2__law_names)
 (sRet (mMove 2))))
noncomputable def f__law_names : Fn := fnOf 6 2 [0] m__law_names
noncomputable abbrev w1__law_order : M Bool := (mB (mBin neD (mLook 2) (mLstF mNil)))
noncomputable abbrev b2__law_order : M Fl := (sDrop (mD (mLM 3 appendD (mCons (mLM 2 popD (mCons (mFrz (mCall SH.f__law_take (gO 0 (gD (mF1 lenD (mLook 2)) gNil)))) mNil)) mNil))))
noncomputable def m__law_order : M Fl := (sSeq (sSetO 2 (mLst (mFN listD (mVar 1))))
 (sSeq (sSetO 3 (mLst mNil))
 (sSeq (sWhile w1__law_order b2__law_order)
 (sRet (mMove 3)))))
noncomputable def f__law_order : Fn := fnOf 4 2 [0] m__law_order
noncomputable abbrev p1__law_turn : M Bool := (mB (mBin neD (mVar 7) (mVar 8)))
noncomputable abbrev e2__law_turn : M D := (mTup (mCons (mVar 7) (mCons (mVar 8) mNil)))
noncomputable def m__law_turn : M Fl := (sSeq (sSet 2 (mFrz (mCall SH.f__law_take (gO 0 (gD (mC (.int 3)) gNil)))))
 (sSeq (sSetO 3 (mLst (mFN listD (mVar 1))))
 (sSeq (mIf (mB (mBin eqD (mVar 2) (mC (.int 1)))) (sSeq (sPar 4 5 (mCons (mFrz (mCall SH.f__law_take (gO 0 (gD (mF1 lenD (mVar 1)) gNil)))) (mCons (mFrz (mCall SH.f__law_take (gO 0 (gD (mF1 lenD (mVar 1)) gNil)))) mNil)))
 (sSeq (sSet 6 (mBin ixD (mLook 3) (mVar 4)))
 (sSeq (sPut 3 (mVar 4) (mBin ixD (mLook 3) (mVar 5)))
 (sPut 3 (mVar 5) (mVar 6))))) sNil)
 (sSeq (mIf (mB (mBin eqD (mVar 2) (mC (.int 2)))) (sSetO 3 (mCall SH.f__law_order (gO 0 (gD (mVar 1) gNil)))) sNil)
 (sRet (mD (mF1 tupD (mLstF (mFN sortO (mLstF (mLc [7, 8] (mZip (mVar 1) (mFrzV 3)) (tTup 2 (tsCons (tName 7) (tsCons (tName 8) tsNil))) p1__law_turn e2__law_turn)))))))))))
noncomputable def f__law_turn : Fn := fnOf 9 2 [0] m__law_turn
noncomputable def m__law_strange : M Fl := (sSeq (sSet 1 (mLstF (mCons (mC (.str "")) (mCons (mC (.str "Ab")) (mCons (mC (.str "1a")) (mCons (mC (.str "abcdefghi")) (mCons (mC (.str "a_b")) (mCons (mC (.str "a b")) (mCons (mC (.str "aB")) (mCons (mC (.str "-")) (mCons (mC (.str "a,b")) (mCons (mC (.str "X_1")) (mCons (mBin mulD (mC (.str "a")) (mC (.int 12))) mNil)))))))))))))
 (sSeq (sSet 2 (mLstF (mCons (mC .none) (mCons (mC (.bool true)) (mCons (mC (.int 0)) (mCons (mC (.int 7)) (mCons (mTup (mCons (mC (.str "a")) mNil)) (mCons (mLstF (mCons (mC (.str "a")) mNil)) (mCons (mDict (mConsP (mC (.str "a")) (mC (.str "b")) mNilP)) (mCons (mTup mNil) mNil))))))))))
 (sRet (mD (mBin ixD (mBin addD (mVar 1) (mVar 2)) (mFrz (mCall SH.f__law_take (gO 0 (gD (mC (.int 19)) gNil)))))))))
noncomputable def f__law_strange : Fn := fnOf 3 1 [0] m__law_strange
noncomputable def m__law_said : M Fl := (sSeq (sSetO 2 (mLst mNil))
 (sSeq (sTry (sDrop (mCall SH.f_back_turn (gD (mVar 0) gNil))) [(tabIsa [("NoTurn", true)], (sDrop (mD (mLM 2 appendD (mCons (mC (.str "back")) mNil)))))])
 (sSeq (sTry (sDrop (mCall SH.f_rounds_of (gD (mVar 0) gNil))) [(tabIsa [("NoTurn", true)], (sDrop (mD (mLM 2 appendD (mCons (mC (.str "rounds")) mNil)))))])
 (sSeq (sTry (sDrop (mCall SH.f_swaps_of (gD (mVar 0) gNil))) [(tabIsa [("NoTurn", true)], (sDrop (mD (mLM 2 appendD (mCons (mC (.str "swaps")) mNil)))))])
 (sSeq (sTry (sDrop (mCall SH.f_turned_name (gD (mVar 0) (gD (mVar 1) gNil)))) [(tabIsa [("NoName", false), ("NoTurn", true)], (sDrop (mD (mLM 2 appendD (mCons (mC (.str "turned")) mNil))))), (tabIsa [("NoName", true), ("NoTurn", false)], (sDrop (mD (mLM 2 appendD (mCons (mC (.str "name")) mNil)))))])
 (sRet (mMove 2)))))))
noncomputable abbrev p1_turn_from : M Bool := (mB (mBin neD (mVar 1) (mVar 2)))
noncomputable abbrev e2_turn_from : M D := (mTup (mCons (mVar 1) (mCons (mVar 2) mNil)))
noncomputable def m_turn_from : M Fl := (sRet (mD (mF1 tupD (mLstF (mFN sortO (mLstF (mLc [1, 2] (mItemsP (mVar 0)) (tTup 2 (tsCons (tName 1) (tsCons (tName 2) tsNil))) p1_turn_from e2_turn_from)))))))
noncomputable def f_turn_from : Fn := fnOf 3 1 [] m_turn_from
noncomputable abbrev e1_both_turns : M D := (mFrz (mCall SH.f_led_name (gD (mVar 1) (gD (mFrz (mCall SH.f_led_name (gD (mVar 0) (gD (mVar 3) gNil)))) gNil))))
noncomputable def m_both_turns : M Fl := (sSeq (sSet 2 (mBin addD (mLstF (mLc [3, 4] (mItems (mVar 0)) (tTup 2 (tsCons (tName 3) (tsCons (tName 4) tsNil))) mYes (mVar 3))) (mLstF (mLc [3, 4] (mItems (mVar 1)) (tTup 2 (tsCons (tName 3) (tsCons (tName 4) tsNil))) mYes (mVar 3)))))
 (sRet (mCall SH.f_turn_from (gD (mDcF (mDc [3] (mItems (mVar 2)) (tName 3) mYes (mVar 3) e1_both_turns)) gNil))))
noncomputable def f_both_turns : Fn := fnOf 5 2 [] m_both_turns
noncomputable abbrev p1_apart_in : M Bool := (mB (mBin neD (mFrz (mCall SH.f_led_name (gD (mVar 0) (gD (mVar 3) gNil)))) (mFrz (mCall SH.f_led_name (gD (mVar 1) (gD (mVar 3) gNil))))))
noncomputable def m_apart_in : M Fl := (sSeq (sSet 2 (mLstF (mSortK (mSetOr (mSetC (mLcN ⟨[3, 4], (tTup 2 (tsCons (tName 3) (tsCons (tName 4) tsNil))), mYes⟩ (mItems (mVar 0)) (cEnd (mTxt (mVar 3))))) (mSetC (mLcN ⟨[3, 4], (tTup 2 (tsCons (tName 3) (tsCons (tName 4) tsNil))), mYes⟩ (mItems (mVar 1)) (cEnd (mTxt (mVar 3)))))))))
 (sRet (mLst (mLc [3] (mItems (mVar 2)) (tName 3) p1_apart_in (mVar 3)))))
noncomputable def f_apart_in : Fn := fnOf 5 2 [] m_apart_in
noncomputable def m_then_turn : M Fl := (sSeq (sDrop (mCall SH.f_sure_turns (gD (mLstF (mCons (mVar 0) (mCons (mVar 1) mNil))) gNil)))
 (sRet (mCall SH.f_both_turns (gD (mVar 0) (gD (mVar 1) gNil)))))
noncomputable def f_then_turn : Fn := fnOf 2 2 [] m_then_turn
noncomputable def m_apart_names : M Fl := (sSeq (sDrop (mCall SH.f_sure_turns (gD (mLstF (mCons (mVar 0) (mCons (mVar 1) mNil))) gNil)))
 (sRet (mCall SH.f_apart_in (gD (mVar 0) (gD (mVar 1) gNil)))))
noncomputable def f_apart_names : Fn := fnOf 2 2 [] m_apart_names
end SH
end
section
set_option maxRecDepth 100000
set_option maxHeartbeats 0
namespace ST
open PySem PySem.Spec PyProof.Rows L2 DL
noncomputable def m_is_hole : M Fl := (sRet (mCall SH.f_is_called (gD (mVar 0) (gD (mC (.str "ABCDEFGHIJKLMNOPQRSTUVWXYZ")) gNil))))
noncomputable def f_is_hole : Fn := fnOf 1 1 [] m_is_hole
noncomputable abbrev e1_is_term (R : Fn) : M D := (mFrz (mCall R (gD (mVar 4) gNil)))
noncomputable def m_is_term (R : Fn) : M Fl := (sSeq (mIf (mOr (mNot (mB (mF1 (isiD .tup) (mVar 0)))) (mOr (mB (mBin ninD (mF1 lenD (mVar 0)) (mTup (mCons (mC (.int 2)) (mCons (mC (.int 3)) mNil))))) (mNot (mB (mF1 (isiD .str) (mBin ixD (mVar 0) (mC (.int 0)))))))) (sRet (mD (mC (.bool false)))) sNil)
 (sSeq (mIf (mB (mBin eqD (mF1 lenD (mVar 0)) (mC (.int 2)))) (sRet (mD (mAndV (mBin eqD (mBin ixD (mVar 0) (mC (.int 0))) (mC (.str "name"))) (mFrz (mCall SH.f_is_name (gD (mBin ixD (mVar 0) (mC (.int 1))) gNil)))))) sNil)
 (sSeq (sTgt (tTup 3 (tsCons (tName 1) (tsCons (tName 2) (tsCons (tName 3) tsNil)))) (mVar 0))
 (sSeq (mIf (mB (mBin eqD (mVar 1) (mC (.str "hole")))) (sRet (mD (mAndV (mFrz (mCall SH.f_is_turn (gD (mVar 2) gNil))) (mFrz (mCall ST.f_is_hole (gD (mVar 3) gNil)))))) sNil)
 (sSeq (mIf (mB (mBin eqD (mVar 1) (mC (.str "shut")))) (sRet (mD (mAndV (mFrz (mCall SH.f_is_name (gD (mVar 2) gNil))) (mFrz (mCall R (gD (mVar 3) gNil)))))) sNil)
 (sRet (mD (mAndV (mBin eqD (mVar 1) (mC (.str "sign"))) (mAndV (mFrz (mCall SH.f_is_name (gD (mVar 2) gNil))) (mAndV (mF1 (isiD .tup) (mVar 3)) (mF1 allD (mLstF (mLc [4] (mItems (mVar 3)) (tName 4) mYes (e1_is_term R))))))))))))))
noncomputable def f_is_term : Nat → Fn
  | 0 => fun _ => .bad
  | n + 1 => fnOf 5 1 [] (m_is_term (f_is_term n))
noncomputable abbrev b1_sure_terms : M Fl := (mIf (mNot (mB (mFrz (mCall (ST.f_is_term 40) (gD (mVar 1) gNil))))) (sRaise "NoTerm") sNil)
noncomputable def m_sure_terms : M Fl := (sFor (mItems (mVar 0)) (tName 1) b1_sure_terms)
noncomputable def f_sure_terms : Fn := fnOf 2 1 [] m_sure_terms
noncomputable def m_inner : M Fl := (sSeq (mIf (mB (mBin eqD (mBin ixD (mVar 0) (mC (.int 0))) (mC (.str "shut")))) (sRet (mD (mTup (mCons (mBin ixD (mVar 0) (mC (.int 2))) mNil)))) sNil)
 (sSeq (mIf (mB (mBin eqD (mBin ixD (mVar 0) (mC (.int 0))) (mC (.str "sign")))) (sRet (mD (mBin ixD (mVar 0) (mC (.int 2))))) sNil)
 (sRet (mD (mTup mNil)))))
noncomputable def f_inner : Fn := fnOf 1 1 [] m_inner
noncomputable abbrev b1_every_part (R : Fn) : M Fl := (sDrop (mD (mExtend 1 (mFrz (mCall R (gD (mVar 2) gNil))))))
noncomputable def m_every_part (R : Fn) : M Fl := (sSeq (sSetO 1 (mLst (mCons (mVar 0) mNil)))
 (sSeq (sFor (mItems (mFrz (mCall ST.f_inner (gD (mVar 0) gNil)))) (tName 2) (b1_every_part R))
 (sRet (mMove 1))))
noncomputable def f_every_part : Nat → Fn
  | 0 => fun _ => .bad
  | n + 1 => fnOf 3 1 [] (m_every_part (f_every_part n))
noncomputable def m_own_names : M Fl := (sSeq (mIf (mB (mBin inD (mBin ixD (mVar 0) (mC (.int 0))) (mTup (mCons (mC (.str "name")) (mCons (mC (.str "shut")) mNil))))) (sRet (mLst (mCons (mBin ixD (mVar 0) (mC (.int 1))) mNil))) sNil)
 (sSeq (mIf (mB (mBin eqD (mBin ixD (mVar 0) (mC (.int 0))) (mC (.str "hole")))) (sRet (mLst (mLc [1, 2] (mItems (mBin ixD (mVar 0) (mC (.int 1)))) (tTup 2 (tsCons (tName 1) (tsCons (tName 2) tsNil))) mYes (mVar 1)))) sNil)
 (sRet (mLst mNil))))
noncomputable def f_own_names : Fn := fnOf 3 1 [] m_own_names
noncomputable abbrev i1_all_names : M (List D) := (mItems (mFrz (mCall (ST.f_every_part 40) (gD (mVar 1) gNil))))
noncomputable abbrev i2_all_names : M (List D) := (mItems (mFrz (mCall ST.f_own_names (gD (mVar 2) gNil))))
noncomputable def m_all_names : M Fl := (sRet (mLst (mSortK (mSetC (mLcN ⟨[1, 2, 3], (tName 1), mYes⟩ (mItems (mVar 0)) (cIn ⟨[2, 3], (tName 2), mYes⟩ i1_all_names (cIn ⟨[3], (tName 3), mYes⟩ i2_all_names (cEnd (mTxt (mVar 3))))))))))
noncomputable def f_all_names : Fn := fnOf 4 1 [] m_all_names
noncomputable def m_names_in : M Fl := (sSeq (sDrop (mCall ST.f_sure_terms (gD (mLstF (mCons (mVar 0) mNil)) gNil)))
 (sRet (mCall ST.f_all_names (gD (mLstF (mCons (mVar 0) mNil)) gNil))))
noncomputable def f_names_in : Fn := fnOf 1 1 [] m_names_in
noncomputable abbrev b1__law_holes : M Fl := (sSet 5 (mBin addD (mVar 5) (mBin ixD (mBin addD (mVar 2) (mC (.str "0123456789"))) (mFrz (mCall SH.f__law_take (gO 0 (gD (mC (.int 36)) gNil)))))))
noncomputable abbrev p2__law_holes : M Bool := (mB (mBin ninD (mVar 7) (mLook 3)))
noncomputable abbrev b3__law_holes : M Fl := (sSeq (sSet 5 (mBin ixD (mVar 2) (mFrz (mCall SH.f__law_take (gO 0 (gD (mC (.int 26)) gNil))))))
 (sSeq (mIf (mB (mBin eqD (mFrz (mCall SH.f__law_take (gO 0 (gD (mC (.int 3)) gNil)))) (mC (.int 2)))) (sFor (mRange1 (mFrz (mCall SH.f__law_take (gO 0 (gD (mC (.int 8)) gNil))))) (tName 6) b1__law_holes) sNil)
 (sSeq (mIf (mB (mBin inD (mVar 5) (mLook 3))) (sSet 5 (mBin ixD (mLstF (mLc [7] (mItems (mLstF (mCons (mC (.str "X")) (mCons (mC (.str "Y")) (mCons (mC (.str "Z")) (mCons (mC (.str "X1")) (mCons (mC (.str "Y1")) (mCons (mC (.str "Z1")) mNil)))))))) (tName 7) p2__law_holes (mVar 7))) (mC (.int 0)))) sNil)
 (sDrop (mD (mLM 3 appendD (mCons (mVar 5) mNil)))))))
noncomputable def m__law_holes : M Fl := (sSeq (sSet 2 (mC (.str "ABCDEFGHIJKLMNOPQRSTUVWXYZ")))
 (sSeq (sSetO 3 (mLst mNil))
 (sSeq (sFor (mRange1 (mVar 1)) (tName 4) b3__law_holes)
 (sRet (mMove 3)))))
noncomputable def f__law_holes : Fn := fnOf 8 2 [0] m__law_holes
noncomputable def m__law_sign : M Fl := (sRet (mD (mBin ixD (mLstF (mCons (mC (.str "f")) (mCons (mC (.str "g")) (mCons (mC (.str "h")) (mCons (mBin ixD (mVar 1) (mC (.int 0))) mNil))))) (mFrz (mCall SH.f__law_take (gO 0 (gD (mC (.int 4)) gNil)))))))
noncomputable def f__law_sign : Fn := fnOf 2 2 [0] m__law_sign
end ST
end
section
set_option maxRecDepth 100000
set_option maxHeartbeats 0
set_option exponentiation.threshold 3000
namespace SH
open PySem PySem.Spec PyProof.Rows L2 DL
theorem mixed (c k : Int) (hc : 0 ≤ c) (hc2 : c < 2 ^ 32) (hk : 0 ≤ k) (hk2 : k < 2 ^ 60) : ∃ r : Int, 0 ≤ r ∧ f__law_mixed [.d (.int c), .d (.int k)] = .ok (.d (.int r)) [some (.d (.int c)), some (.d (.int k))] := by
  have a1 := Int.emod_nonneg (c * 48271 + k * 69621 + 11) (b := 2147483629) (by decide)
  have a2 := Int.emod_lt_of_pos (c * 48271 + k * 69621 + 11) (b := 2147483629) (by decide)
  generalize hn : (c * 48271 + k * 69621 + 11) % 2147483629 = n at a1 a2
  have b1 := Int.emod_nonneg (n * n) (b := 2147483587) (by decide)
  have b2 := Int.emod_lt_of_pos (n * n) (b := 2147483587) (by decide)
  generalize hm : n * n % 2147483587 = m at b1 b2
  have d1 := Int.emod_nonneg (m * m) (b := 2147483549) (by decide)
  refine ⟨m * m % 2147483549 / 64, by omega, ?_⟩
  have e1 : mulD (.int c) (.int 48271) = some (.int (c * 48271)) := mul_p (by omega) (by omega)
  have e2 : mulD (.int k) (.int 69621) = some (.int (k * 69621)) := mul_p (by omega) (by omega)
  have e3 : mulD (.int n) (.int n) = some (.int (n * n)) := mul_p (by omega) (by omega)
  have e4 : mulD (.int m) (.int m) = some (.int (m * m)) := mul_p (by omega) (by omega)
  simp [f__law_mixed, m__law_mixed, fnOf, e1, e2, mod_i, hn, e3, hm, e4, div_p, outsOf]
theorem ix3 {a b c : D} : ixD (.list [a, b, c]) (.int 0) = some a ∧ ixD (.list [a, b, c]) (.int 1) = some b ∧ ixD (.list [a, b, c]) (.int 2) = some c := ⟨rfl, rfl, rfl⟩
structure Pile (B : Nat) (p : List D) : Prop where
  ex : ∃ d m j : Int, p = [.int d, .int m, .int j] ∧ 0 ≤ d ∧ 0 ≤ m ∧ m < 2 ^ 32 ∧ 0 ≤ j ∧ j ≤ B
theorem Pile.up {B C : Nat} {p : List D} (h : Pile B p) (hl : B ≤ C) : Pile C p := by
  obtain ⟨d, m, j, e, h1, h2, h3, h4, h5⟩ := h.ex
  exact ⟨d, m, j, e, h1, h2, h3, h4, by omega⟩
theorem take_ok {B : Nat} (hB : B < 2 ^ 50) {p : List D} (h : Pile B p) (n : Int) (hn : 0 < n) (hn2 : n < 2 ^ 60) : ∃ (r : Int) (p' : List D), 0 ≤ r ∧ r < n ∧ Pile (B + 1) p' ∧ f__law_take [.lst p, .d (.int n)] = .ok (.d (.int r)) [some (.lst p'), some (.d (.int n))] := by
  obtain ⟨d, m, j, rfl, h1, h2, h3, h4, h5⟩ := h.ex
  by_cases hd : d = 0
  · subst hd
    obtain ⟨r, hr, e⟩ := mixed m (j + 1) h2 h3 (by omega) (by omega)
    refine ⟨r % n, _, Int.emod_nonneg _ (by omega), Int.emod_lt_of_pos _ hn, ⟨0, m, j + 1, rfl, by omega, h2, h3, by omega, by omega⟩, ?_⟩
    simp [f__law_take, m__law_take, fnOf, ix3.1, ix3.2.1, ix3.2.2, eq_i, e, mod_i, hn, outsOf, ixN]
  · refine ⟨d % n, _, Int.emod_nonneg _ (by omega), Int.emod_lt_of_pos _ hn, ⟨d / n, m, j, rfl, Int.ediv_nonneg h1 (by omega), h2, h3, h4, by omega⟩, ?_⟩
    have e : divD (.int d) (.int n) = some (.int (d / n)) := div_p hn (by omega)
    simp [f__law_take, m__law_take, fnOf, ix3.1, ix3.2.1, ix3.2.2, eq_i, hd, e, mod_i, hn, outsOf, ixN]
end SH
end
section
set_option maxRecDepth 100000
set_option maxHeartbeats 0
set_option exponentiation.threshold 3000
namespace SH
open PySem PySem.Spec PyProof.Rows L2 DL
theorem pile_ok (ns : List Int) (k : Nat) (hk : k < 1000) : ∃ p, Pile (131 * k) p ∧ f__law_pile [.d (scrD ns), .d (.int k)] = .ok (.lst p) [some (.d (scrD ns)), some (.d (.int k))] := by
  have p1 : powD (.int 10) (.int 60) = some (.int (10 ^ 60)) := by rfl
  have p2 : powD (.int 10) (.int 18) = some (.int (10 ^ 18)) := by rfl
  have q1 : mulD (.int (10 ^ 60)) (.int (10 ^ 60)) = some (.int (10 ^ 60 * 10 ^ 60)) := mul_b (by decide) (by decide)
  have q2 : mulD (.int (10 ^ 60 * 10 ^ 60)) (.int (10 ^ 60)) = some (.int (10 ^ 60 * 10 ^ 60 * 10 ^ 60)) := mul_b (by decide) (by decide)
  have q3 : mulD (.int 131) (.int (k : Int)) = some (.int (131 * (k : Int))) := mul_p (by omega) (by omega)
  have main : ∀ c : Int, ∃ dg : Int, 0 ≤ dg ∧ (mulD (.int (c % (10 ^ 60 * 10 ^ 60 * 10 ^ 60))) (.int (if decide (10 ^ 18 ≤ (if c < 0 then -c else c)) = true then 1 else 0))) = some (.int dg) := fun c => by
    have a1 := Int.emod_nonneg c (b := 10 ^ 60 * 10 ^ 60 * 10 ^ 60) (by decide)
    have a2 := Int.emod_lt_of_pos c (b := 10 ^ 60 * 10 ^ 60 * 10 ^ 60) (by decide)
    have a3 : ((10 : Int) ^ 60 * 10 ^ 60 * 10 ^ 60) < 2 ^ 900 := by decide
    have a4 : ((2 : Int) ^ 900) = ((2 ^ 900 : Nat) : Int) := by norm_cast
    generalize c % (10 ^ 60 * 10 ^ 60 * 10 ^ 60) = x at a1 a2
    have a5 : x.natAbs < 2 ^ 900 := by omega
    by_cases hc : 10 ^ 18 ≤ (if c < 0 then -c else c)
    · rw [decide_eq_true hc, if_pos rfl]
      exact ⟨x * 1, by omega, mul_b (j := 1) a5 (by decide)⟩
    · rw [decide_eq_false hc, if_neg Bool.false_ne_true]
      exact ⟨x * 0, by omega, mul_b (j := 0) a5 (by decide)⟩
  have mm : ∀ c : Int, 0 ≤ c % 2147483629 ∧ c % 2147483629 < 2 ^ 32 := fun c => by
    have a1 := Int.emod_nonneg c (b := 2147483629) (by decide)
    have a2 := Int.emod_lt_of_pos c (b := 2147483629) (by decide)
    omega
  have len : lenD (scrD ns) = some (.int ns.length) := by simp [lenD, scrD, cells]
  by_cases hl : (k : Int) < ns.length
  · obtain ⟨c, hc⟩ : ∃ c : Int, ixD (scrD ns) (.int k) = some (.int c) := by
      obtain ⟨x, h1, h2⟩ := atI_nat (xs := ns.map PyData.int) (i := (k : Int)) (by omega) (by rw [List.length_map]; exact hl)
      rw [List.getElem?_map] at h2
      obtain ⟨y, _, rfl⟩ := Option.map_eq_some_iff.mp h2
      exact ⟨y, by simp [ixD, scrD, cells, h1]⟩
    obtain ⟨dg, h0, h1⟩ := main c
    refine ⟨[.int dg, .int (c % 2147483629), .int (131 * k)], ⟨dg, _, _, rfl, h0, (mm c).1, (mm c).2, by omega, by omega⟩, ?_⟩
    simp only [f__law_pile, m__law_pile, fnOf]
    simp [len, ltD, hl, hc, p1, p2, mul_b, q3, mod_i, absD, geD, DL.intD, outsOf] at h1 ⊢
    simp [q3, mod_i, h1, outsOf]
  · obtain ⟨dg, h0, h1⟩ := main 0
    refine ⟨[.int dg, .int 0, .int (131 * k)], ⟨dg, _, _, rfl, h0, by omega, by omega, by omega, by omega⟩, ?_⟩
    simp only [f__law_pile, m__law_pile, fnOf]
    simp [len, ltD, hl, p1, p2, mul_b, q3, mod_i, absD, geD, DL.intD, outsOf] at h1 ⊢
    try simp [q3, mod_i, h1, outsOf]
end SH
end
section
set_option maxRecDepth 100000
set_option maxHeartbeats 0
set_option exponentiation.threshold 3000
namespace SH
open PySem PySem.Spec PyProof.Rows L2 DL
def isSm (c : Nat) : Prop := 97 ≤ c ∧ c ≤ 122
def isFg (c : Nat) : Prop := 48 ≤ c ∧ c ≤ 57
instance (c : Nat) : Decidable (isSm c) := inferInstanceAs (Decidable (_ ∧ _))
instance (c : Nat) : Decidable (isFg c) := inferInstanceAs (Decidable (_ ∧ _))
abbrev abc : Str := "abcdefghijklmnopqrstuvwxyz"
abbrev fig : Str := "0123456789"
theorem abc_cps : abc.cps.toList = (List.range 26).map (97 + ·) := by decide +kernel
theorem fig_cps : fig.cps.toList = (List.range 10).map (48 + ·) := by decide +kernel
theorem mem_abc (c : Nat) : c ∈ abc.cps.toList ↔ isSm c := by
  rw [abc_cps, List.mem_map]
  constructor
  · rintro ⟨k, hk, rfl⟩
    have := List.mem_range.mp hk
    exact ⟨by omega, by omega⟩
  · rintro ⟨h1, h2⟩
    exact ⟨c - 97, List.mem_range.mpr (by omega), by omega⟩
theorem mem_fig (c : Nat) : c ∈ fig.cps.toList ↔ isFg c := by
  rw [fig_cps, List.mem_map]
  constructor
  · rintro ⟨k, hk, rfl⟩
    have := List.mem_range.mp hk
    exact ⟨by omega, by omega⟩
  · rintro ⟨h1, h2⟩
    exact ⟨c - 48, List.mem_range.mpr (by omega), by omega⟩
theorem abc_len : abc.length = 26 := by decide +kernel
theorem fig_len : fig.length = 10 := by decide +kernel
theorem str_len (s : Str) : s.cps.toList.length = s.length := by simp [Str.length]
theorem app_cps (a b : Str) : (a ++ b).cps.toList = a.cps.toList ++ b.cps.toList := by
  show (a.cps ++ b.cps).toList = _
  simp
theorem app_len (a b : Str) : (a ++ b).length = a.length + b.length := by
  rw [← str_len, app_cps, List.length_append, str_len, str_len]
theorem ix_str {z : Str} {r : Int} (hz : z.length ≤ sizeLine) (h0 : 0 ≤ r) (h1 : r < z.length) : ∃ c, c ∈ z.cps.toList ∧ ixD (.str z) (.int r) = some (.str ⟨#[c]⟩) := by
  obtain ⟨c, e1, e2⟩ := atI_nat (xs := z.cps.toList) h0 (by rw [str_len]; exact h1)
  refine ⟨c, List.mem_of_getElem? e2, ?_⟩
  simp [ixD, hz, e1]
theorem size_big : 1000 ≤ sizeLine := by decide +kernel
structure NmS (s : Str) : Prop where
  len : s.length ≤ 8
  hd : ∃ c r, s.cps.toList = c :: r ∧ isSm c
  all : ∀ c ∈ s.cps.toList, isSm c ∨ isFg c
theorem nm_one {c : Nat} (h : isSm c) : NmS ⟨#[c]⟩ := ⟨by simp [Str.length], ⟨c, [], rfl, h⟩, fun d hd => by simp at hd; subst hd; exact .inl h⟩
theorem nm_app {s : Str} {c : Nat} (h : NmS s) (hl : s.length < 8) (hc : isSm c ∨ isFg c) : NmS (s ++ ⟨#[c]⟩) := by
  refine ⟨by rw [app_len]; simp [Str.length] at hl ⊢; omega, ?_, fun d hd => ?_⟩
  · obtain ⟨a, r, e, h1⟩ := h.hd
    exact ⟨a, r ++ [c], by rw [app_cps, e]; rfl, h1⟩
  · rw [app_cps] at hd
    rcases List.mem_append.mp hd with hd | hd
    · exact h.all d hd
    · simp at hd
      subst hd
      exact hc
theorem add_str {a b : Str} (h : a.length + b.length ≤ 1000) : addD (.str a) (.str b) = some (.str (a ++ b)) := by
  have := size_big
  exact if_pos (by omega)
theorem one_len (c : Nat) : (⟨#[c]⟩ : Str).length = 1 := rfl
theorem dig_of {r : Int} {c : Nat} (h : r.natAbs.log2 < 1920) (e : Str.ofString (toString r) = ⟨#[c]⟩) : strD (.int r) = some (.str ⟨#[c]⟩) := by
  have z : strD (.int r) = if r.natAbs.log2 < 1920 then some (.str (Str.ofString (toString r))) else none := rfl
  rw [z, if_pos h, e]
theorem dig (r : Int) (h0 : 0 ≤ r) (h1 : r < 4) : ∃ c, isFg c ∧ strD (.int r) = some (.str ⟨#[c]⟩) := by
  have : r = 0 ∨ r = 1 ∨ r = 2 ∨ r = 3 := by omega
  rcases this with rfl | rfl | rfl | rfl
  · exact ⟨48, by decide, dig_of (by decide) (by decide +kernel)⟩
  · exact ⟨49, by decide, dig_of (by decide) (by decide +kernel)⟩
  · exact ⟨50, by decide, dig_of (by decide) (by decide +kernel)⟩
  · exact ⟨51, by decide, dig_of (by decide) (by decide +kernel)⟩
theorem name_ok {B : Nat} (hB : B < 2 ^ 49) {p : List D} (h : Pile B p) : ∃ (s : Str) (p' : List D), NmS s ∧ Pile (B + 20) p' ∧ f__law_name [.lst p] = .ok (.d (.str s)) [some (.lst p')] := by
  have big := size_big
  obtain ⟨kd, p1, h0, h1, hp1, e1⟩ := take_ok (by omega) h 4 (by omega) (by omega)
  have la : abc.length ≤ sizeLine := by rw [abc_len]; omega
  have first : ∀ n : Int, 0 < n → n ≤ 26 → ∃ (c : Nat) (r : Int) (p2 : List D), isSm c ∧ Pile (B + 2) p2 ∧ f__law_take [.lst p1, .d (.int n)] = .ok (.d (.int r)) [some (.lst p2), some (.d (.int n))] ∧ ixD (.str abc) (.int r) = some (.str ⟨#[c]⟩) := fun n a b => by
    obtain ⟨r, p2, q0, q1, hp2, e2⟩ := take_ok (by omega) hp1 n a (by omega)
    obtain ⟨c, hc, e3⟩ := ix_str la q0 (by rw [abc_len]; omega)
    exact ⟨c, r, p2, (mem_abc c).mp hc, hp2, e2, e3⟩
  have i0 : ixD (.list [.int 5, .int 26]) (.int 0) = some (.int 5) := rfl
  have i1 : ixD (.list [.int 5, .int 26]) (.int 1) = some (.int 26) := rfl
  have : kd = 0 ∨ kd = 1 ∨ kd = 2 ∨ kd = 3 := by omega
  rcases this with rfl | rfl | rfl | rfl
  · obtain ⟨c, r, p2, hc, hp2, e2, e3⟩ := first 5 (by omega) (by omega)
    refine ⟨_, p2, nm_one hc, hp2.up (by omega), ?_⟩
    simp [f__law_name, m__law_name, fnOf, e1, gtD, DL.intD, i0, e2, e3, eq_i, outsOf]
  · obtain ⟨c, r, p2, hc, hp2, e2, e3⟩ := first 5 (by omega) (by omega)
    obtain ⟨k, p3, q0, q1, hp3, e4⟩ := take_ok (by omega) hp2 4 (by omega) (by omega)
    obtain ⟨d, hd, e5⟩ := dig k q0 q1
    refine ⟨_, p3, nm_app (nm_one hc) (by simp [Str.length]) (.inr hd), hp3.up (by omega), ?_⟩
    have e6 : addD (.str ⟨#[c]⟩) (.str ⟨#[d]⟩) = some (.str (⟨#[c]⟩ ++ ⟨#[d]⟩)) := add_str (by rw [one_len, one_len]; omega)
    simp [f__law_name, m__law_name, fnOf, e1, gtD, DL.intD, i0, e2, e3, eq_i, e4, e5, e6, outsOf]
  · obtain ⟨c, r, p2, hc, hp2, e2, e3⟩ := first 26 (by omega) (by omega)
    refine ⟨_, p2, nm_one hc, hp2.up (by omega), ?_⟩
    simp [f__law_name, m__law_name, fnOf, e1, gtD, DL.intD, i1, e2, e3, eq_i, outsOf]
  · obtain ⟨c, r, p2, hc, hp2, e2, e3⟩ := first 26 (by omega) (by omega)
    obtain ⟨k, p3, q0, q1, hp3, e4⟩ := take_ok (by omega) hp2 7 (by omega) (by omega)
    have hr : range1 (.int (1 + k)) = some (rangeL 0 (1 + k).toNat) := by
      show (if _ then _ else _) = _
      rw [if_pos]
      exact ⟨by omega, by omega⟩
    have hlen : (rangeL 0 (1 + k).toNat).length = (1 + k).toNat := by unfold rangeL; simp
    have af : addD (.str abc) (.str fig) = some (.str (abc ++ fig)) := add_str (by rw [abc_len, fig_len]; omega)
    have lf : (abc ++ fig).length = 36 := by rw [app_len, abc_len, fig_len]
    obtain ⟨ρ', f1, s, q, w, rfl, f2, f3, f4⟩ := forGo_inv (t := tName 4) (b := sSet 3 (mBin addD (mVar 3) (mBin ixD (mBin addD (mVar 2) (mC (.str fig))) (mFrz (mCall f__law_take (gO 0 (gD (mC (.int 36)) gNil)))))))
      (xs := rangeL 0 (1 + k).toNat) (ρ := [some (.lst p3), some (.d (.int 3)), some (.d (.str abc)), some (.d (.str ⟨#[c]⟩)), none])
      (fun i ρ => ∃ s q w, ρ = [some (.lst q), some (.d (.int 3)), some (.d (.str abc)), some (.d (.str s)), w] ∧ NmS s ∧ s.length = 1 + i ∧ Pile (B + 3 + i) q)
      ⟨_, p3, none, rfl, nm_one hc, rfl, hp3.up (by omega)⟩ (fun i x ρ hx ⟨s, q, w, e, n1, n2, n3⟩ => by
        subst e
        have hi : i < 7 := by
          have := (List.getElem?_eq_some_iff.mp hx).1
          omega
        obtain ⟨t, q', t0, t1, hq', e5⟩ := take_ok (by omega) n3 36 (by omega) (by omega)
        obtain ⟨d, hd, e6⟩ := ix_str (z := abc ++ fig) (r := t) (by omega) t0 (by omega)
        have hd' : isSm d ∨ isFg d := by
          rw [app_cps] at hd
          rcases List.mem_append.mp hd with hd | hd
          · exact .inl ((mem_abc d).mp hd)
          · exact .inr ((mem_fig d).mp hd)
        refine ⟨_, _, rfl, ?_, s ++ ⟨#[d]⟩, q', some (.d x), rfl, nm_app n1 (by omega) hd', by rw [app_len, n2, one_len]; omega, hq'.up (by omega)⟩
        have ad : addD (.str s) (.str ⟨#[d]⟩) = some (.str (s ++ ⟨#[d]⟩)) := add_str (by rw [one_len]; omega)
        simp [e5, af, e6, ad] <;> simp [e5, af, e6, ad])
    refine ⟨s, q, f2, f4.up (by omega), ?_⟩
    simp [f__law_name, m__law_name, fnOf, e1, gtD, DL.intD, i1, e2, e3, eq_i, e4, hr]
    try simp at f1
    simp [f1, outsOf]
end SH
end
section
set_option maxRecDepth 100000
set_option maxHeartbeats 0
set_option exponentiation.threshold 3000
namespace SH
open PySem PySem.Spec PyProof.Rows L2 DL
def okC (c : Nat) : Bool := decide (isSm c) || decide (isFg c)
def nmS (s : Str) : Bool := decide (s.length ≤ 8) && (match s.cps.toList with
  | [] => false
  | c :: _ => decide (isSm c)) && s.cps.toList.all okC
def nmB : D → Bool
  | .str s => nmS s
  | _ => false
structure FitS (s : Str) : Prop where
  len : s.length ≤ 20
  ok : PyData.strOk s = true
def isStrB : D → Bool
  | .str _ => true
  | _ => false
def gCh : D → D
  | .str s => .bool (okC (s.cps.toList.headD 0))
  | _ => .none
def FitM : D → Prop
  | .str s => FitS s
  | .dict kvs => cells kvs = none
  | _ => True
theorem strIn_one (c : Nat) (z : Str) : strIn ⟨#[c]⟩ z = decide (c ∈ z.cps.toList) := rfl
theorem in_abc (c : Nat) : inD (.str ⟨#[c]⟩) (.str abc) = some (.bool (decide (isSm c))) := by
  have : strIn ⟨#[c]⟩ abc = decide (isSm c) := by rw [strIn_one]; exact decide_eq_decide.mpr (mem_abc c)
  show some (PyData.bool (strIn ⟨#[c]⟩ abc)) = _
  rw [this]
theorem in_fig (c : Nat) : inD (.str ⟨#[c]⟩) (.str fig) = some (.bool (decide (isFg c))) := by
  have : strIn ⟨#[c]⟩ fig = decide (isFg c) := by rw [strIn_one]; exact decide_eq_decide.mpr (mem_fig c)
  show some (PyData.bool (strIn ⟨#[c]⟩ fig)) = _
  rw [this]
theorem nin_abc (c : Nat) : ninD (.str ⟨#[c]⟩) (.str abc) = some (.bool (!decide (isSm c))) := by
  have : strIn ⟨#[c]⟩ abc = decide (isSm c) := by rw [strIn_one]; exact decide_eq_decide.mpr (mem_abc c)
  show some (PyData.bool (!strIn ⟨#[c]⟩ abc)) = _
  rw [this]
theorem ix_0 {s : Str} {c : Nat} {r : List Nat} (h : s.length ≤ sizeLine) (e : s.cps.toList = c :: r) : ixD (.str s) (.int 0) = some (.str ⟨#[c]⟩) := by
  have : atI s.cps.toList 0 = some c := by rw [e]; simp [atI, ixN]
  simp [ixD, h, this]
theorem isi_str (x : D) (h : FitM x) : isiD .str x = some (.bool (isStrB x)) := by
  cases x with
  | dict kvs =>
    have h : cells kvs = none := h
    simp [isiD, isT, h, isStrB]
  | _ => rfl
theorem bools_map (l : List Nat) : boolsD ((l.map fun c => PyData.str ⟨#[c]⟩).map gCh) = some (l.map okC) := by
  induction l with
  | nil => rfl
  | cons c l ih =>
    simp only [List.map_cons]
    show (boolsD ((l.map fun c => PyData.str ⟨#[c]⟩).map gCh)).map (okC c :: ·) = _
    rw [ih]
    rfl
theorem is_called_ok (x : D) (h : FitM x) : f_is_called [.d x, .d (.str abc)] = .ok (.d (.bool (nmB x))) [some (.d x), some (.d (.str abc))] := by
  have isi := isi_str x h
  cases x with
  | str s =>
    have h : FitS s := h
    have big := size_big
    have hl : s.length ≤ sizeLine := by have := h.len; omega
    have len : lenD (.str s) = some (.int s.length) := if_pos hl
    by_cases e0 : s.cps.toList = []
    · have l0 : s.length = 0 := by rw [← str_len, e0]; rfl
      have : nmB (.str s) = false := by simp [nmB, nmS, e0]
      rw [this]
      simp [f_is_called, m_is_called, fnOf, isi, isStrB, len, l0, leD, outsOf]
    · obtain ⟨c, r, e⟩ := List.exists_cons_of_ne_nil e0
      have l1 : 1 ≤ s.length := by rw [← str_len, e]; simp
      have x0 := ix_0 hl e
      have l1i : (1 : Int) ≤ (s.length : Int) := by omega
      by_cases l8 : s.length ≤ 8
      · have l8i : (s.length : Int) ≤ 8 := by omega
        by_cases hc : isSm c
        · have it : itemsD (.str s) = some (charsD s) := if_pos hl
          have nm : nmB (.str s) = s.cps.toList.all okC := by simp [nmB, nmS, l8, e, hc]
          have lc := lcGo_pure (vs := [2]) (t := tName 2) (tst := mYes) (e := mOrV (mBin inD (mVar 2) (mVar 1)) (mBin inD (mVar 2) (mC (.str fig)))) (p := fun _ => true) (g := gCh) (ρ := [some (.d (.str s)), some (.d (.str abc)), none]) (xs := charsD s) fun x hx => by
              unfold charsD at hx
              obtain ⟨d, hd, rfl⟩ := List.mem_map.mp hx
              refine ⟨_, _, rfl, ⟨rfl, fun z => absurd z (by simp), fun _ => ⟨[some (.d (.str s)), some (.d (.str abc)), some (.d (.str ⟨#[d]⟩))], ?_, rfl⟩⟩⟩
              by_cases q1 : isSm d <;> simp [in_abc, in_fig, q1, okC, gCh]
          have fi : (charsD s).filter (fun _ => true) = charsD s := List.filter_eq_self.mpr fun _ _ => rfl
          rw [fi] at lc
          have bl := bools_map s.cps.toList
          have al : allD (.list ((charsD s).map gCh)) = some (.bool (s.cps.toList.all okC)) := by
            simp only [allD, charsD, bl]
            simp
          rw [nm]
          simp [f_is_called, m_is_called, fnOf, isi, isStrB, len, l1i, l8i, leD, x0, nin_abc, hc, it, dataAt, lc, al, backE, outsOf]
        · have nm : nmB (.str s) = false := by simp [nmB, nmS, e, hc]
          rw [nm]
          simp [f_is_called, m_is_called, fnOf, isi, isStrB, len, l1i, l8i, leD, x0, nin_abc, hc, outsOf]
      · have nm : nmB (.str s) = false := by simp [nmB, nmS, l8]
        have l8i : ¬ (s.length : Int) ≤ 8 := by omega
        rw [nm]
        simp [f_is_called, m_is_called, fnOf, isi, isStrB, len, l1i, l8i, leD, outsOf]
  | _ => simp [f_is_called, m_is_called, fnOf, isi, isStrB, isStrB, nmB, outsOf]
theorem is_name_ok (x : D) (h : FitM x) : f_is_name [.d x] = .ok (.d (.bool (nmB x))) [some (.d x)] := by
  simp [f_is_name, m_is_name, fnOf, is_called_ok x h, outsOf]
theorem canAll {xs : List D} (h : ∀ x ∈ xs, x.canLay0 = true) : PyData.canLayAll0 xs = true := by
  induction xs with
  | nil => rfl
  | cons x xs ih => rw [PyData.canLayAll0, h x List.mem_cons_self, ih fun y hy => h y (List.mem_cons_of_mem _ hy)]; rfl
theorem depAll {n : Nat} {xs : List D} (h : ∀ x ∈ xs, x.depth ≤ n) : PyData.depthAll xs ≤ n := by
  induction xs with
  | nil => exact Nat.zero_le _
  | cons x xs ih => rw [PyData.depthAll]; exact Nat.max_le.mpr ⟨h x List.mem_cons_self, ih fun y hy => h y (List.mem_cons_of_mem _ hy)⟩
theorem shaped_list {xs : List D} (h : ∀ x ∈ xs, x.canLay0 = true ∧ x.depth ≤ 60) : SeqAt.shaped (.list xs) = true := by
  have d := depAll fun x hx => (h x hx).2
  have c := canAll fun x hx => (h x hx).1
  have e : (PyData.list xs).canLay0 = PyData.canLayAll0 xs := by rw [PyData.canLay0]
  have e2 : (PyData.list xs).depth = PyData.depthAll xs + 1 := by rw [PyData.depth]
  rw [SeqAt.shaped, e, e2, c, Bool.true_and, decide_eq_true_eq]
  omega
theorem shaped_strs {l : List Str} (h : ∀ s ∈ l, PyData.strOk s = true) : SeqAt.shaped (.list (l.map .str)) = true := shaped_list fun x hx => by
  obtain ⟨s, hs, rfl⟩ := List.mem_map.mp hx
  exact ⟨by rw [PyData.canLay0]; exact h s hs, by rw [PyData.depth]; omega⟩
theorem eqvAll_strs : ∀ a b : List Str, PyData.eqvAll (a.map .str) (b.map .str) = decide (a = b)
  | [], [] => rfl
  | [], _ :: _ => rfl
  | _ :: _, [] => rfl
  | x :: a, y :: b => by
    rw [List.map_cons, List.map_cons, PyData.eqvAll, PyData.eqv, eqvAll_strs a b]
    by_cases h : x = y <;> simp [h]
theorem eq_nilL (x : D) (xs : List D) : eqD (.list (x :: xs)) (.list []) = some (.bool false) := rfl
theorem ne_nilL (x : D) (xs : List D) : neD (.list (x :: xs)) (.list []) = some (.bool true) := rfl
theorem eq_lists {a b : List D} (h1 : SeqAt.shaped (.list a) = true) (h2 : SeqAt.shaped (.list b) = true) : eqD (.list a) (.list b) = some (.bool (PyData.eqvAll a b)) := by
  cases b with
  | nil =>
    cases a with
    | nil =>
      have h : eqD (.list []) (.list []) = if SeqAt.shaped (.list []) = true ∧ SeqAt.shaped (.list []) = true then some (.bool (PyData.eqv (.list []) (.list []))) else none := rfl
      rw [h, if_pos ⟨h1, h2⟩, PyData.eqv]
    | cons x a => rw [eq_nilL, PyData.eqvAll]
  | cons y b =>
    have h : eqD (.list a) (.list (y :: b)) = if SeqAt.shaped (.list a) = true ∧ SeqAt.shaped (.list (y :: b)) = true then some (.bool (PyData.eqv (.list a) (.list (y :: b)))) else none := by cases a <;> rfl
    rw [h, if_pos ⟨h1, h2⟩, PyData.eqv]
theorem ne_lists {a b : List D} (h1 : SeqAt.shaped (.list a) = true) (h2 : SeqAt.shaped (.list b) = true) : neD (.list a) (.list b) = some (.bool (!PyData.eqvAll a b)) := by
  cases b with
  | nil =>
    cases a with
    | nil =>
      have h : neD (.list []) (.list []) = if SeqAt.shaped (.list []) = true ∧ SeqAt.shaped (.list []) = true then some (.bool (!PyData.eqv (.list []) (.list []))) else none := rfl
      rw [h, if_pos ⟨h1, h2⟩, PyData.eqv]
    | cons x a => rw [ne_nilL, PyData.eqvAll]; rfl
  | cons y b =>
    have h : neD (.list a) (.list (y :: b)) = if SeqAt.shaped (.list a) = true ∧ SeqAt.shaped (.list (y :: b)) = true then some (.bool (!PyData.eqv (.list a) (.list (y :: b)))) else none := by cases a <;> rfl
    rw [h, if_pos ⟨h1, h2⟩, PyData.eqv]
theorem eq_nil (a : List D) : eqD (.list a) (.list []) = some (.bool (decide (a = []))) := by
  cases a with
  | nil => rw [eq_lists (by decide +kernel) (by decide +kernel), PyData.eqvAll]; rfl
  | cons x a => rw [eq_nilL]; rfl
theorem ne_nil (a : List D) : neD (.list a) (.list []) = some (.bool (!decide (a = []))) := by
  cases a with
  | nil => rw [ne_lists (by decide +kernel) (by decide +kernel), PyData.eqvAll]; rfl
  | cons x a => rw [ne_nilL]; rfl
theorem eq_strs {a b : List Str} (ha : ∀ s ∈ a, PyData.strOk s = true) (hb : ∀ s ∈ b, PyData.strOk s = true) : eqD (.list (a.map .str)) (.list (b.map .str)) = some (.bool (decide (a = b))) := by
  rw [eq_lists (shaped_strs ha) (shaped_strs hb), eqvAll_strs]
theorem ne_strs {a b : List Str} (ha : ∀ s ∈ a, PyData.strOk s = true) (hb : ∀ s ∈ b, PyData.strOk s = true) : neD (.list (a.map .str)) (.list (b.map .str)) = some (.bool (!decide (a = b))) := by
  rw [ne_lists (shaped_strs ha) (shaped_strs hb), eqvAll_strs]
theorem eq_s (a b : Str) : eqD (.str a) (.str b) = some (.bool (decide (a = b))) := rfl
theorem ne_s (a b : Str) : neD (.str a) (.str b) = some (.bool (!decide (a = b))) := rfl
theorem sOk_iff {s : Str} : PyData.strOk s = true ↔ ∀ c ∈ s.cps.toList, c < 0x110000 := by
  unfold PyData.strOk
  rw [Array.all_eq_true_iff_forall_mem]
  simp
theorem NmS.fit {s : Str} (h : NmS s) : FitS s := ⟨by have := h.len; omega, sOk_iff.mpr fun c hc => by
  rcases h.all c hc with h | h
  · have := h.2; omega
  · have := h.2; omega⟩
theorem nmS_iff {s : Str} : nmS s = true ↔ NmS s := by
  unfold nmS
  constructor
  · intro h
    rw [Bool.and_eq_true, Bool.and_eq_true, decide_eq_true_eq] at h
    obtain ⟨⟨h1, h2⟩, h3⟩ := h
    refine ⟨h1, ?_, fun c hc => ?_⟩
    · cases e : s.cps.toList with
      | nil => rw [e] at h2; cases h2
      | cons c r => rw [e] at h2; exact ⟨c, r, rfl, of_decide_eq_true h2⟩
    · have := List.all_eq_true.mp h3 c hc
      simpa [okC] using this
  · intro h
    obtain ⟨c, r, e, hc⟩ := h.hd
    rw [Bool.and_eq_true, Bool.and_eq_true, decide_eq_true_eq]
    refine ⟨⟨h.len, by rw [e]; exact decide_eq_true hc⟩, List.all_eq_true.mpr fun c hc => ?_⟩
    have := h.all c hc
    simpa [okC] using this
end SH
end
section
set_option maxRecDepth 100000
set_option maxHeartbeats 0
set_option exponentiation.threshold 3000
namespace SH
open PySem PySem.Spec PyProof.Rows L2 DL
theorem while_inv {t : M Bool} {b : M Fl} (I : Nat → DL.Env → Prop) (Q : DL.Env → Prop) (hs : ∀ k ρ, I k ρ → (∃ ρ1, t ρ = .ok false ρ1 ∧ Q ρ1) ∨ (∃ ρ1 ρ2, t ρ = .ok true ρ1 ∧ b ρ1 = .ok .nx ρ2 ∧ ∃ k', k' < k ∧ I k' ρ2)) (k : Nat) (ρ : DL.Env) (h : I k ρ) : ∃ ρ', sWhile t b ρ = .ok .nx ρ' ∧ Q ρ' := by
  have key : ∀ (n k : Nat) (ρ : DL.Env), k < n → I k ρ → ∃ (m : Nat) (ρ' : DL.Env), whileGo t b m ρ = .ok .nx ρ' ∧ Q ρ' := by
    intro n
    induction n with
    | zero => intro k ρ h; omega
    | succ n ih =>
      intro k ρ hk hI
      rcases hs k ρ hI with ⟨ρ1, h1, h2⟩ | ⟨ρ1, ρ2, h1, h2, k', hk', h3⟩
      · refine ⟨1, ρ1, ?_, h2⟩
        show ((t ρ).bind _) = _
        rw [h1]
        rfl
      · obtain ⟨m, ρ', h4, h5⟩ := ih k' ρ2 (by omega) h3
        refine ⟨m + 1, ρ', ?_, h5⟩
        have e : whileGo t b (m + 1) ρ = ((t ρ).bind fun x ρ1 => if x = true then (b ρ1).bind fun f ρ2 => match f with
          | .nx => whileGo t b m ρ2
          | .ct => whileGo t b m ρ2
          | .bk => .ok .nx ρ2
          | .rt o => .ok (.rt o) ρ2
          else .ok .nx ρ1) := rfl
        rw [e, h1]
        simp [h2, h4]
  obtain ⟨m, ρ', h1, h2⟩ := key (k + 1) k ρ (Nat.lt_succ_self _) h
  have hn : whileGo t b m ρ ≠ .bad := by rw [h1]; intro z; cases z
  exact ⟨ρ', by rw [sWhile_eq hn, h1], h2⟩
theorem nodup_le {α : Type} [DecidableEq α] : ∀ {a b : List α}, a.Nodup → (∀ x ∈ a, x ∈ b) → a.length ≤ b.length
  | [], b, _, _ => Nat.zero_le _
  | x :: a, b, h, s => by
    have hx := s x List.mem_cons_self
    obtain ⟨h1, h2⟩ := List.nodup_cons.mp h
    have := nodup_le (a := a) (b := b.erase x) h2 fun y hy => by
      have hy' := s y (List.mem_cons_of_mem _ hy)
      have : y ≠ x := fun e => h1 (e ▸ hy)
      exact (List.mem_erase_of_ne this).mpr hy'
    rw [List.length_erase_of_mem hx] at this
    have hb := List.length_pos_of_mem hx
    rw [List.length_cons]
    omega
theorem allStr_map (l : List Str) : allStr (l.map .str) = some l := by
  induction l with
  | nil => rfl
  | cons x l ih => rw [List.map_cons, allStr, ih]; rfl
theorem in_strs (s : Str) (l : List Str) : inD (.str s) (.list (l.map .str)) = some (.bool (decide (s ∈ l))) := by
  show ((memD (.str s) (l.map .str)).map PyData.bool) = _
  unfold memD
  rw [allStr_map]
  rfl
theorem nin_strs (s : Str) (l : List Str) : ninD (.str s) (.list (l.map .str)) = some (.bool (!decide (s ∈ l))) := by
  show ((memD (.str s) (l.map .str)).map fun b => PyData.bool (!b)) = _
  unfold memD
  rw [allStr_map]
  rfl
def eight : List Str := ["a", "b", "c", "d", "e", "f", "g", "h"]
theorem eight_nd : eight.Nodup := by decide +kernel
theorem eight_nm : ∀ s ∈ eight, NmS s := fun s h => nmS_iff.mp (List.all_eq_true.mp (show eight.all nmS = true by decide +kernel) s h)
def freeP (l : List Str) : D → Bool
  | .str s => !decide (s ∈ l)
  | _ => false
theorem filter_free (l : List Str) : ∀ a : List Str, (a.map PyData.str).filter (freeP l) = (a.filter fun s => !decide (s ∈ l)).map .str
  | [] => rfl
  | x :: a => by
    by_cases h : x ∈ l
    · simp [List.filter_cons, freeP, h, ← filter_free l a]
    · simp [List.filter_cons, freeP, h, ← filter_free l a]
theorem names_ok {B : Nat} (hB : B < 2 ^ 48) {p : List D} (h : Pile B p) (m : Nat) (hm : m ≤ 8) : ∃ (l : List Str) (p' : List D), l.length = m ∧ l.Nodup ∧ (∀ s ∈ l, NmS s) ∧ Pile (B + 20 * m) p' ∧ f__law_names [.lst p, .d (.int m)] = .ok (.lst (l.map .str)) [some (.lst p'), some (.d (.int m))] := by
  have big := size_big
  have hr : range1 (.int (m : Int)) = some (rangeL 0 m) := by
    show (if _ then _ else _) = _
    rw [if_pos ⟨by rw [Int.toNat_natCast]; omega, by omega⟩, Int.toNat_natCast]
  have hlen : (rangeL 0 m).length = m := by unfold rangeL; simp
  obtain ⟨ρ', f1, l, q, w3, w4, rfl, f2, f3, f4, f5⟩ := forGo_inv (t := tName 3) (b := (sSeq (sSet 4 (mFrz (mCall f__law_name (gO 0 gNil))))
 (sSeq (mIf (mB (mBin inD (mVar 4) (mLook 2))) (sSet 4 (mBin ixD (mLstF (mLc [5] (mItems (mLstF (mCons (mC (.str "a")) (mCons (mC (.str "b")) (mCons (mC (.str "c")) (mCons (mC (.str "d")) (mCons (mC (.str "e")) (mCons (mC (.str "f")) (mCons (mC (.str "g")) (mCons (mC (.str "h")) mNil)))))))))) (tName 5) (mB (mBin ninD (mVar 5) (mLook 2))) (mVar 5))) (mC (.int 0)))) sNil)
 (sDrop (mD (mLM 2 appendD (mCons (mVar 4) mNil)))))))
    (xs := rangeL 0 m) (ρ := [some (.lst p), some (.d (.int m)), some (.lst []), none, none, none])
    (fun i ρ => ∃ (l : List Str), ∃ q w3 w4, ρ = [some (.lst q), some (.d (.int m)), some (.lst (l.map .str)), w3, w4, none] ∧ l.length = i ∧ l.Nodup ∧ (∀ s ∈ l, NmS s) ∧ Pile (B + 20 * i) q)
    ⟨[], p, none, none, rfl, rfl, .nil, fun _ z => (by cases z), h⟩ (fun i x ρ hx ⟨l, q, w3, w4, e, n1, n2, n3, n4⟩ => by
      subst e
      have hi : i < m := by
        have := (List.getElem?_eq_some_iff.mp hx).1
        omega
      obtain ⟨s, q', ns, hq', e5⟩ := name_ok (by omega) n4
      have app : ∀ z : Str, appendD (l.map .str) [.str z] = some ((l ++ [z]).map .str, .none) := fun z => by
        show (if _ then _ else _) = _
        rw [if_pos (by rw [List.length_map]; omega)]
        simp
      by_cases hs : s ∈ l
      · have fr : (eight.filter fun s => !decide (s ∈ l)) ≠ [] := fun z => by
          have := nodup_le eight_nd (b := l) fun x hx => by
            have := List.filter_eq_nil_iff.mp z x hx
            simpa using this
          have e8 : eight.length = 8 := rfl
          omega
        obtain ⟨z, zs, hz⟩ := List.exists_cons_of_ne_nil fr
        have hz' : z ∈ eight ∧ z ∉ l := by
          have := List.mem_filter.mp (show z ∈ (eight.filter fun s => !decide (s ∈ l)) by rw [hz]; exact List.mem_cons_self)
          simpa using this
        have lc := lcGo_pure (vs := [5]) (t := tName 5) (tst := mB (mBin ninD (mVar 5) (mLook 2))) (e := mVar 5) (p := freeP l) (g := id) (ρ := [some (.lst q'), some (.d (.int m)), some (.lst (l.map .str)), some (.d x), some (.d (.str s)), none]) (xs := eight.map .str) fun x hx => by
          obtain ⟨d, hd, rfl⟩ := List.mem_map.mp hx
          refine ⟨_, [some (.lst q'), some (.d (.int m)), some (.lst (l.map .str)), some (.d x), some (.d (.str s)), some (.d (.str d))], rfl, ?_, fun _ => rfl, fun _ => ⟨_, rfl, rfl⟩⟩
          simp [nin_strs, freeP]
        rw [List.map_id, filter_free, hz] at lc
        have lc : lcGo [5] (tName 5) (mB (mBin ninD (mVar 5) (mLook 2))) (mVar 5) [.str "a", .str "b", .str "c", .str "d", .str "e", .str "f", .str "g", .str "h"] [some (.lst q'), some (.d (.int m)), some (.lst (l.map .str)), some (.d x), some (.d (.str s)), none] = .ok (.str z :: zs.map .str) [some (.lst q'), some (.d (.int m)), some (.lst (l.map .str)), some (.d x), some (.d (.str s)), none] := lc
        have ix : ixD (.list (.str z :: zs.map .str)) (.int 0) = some (.str z) := by simp [ixD, atI, ixN]
        refine ⟨_, _, rfl, ?_, l ++ [z], q', some (.d x), some (.d (.str z)), rfl, by rw [List.length_append, n1]; rfl, ?_, ?_, hq'.up (by omega)⟩
        · simp [e5, in_strs, hs]
          simp [itemsD, dataAt, lc, backE, ix, app]
        · exact List.nodup_append.mpr ⟨n2, by simp, fun a ha b hb => by simp at hb; subst hb; exact fun e => hz'.2 (e ▸ ha)⟩
        · intro y hy
          rcases List.mem_append.mp hy with hy | hy
          · exact n3 y hy
          · simp at hy; subst hy; exact eight_nm _ hz'.1
      · refine ⟨_, _, rfl, ?_, l ++ [s], q', some (.d x), some (.d (.str s)), rfl, by rw [List.length_append, n1]; rfl, ?_, ?_, hq'.up (by omega)⟩
        · simp [e5, in_strs, hs]
          simp [app]
        · exact List.nodup_append.mpr ⟨n2, by simp, fun a ha b hb => by simp at hb; subst hb; exact fun e => hs (e ▸ ha)⟩
        · intro y hy
          rcases List.mem_append.mp hy with hy | hy
          · exact n3 y hy
          · simp at hy; subst hy; exact ns)
  refine ⟨l, q, by rw [f2, hlen], f3, f4, f5.up (by omega), ?_⟩
  simp [f__law_names, m__law_names, fnOf, hr]
  try simp at f1
  simp [f1, outsOf]
theorem cut_perm {α : Type} : ∀ (l : List α) (i : Nat) (h : i < l.length), (l[i] :: l.eraseIdx i).Perm l
  | x :: l, 0, h => .refl _
  | x :: l, i + 1, h => (List.Perm.swap _ _ _).trans ((cut_perm l i (by simpa using h)).cons x)
def Lay (x : D) : Prop := x.canLay0 = true ∧ x.depth ≤ 60
theorem order_ok {B : Nat} (hB : B < 2 ^ 48) {p : List D} (h : Pile B p) (xs : List D) (hx : xs.length ≤ 20) (hl : ∀ x ∈ xs, Lay x) : ∃ (ys : List D) (p' : List D), ys.Perm xs ∧ Pile (B + xs.length) p' ∧ f__law_order [.lst p, .d (.list xs)] = .ok (.lst ys) [some (.lst p'), some (.d (.list xs))] := by
  have big := size_big
  obtain ⟨ρ', f1, q, ys, rfl, f2, f3⟩ := while_inv (t := (mB (mBin neD (mLook 2) (mLstF mNil)))) (b := (sDrop (mD (mLM 3 appendD (mCons (mLM 2 popD (mCons (mFrz (mCall f__law_take (gO 0 (gD (mF1 lenD (mLook 2)) gNil)))) mNil)) mNil)))))
    (fun k ρ => ∃ q left found, ρ = [some (.lst q), some (.d (.list xs)), some (.lst left), some (.lst found)] ∧ left.length = k ∧ (found ++ left).Perm xs ∧ Pile (B + found.length) q)
    (fun ρ => ∃ q ys, ρ = [some (.lst q), some (.d (.list xs)), some (.lst []), some (.lst ys)] ∧ ys.Perm xs ∧ Pile (B + xs.length) q)
    (fun k ρ ⟨q, left, found, e, n1, n2, n3⟩ => by
      subst e
      have sub : ∀ x ∈ left, Lay x := fun x hx => hl x (n2.mem_iff.mp (List.mem_append_right _ hx))
      have ne : neD (.list left) (.list []) = some (.bool (!PyData.eqvAll left [])) := ne_lists (shaped_list sub) (shaped_list fun _ z => by cases z)
      have len := n2.length_eq
      rw [List.length_append] at len
      cases left with
      | nil =>
        refine .inl ⟨_, ?_, q, found, rfl, by simpa using n2, n3.up (by simp at len; omega)⟩
        simp [ne]
        rfl
      | cons y l =>
        right
        rw [List.length_cons] at len n1
        obtain ⟨r, q', r0, r1, hq', e5⟩ := take_ok (by omega) n3 ((y :: l).length : Nat) (by rw [List.length_cons]; omega) (by rw [List.length_cons]; omega)
        rw [List.length_cons] at r1
        have hr : r.toNat < (y :: l).length := by rw [List.length_cons]; omega
        have sq : seqIndex? r (y :: l).length = some r.toNat := by
          unfold seqIndex?
          have : ¬ r < 0 := by omega
          simp only [this, if_false]
          rw [List.length_cons]
          simp [r0, r1]
          try omega
        have pp : popD (y :: l) [.int r] = some ((y :: l).eraseIdx r.toNat, (y :: l)[r.toNat]) := by
          have hb : -(2 ^ 63) ≤ r ∧ r < 2 ^ 63 := by omega
          have g : (y :: l)[r.toNat]? = some (y :: l)[r.toNat] := List.getElem?_eq_getElem hr
          simp only [popD, hb, if_pos, sq, Option.bind_some, g, Option.map_some, and_self, if_true]
        have ap : appendD found [(y :: l)[r.toNat]] = some (found ++ [(y :: l)[r.toNat]], .none) := if_pos (by omega)
        generalize hz : (y :: l)[r.toNat] = z at pp ap
        generalize hw : (y :: l).eraseIdx r.toNat = w at pp
        have le : w.length = l.length := by rw [← hw, List.length_eraseIdx_of_lt hr, List.length_cons]; omega
        have pm : (z :: w).Perm (y :: l) := by
          rw [← hz, ← hw]
          exact cut_perm _ _ hr
        refine ⟨[some (.lst q), some (.d (.list xs)), some (.lst (y :: l)), some (.lst found)], [some (.lst q'), some (.d (.list xs)), some (.lst w), some (.lst (found ++ [z]))], ?_, ?_, l.length, by omega, q', w, found ++ [z], rfl, le, ?_, ?_⟩
        · simp [ne]
          rfl
        · have len2 : lenD (.list (y :: l)) = some (.int ((y :: l).length : Nat)) := rfl
          simp only [sDrop_d, mD_d, mLM_d, mCons_d, mFrz_d, mCall_d, gO_d, gD_d, mF1_d, mLook_d, gNil_d, mNil_d]
          simp [len2] at e5 ⊢
          simp [e5, pp, ap]
        · rw [List.append_assoc]
          exact (List.Perm.append_left found pm).trans n2
        · rw [List.length_append]
          exact hq'.up (by simp; omega))
    xs.length [some (.lst p), some (.d (.list xs)), some (.lst xs), some (.lst [])] ⟨p, xs, [], rfl, rfl, .refl _, h⟩
  refine ⟨ys, q, f2, f3, ?_⟩
  simp [f__law_order, m__law_order, fnOf, listD]
  try simp at f1
  simp [f1, outsOf]
end SH
end
section
set_option maxRecDepth 100000
set_option maxHeartbeats 0
set_option exponentiation.threshold 3000
namespace SH
open PySem PySem.Spec PyProof.Rows L2 DL
def FitP : D → Prop
  | .tuple xs => xs.length ≤ 3 ∧ ∀ x ∈ xs, FitM x
  | .dict kvs => cells kvs = none
  | _ => True
def Fit : D → Prop
  | .tuple xs => xs.length ≤ 20 ∧ ∀ x ∈ xs, FitP x
  | .dict kvs => cells kvs = none
  | _ => True
def isTupB : D → Bool
  | .tuple _ => true
  | _ => false
theorem isi_tup (x : D) (h : ∀ kvs, x = .dict kvs → cells kvs = none) : isiD .tup x = some (.bool (isTupB x)) := by
  cases x with
  | dict kvs => simp [isiD, isT, h kvs rfl, isTupB]
  | _ => rfl
theorem FitP.no {x : D} (h : FitP x) : ∀ kvs, x = .dict kvs → cells kvs = none := fun kvs e => by subst e; exact h
theorem Fit.no {x : D} (h : Fit x) : ∀ kvs, x = .dict kvs → cells kvs = none := fun kvs e => by subst e; exact h
def pairB : D → Bool
  | .tuple xs => decide (xs.length = 2)
  | _ => false
def neB : D → D → Bool
  | .str a, .str b => !decide (a = b)
  | _, _ => false
def okP : D → Bool
  | .tuple [a, b] => nmB a && nmB b && neB a b
  | _ => false
def keyD : D → D
  | .tuple (a :: _) => a
  | _ => .none
def toD : D → D
  | .tuple [_, b] => b
  | _ => .none
def keyS (x : D) : Str := match keyD x with
  | .str a => a
  | _ => ""
def toS (x : D) : Str := match toD x with
  | .str a => a
  | _ => ""
def turnB : D → Bool
  | .tuple xs => xs.all okP && (decide (xs.map keyS = sortS (onceS (xs.map keyS))) && decide (sortS (xs.map toS) = xs.map keyS))
  | _ => false
theorem nmB_str {a : D} (h : nmB a = true) : ∃ s, a = .str s ∧ NmS s := by
  cases a with
  | str s => exact ⟨s, rfl, nmS_iff.mp h⟩
  | _ => cases h
theorem okP_iff {x : D} (h : okP x = true) : ∃ a b, x = .tuple [.str a, .str b] ∧ NmS a ∧ NmS b ∧ a ≠ b := by
  unfold okP at h
  split at h
  · rename_i a b
    rw [Bool.and_eq_true, Bool.and_eq_true] at h
    obtain ⟨⟨h1, h2⟩, h3⟩ := h
    obtain ⟨s, rfl, hs⟩ := nmB_str h1
    obtain ⟨t, rfl, ht⟩ := nmB_str h2
    refine ⟨s, t, rfl, hs, ht, fun e => ?_⟩
    simp [neB, e] at h3
  · cases h
theorem keys_eq {xs : List D} (h : xs.all okP = true) : xs.map keyD = (xs.map keyS).map .str := by
  rw [List.map_map]
  refine List.map_congr_left fun x hx => ?_
  obtain ⟨a, b, rfl, _⟩ := okP_iff (List.all_eq_true.mp h x hx)
  rfl
theorem tos_eq {xs : List D} (h : xs.all okP = true) : xs.map toD = (xs.map toS).map .str := by
  rw [List.map_map]
  refine List.map_congr_left fun x hx => ?_
  obtain ⟨a, b, rfl, _⟩ := okP_iff (List.all_eq_true.mp h x hx)
  rfl
theorem keys_nm {xs : List D} (h : xs.all okP = true) : ∀ s ∈ xs.map keyS, NmS s := fun s hs => by
  obtain ⟨x, hx, rfl⟩ := List.mem_map.mp hs
  obtain ⟨a, b, rfl, h1, _⟩ := okP_iff (List.all_eq_true.mp h x hx)
  exact h1
theorem tos_nm {xs : List D} (h : xs.all okP = true) : ∀ s ∈ xs.map toS, NmS s := fun s hs => by
  obtain ⟨x, hx, rfl⟩ := List.mem_map.mp hs
  obtain ⟨a, b, rfl, _, h1, _⟩ := okP_iff (List.all_eq_true.mp h x hx)
  exact h1
theorem bools_q (q : D → Bool) : ∀ xs : List D, boolsD (xs.map fun x => .bool (q x)) = some (xs.map q)
  | [] => rfl
  | x :: xs => by
    show (boolsD (xs.map fun x => .bool (q x))).map (q x :: ·) = _
    rw [bools_q q xs]
    rfl
theorem all_q (q : D → Bool) (xs : List D) : allD (.list (xs.map fun x => .bool (q x))) = some (.bool (xs.all q)) := by
  simp only [allD, bools_q]
  simp [Function.comp_def]
theorem filt_all (xs : List D) : xs.filter (fun _ => true) = xs := List.filter_eq_self.mpr fun _ _ => rfl
theorem sort_strs (l : List Str) : sortL (l.map .str) = (sortS l).map .str := by
  unfold sortL sortS
  refine (PySem.W.sort_maps PyData.str fun a ha b hb => ?_).symm
  have e := congrFun (congrFun (PySem.W.dataLe_str (β := Str) id) a) b
  exact e.symm
theorem sortOk_strs {l : List Str} (h : ∀ s ∈ l, NmS s) : sortOk (l.map .str) = true := by
  unfold sortOk
  rw [shaped_strs fun s hs => (h s hs).fit.ok, Bool.and_true, Bool.and_eq_true, Bool.or_eq_true]
  refine ⟨?_, .inr ?_⟩
  · simp [PySem.W.alike]
  · simp
theorem sortO_strs {l : List Str} (h : ∀ s ∈ l, NmS s) : sortO (.list (l.map .str)) = some ((sortS l).map .str) := by
  show (if _ then _ else _) = _
  rw [if_pos (sortOk_strs h), sort_strs]
theorem sortS_perm (l : List Str) : (sortS l).Perm l := List.mergeSort_perm _ _
theorem texts_strs {l : List Str} (h : l.length ≤ 1000) : textsD (.list (l.map .str)) = some l := by
  show ((allStr (l.map .str)).bind _) = _
  rw [allStr_map]
  show (if _ then _ else _) = _
  rw [if_pos]
  show _ < 4096
  omega
theorem nmOk {l : List Str} (h : ∀ s ∈ l, NmS s) : ∀ s ∈ l, PyData.strOk s = true := fun s hs => (h s hs).fit.ok
theorem is_turn_ok (x : D) (h : Fit x) : f_is_turn [.d x] = .ok (.d (.bool (turnB x))) [some (.d x)] := by
  have isi := isi_tup x h.no
  cases x with
  | tuple xs =>
    obtain ⟨hl, hf⟩ : xs.length ≤ 20 ∧ ∀ x ∈ xs, FitP x := h
    have lc1 := lcGo_pure (vs := [1]) (t := tName 1) (tst := mYes) (e := (mAndV (mF1 (isiD .tup) (mVar 1)) (mBin eqD (mF1 lenD (mVar 1)) (mC (.int 2))))) (p := fun _ => true) (g := fun x => .bool (pairB x)) (ρ := [some (.d (.tuple xs)), none, none, none, none]) (xs := xs) fun x hx => by
      refine ⟨_, _, rfl, rfl, fun z => (by cases z), fun _ => ⟨[some (.d (.tuple xs)), some (.d x), none, none, none], ?_, rfl⟩⟩
      have is := isi_tup x (hf x hx).no
      cases x with
      | tuple ys =>
        simp [is, isTupB, pairB, lenD, eq_i]
        try omega
      | _ => simp [is, isTupB, pairB]
    rw [filt_all] at lc1
    by_cases h1 : xs.all pairB = true
    · have lc2 := lcGo_pure (vs := [2, 3]) (t := (tTup 2 (tsCons (tName 2) (tsCons (tName 3) tsNil)))) (tst := mYes) (e := (mAndV (mFrz (mCall f_is_name (gD (mVar 2) gNil))) (mAndV (mFrz (mCall f_is_name (gD (mVar 3) gNil))) (mBin neD (mVar 2) (mVar 3))))) (p := fun _ => true) (g := fun x => .bool (okP x)) (ρ := [some (.d (.tuple xs)), none, none, none, none]) (xs := xs) fun x hx => by
        have hp := List.all_eq_true.mp h1 x hx
        have hfx := hf x hx
        match x, hp, hfx with
        | .tuple [a, b], _, hfx =>
          refine ⟨[some (.d (.tuple xs)), none, some (.d a), some (.d b), none], _, by simp, rfl, fun z => (by cases z), fun _ => ⟨[some (.d (.tuple xs)), none, some (.d a), some (.d b), none], ?_, rfl⟩⟩
          have na := is_name_ok a (hfx.2 a (by simp))
          have nb := is_name_ok b (hfx.2 b (by simp))
          cases ha : nmB a with
          | false => simp [na, ha, okP]
          | true =>
            cases hb : nmB b with
            | false => simp [na, nb, ha, hb, okP]
            | true =>
              obtain ⟨s, rfl, hs⟩ := nmB_str ha
              obtain ⟨t, rfl, ht⟩ := nmB_str hb
              simp [na, nb, ha, hb, okP, ne_s, neB]
      rw [filt_all] at lc2
      by_cases h2 : xs.all okP = true
      · have lc3 : ∀ w, lcGo [2, 3] (tTup 2 (tsCons (tName 2) (tsCons (tName 3) tsNil))) mYes (mVar 2) xs [some (.d (.tuple xs)), none, none, none, w] = .ok ((xs.map keyS).map .str) [some (.d (.tuple xs)), none, none, none, w] := fun w => by
          have z := lcGo_pure (vs := [2, 3]) (t := (tTup 2 (tsCons (tName 2) (tsCons (tName 3) tsNil)))) (tst := mYes) (e := mVar 2) (p := fun _ => true) (g := keyD) (ρ := [some (.d (.tuple xs)), none, none, none, w]) (xs := xs) fun x hx => by
            obtain ⟨a, b, rfl, _⟩ := okP_iff (List.all_eq_true.mp h2 x hx)
            exact ⟨[some (.d (.tuple xs)), none, some (.d (.str a)), some (.d (.str b)), w], _, by simp, rfl, fun z => (by cases z), fun _ => ⟨[some (.d (.tuple xs)), none, some (.d (.str a)), some (.d (.str b)), w], rfl, rfl⟩⟩
          rw [filt_all, keys_eq h2] at z
          exact z
        have lc4 : ∀ w, lcGo [2, 3] (tTup 2 (tsCons (tName 2) (tsCons (tName 3) tsNil))) mYes (mVar 3) xs [some (.d (.tuple xs)), none, none, none, w] = .ok ((xs.map toS).map .str) [some (.d (.tuple xs)), none, none, none, w] := fun w => by
          have z := lcGo_pure (vs := [2, 3]) (t := (tTup 2 (tsCons (tName 2) (tsCons (tName 3) tsNil)))) (tst := mYes) (e := mVar 3) (p := fun _ => true) (g := toD) (ρ := [some (.d (.tuple xs)), none, none, none, w]) (xs := xs) fun x hx => by
            obtain ⟨a, b, rfl, _⟩ := okP_iff (List.all_eq_true.mp h2 x hx)
            exact ⟨[some (.d (.tuple xs)), none, some (.d (.str a)), some (.d (.str b)), w], _, by simp, rfl, fun z => (by cases z), fun _ => ⟨[some (.d (.tuple xs)), none, some (.d (.str a)), some (.d (.str b)), w], rfl, rfl⟩⟩
          rw [filt_all, tos_eq h2] at z
          exact z
        have tx := texts_strs (l := xs.map keyS) (by rw [List.length_map]; omega)
        have so := sortO_strs (tos_nm h2)
        have kn := keys_nm h2
        have e1 := eq_strs (a := xs.map keyS) (b := sortS (onceS (xs.map keyS))) (nmOk kn) (nmOk fun s hs => kn s (once_mem.mp ((sortS_perm _).mem_iff.mp hs)))
        have e2 := eq_strs (a := sortS (xs.map toS)) (b := xs.map keyS) (nmOk fun s hs => tos_nm h2 s ((sortS_perm _).mem_iff.mp hs)) (nmOk kn)
        have tb : turnB (.tuple xs) = (decide (xs.map keyS = sortS (onceS (xs.map keyS))) && decide (sortS (xs.map toS) = xs.map keyS)) := by simp only [turnB, h2, Bool.true_and]
        rw [tb]
        generalize hks : xs.map keyS = ks at lc3 tx e1 e2 ⊢
        generalize hts : xs.map toS = tz at lc4 so e2 ⊢
        have a1 := all_q pairB xs
        have a2 := all_q okP xs
        rw [h1] at a1
        rw [h2] at a2
        simp only [f_is_turn, m_is_turn, fnOf]
        simp [isi, isTupB, itemsD, dataAt, lc1, a1, backE]
        simp [lc2, a2, backE]
        simp [lc3, backE]
        cases hd : decide (ks = sortS (onceS ks)) with
        | false =>
          rw [hd] at e1
          simp [tx, e1, outsOf]
        | true =>
          rw [hd] at e1
          simp [tx, e1, dataAt, lc4, backE, so, e2, outsOf]
      · have h2 : xs.all okP = false := by simpa using h2
        have tb : turnB (.tuple xs) = false := by simp only [turnB, h2, Bool.false_and]
        have a1 := all_q pairB xs
        have a2 := all_q okP xs
        rw [h1] at a1
        rw [h2] at a2
        rw [tb]
        simp only [f_is_turn, m_is_turn, fnOf]
        simp [isi, isTupB, itemsD, dataAt, lc1, a1, backE]
        simp [lc2, a2, backE, outsOf]
    · have h2 : xs.all okP = false := by
        cases q : xs.all okP with
        | false => rfl
        | true =>
          exact absurd (List.all_eq_true.mpr fun x hx => by
            obtain ⟨a, b, rfl, _⟩ := okP_iff (List.all_eq_true.mp q x hx)
            rfl) h1
      have h1 : xs.all pairB = false := by simpa using h1
      have tb : turnB (.tuple xs) = false := by simp only [turnB, h2, Bool.false_and]
      have a1 := all_q pairB xs
      rw [h1] at a1
      rw [tb]
      simp only [f_is_turn, m_is_turn, fnOf]
      simp [isi, isTupB, itemsD, dataAt, lc1, a1, backE, outsOf]
  | _ => simp [f_is_turn, m_is_turn, fnOf, isi, isTupB, turnB, outsOf]
end SH
end
section
set_option maxRecDepth 100000
set_option maxHeartbeats 0
set_option exponentiation.threshold 3000
namespace SH
open PySem PySem.Spec PyProof.Rows L2 DL
end SH
end
section
set_option maxRecDepth 100000
set_option maxHeartbeats 0
set_option exponentiation.threshold 3000
namespace SH
open PySem PySem.Spec PyProof.Rows L2 DL
def PrD (x : D) : Prop := ∃ a b, x = .tuple [.str a, .str b] ∧ NmS a ∧ NmS b
structure Prs (n : Nat) (xs : List D) : Prop where
  len : xs.length ≤ n
  all : ∀ x ∈ xs, PrD x
theorem NmS.lay {s : Str} (h : NmS s) : Lay (.str s) := ⟨by rw [PyData.canLay0]; exact h.fit.ok, by rw [PyData.depth]; omega⟩
theorem PrD.lay {x : D} (h : PrD x) : Lay x := by
  obtain ⟨a, b, rfl, ha, hb⟩ := h
  refine ⟨?_, ?_⟩
  · rw [PyData.canLay0]
    refine canAll fun x hx => ?_
    simp at hx
    rcases hx with rfl | rfl
    · exact ha.lay.1
    · exact hb.lay.1
  · have := depAll (n := 0) (xs := [.str a, .str b]) fun x hx => by
      simp at hx
      rcases hx with rfl | rfl <;> (rw [PyData.depth]; exact Nat.le_refl _)
    rw [PyData.depth]
    omega
theorem sortOk_prs {xs : List D} (h : ∀ x ∈ xs, PrD x) : sortOk xs = true := by
  unfold sortOk
  rw [shaped_list fun x hx => (h x hx).lay, Bool.and_true, Bool.and_eq_true, Bool.or_eq_true]
  refine ⟨?_, .inl ?_⟩
  · refine List.all_eq_true.mpr fun x hx => List.all_eq_true.mpr fun y hy => ?_
    obtain ⟨a, b, rfl, _⟩ := h x hx
    obtain ⟨c, d, rfl, _⟩ := h y hy
    simp [PySem.W.alike, PySem.W.alikeAll]
  · refine List.all_eq_true.mpr fun x hx => ?_
    obtain ⟨a, b, rfl, _⟩ := h x hx
    rfl
def neP : D → Bool
  | .tuple [.str a, .str b] => !decide (a = b)
  | _ => false
theorem mem_ix {xs : List D} {i : Int} (h0 : 0 ≤ i) (h1 : i < xs.length) : ∃ x, ixD (.list xs) (.int i) = some x ∧ x ∈ xs := by
  obtain ⟨x, e1, e2⟩ := atI_nat h0 h1
  exact ⟨x, e1, List.mem_of_getElem? e2⟩
end SH
end
section
set_option maxRecDepth 100000
set_option maxHeartbeats 0
set_option exponentiation.threshold 3000
namespace SH
open PySem PySem.Spec PyProof.Rows L2 DL
structure FitA (x : D) : Prop where
  m : FitM x
  p : FitP x
  t : Fit x
theorem fitS_of {s : Str} (h : (decide (s.length ≤ 20) && PyData.strOk s) = true) : FitS s := by
  rw [Bool.and_eq_true, decide_eq_true_eq] at h
  exact ⟨h.1, h.2⟩
theorem fitA_str {s : Str} (h : (decide (s.length ≤ 20) && PyData.strOk s) = true) : FitA (.str s) := ⟨fitS_of h, trivial, trivial⟩
def words : List Str := ["", "Ab", "1a", "abcdefghi", "a_b", "a b", "aB", "-", "a,b", "X_1", repS "a" 12]
def others : List D := [.none, .bool true, .int 0, .int 7, .tuple [.str "a"], .list [.str "a"], .dict [(.str "a", .str "b")], .tuple []]
theorem words_fit : ∀ s ∈ words, FitA (.str s) := fun s h => fitA_str (List.all_eq_true.mp (show words.all (fun s => decide (s.length ≤ 20) && PyData.strOk s) = true by decide +kernel) s h)
theorem add_l {a b : List D} (h : a.length + b.length ≤ 1000) : addD (.list a) (.list b) = some (.list (a ++ b)) := if_pos (by have := size_big; omega)
theorem mul_s {z : Str} {n : Int} (h : 1 < n ∧ n < 2 ^ 20 ∧ 0 < z.length ∧ z.length * n.toNat ≤ 4096) : mulD (.str z) (.int n) = some (.str (repS z n.toNat)) := if_pos h
theorem strange_in {B : Nat} (hB : B < 2 ^ 47) {p : List D} (h : Pile B p) : ∃ (x : D) (p' : List D), x ∈ words.map PyData.str ++ others ∧ Pile (B + 1) p' ∧ f__law_strange [.lst p] = .ok (.d x) [some (.lst p')] := by
  have big := size_big
  obtain ⟨r, p1, q0, q1, hp1, e1⟩ := take_ok (by omega) h 19 (by omega) (by omega)
  have hlen : (words.map PyData.str ++ others).length = 19 := rfl
  have aa : addD (.list (words.map .str)) (.list others) = some (.list (words.map .str ++ others)) := add_l (by
    rw [← List.length_append, hlen]; omega)
  have mu : mulD (.str "a") (.int 12) = some (.str (repS "a" 12)) := mul_s (z := "a") (n := 12) ⟨by decide, by decide, by decide +kernel, by decide +kernel⟩
  obtain ⟨x, x1, x2⟩ := mem_ix (xs := words.map .str ++ others) (i := r) q0 (by rw [hlen]; exact q1)
  refine ⟨x, p1, x2, hp1, ?_⟩
  · have md : ∀ ρ, mDict (mConsP (mC (.str "a")) (mC (.str "b")) mNilP) ρ = .ok (.dict [(.str "a", .str "b")]) ρ := fun ρ => rfl
    have wl : words.map PyData.str = [.str "", .str "Ab", .str "1a", .str "abcdefghi", .str "a_b", .str "a b", .str "aB", .str "-", .str "a,b", .str "X_1", .str (repS "a" 12)] := rfl
    have ol : others = [.none, .bool true, .int 0, .int 7, .tuple [.str "a"], .list [.str "a"], .dict [(.str "a", .str "b")], .tuple []] := rfl
    generalize words.map PyData.str ++ others = al at aa x1
    rw [wl, ol] at aa
    generalize repS "a" 12 = tw at mu aa
    simp only [f__law_strange, m__law_strange, fnOf]
    simp [mu, md, -mul_i]
    simp [aa, e1, x1, outsOf]
theorem Prs.fit {n : Nat} {xs : List D} (h : Prs n xs) : ∀ x ∈ xs, FitP x := fun x hx => by
  obtain ⟨a, b, rfl, ha, hb⟩ := h.all x hx
  refine ⟨by simp, fun y hy => ?_⟩
  simp at hy
  rcases hy with rfl | rfl
  · exact ha.fit
  · exact hb.fit
end SH
end
section
set_option maxRecDepth 100000
set_option maxHeartbeats 0
set_option exponentiation.threshold 3000
namespace SH
open PySem PySem.Spec PyProof.Rows L2 DL
def swpG : D → D
  | .tuple [a, b] => .tuple [b, a]
  | x => x
theorem fn_ok {n np : Nat} {fx : List Nat} {m : M Fl} {os : List OV} {o : OV} {ρ' outs : DL.Env} (hl : os.length = np) (h : m (os.map some ++ List.replicate (n - np) none) = .ok (.rt o) ρ') (ho : outsOf fx ρ' 0 os = outs) : fnOf n np fx m os = .ok o outs := by
  unfold fnOf
  rw [if_pos hl, h]
  subst ho
  rfl
theorem seq_nx {a b : M Fl} {ρ ρ1 : DL.Env} (h : a ρ = .ok .nx ρ1) : sSeq a b ρ = b ρ1 := by rw [sSeq_d, h]; rfl
end SH
end
section
set_option maxRecDepth 100000
set_option maxHeartbeats 0
set_option exponentiation.threshold 3000
namespace SH
open PySem PySem.Spec PyProof.Rows L2 DL
theorem sure_yes (x : D) (h : Fit x) (ht : turnB x = true) : f_sure_turns [.d (.list [x])] = .ok (.d .none) [some (.d (.list [x]))] := by
  have e := is_turn_ok x h
  rw [ht] at e
  have it : itemsD (.list [x]) = some [x] := rfl
  simp [f_sure_turns, m_sure_turns, fnOf, it, forGo_cons, e, outsOf]
end SH
end
section
set_option maxRecDepth 100000
set_option maxHeartbeats 0
set_option exponentiation.threshold 3000
namespace SH
open PySem PySem.Spec PyProof.Rows L2 DL
end SH
end
section
set_option maxRecDepth 100000
set_option maxHeartbeats 0
set_option exponentiation.threshold 3000
namespace SH
open PySem PySem.Spec PyProof.Rows L2 DL
structure Tn (xs : List D) : Prop where
  len : xs.length ≤ 20
  ok : xs.all okP = true
  srt : xs.map keyS = sortS (onceS (xs.map keyS))
  tos : sortS (xs.map toS) = xs.map keyS
theorem Tn.nodup {xs : List D} (h : Tn xs) : (xs.map keyS).Nodup := by
  rw [h.srt]
  exact (sortS_perm _).nodup_iff.mpr (once_nd _)
theorem Tn.perm {xs : List D} (h : Tn xs) : (xs.map toS).Perm (xs.map keyS) := by
  have := sortS_perm (xs.map toS)
  rw [h.tos] at this
  exact this.symm
end SH
end
section
set_option maxRecDepth 100000
set_option maxHeartbeats 0
set_option exponentiation.threshold 3000
namespace SH
open PySem PySem.Spec PyProof.Rows L2 DL
def led : List D → Str → Str
  | [], s => s
  | x :: xs, s => if keyS x = s then toS x else led xs s
theorem led_go {xs : List D} (hp : ∀ x ∈ xs, PrD x) (T : D) (s : Str) : ∀ w2 w3 : Option OV, ∃ f w2' w3', forGo (tTup 2 (tsCons (tName 2) (tsCons (tName 3) tsNil))) (mIf (mB (mBin eqD (mVar 2) (mVar 1))) (sRet (mD (mVar 3))) sNil) xs [some (.d T), some (.d (.str s)), w2, w3] = .ok f [some (.d T), some (.d (.str s)), w2', w3'] ∧ ((f = .nx ∧ led xs s = s) ∨ f = .rt (.d (.str (led xs s)))) := by
  induction xs with
  | nil => exact fun w2 w3 => ⟨.nx, w2, w3, rfl, .inl ⟨rfl, rfl⟩⟩
  | cons x xs ih =>
    intro w2 w3
    obtain ⟨a, b, rfl, _⟩ := hp x List.mem_cons_self
    rw [forGo_cons]
    have tg : tTup 2 (tsCons (tName 2) (tsCons (tName 3) tsNil)) (.tuple [.str a, .str b]) [some (.d T), some (.d (.str s)), w2, w3] = some [some (.d T), some (.d (.str s)), some (.d (.str a)), some (.d (.str b))] := by simp
    rw [tg]
    by_cases e : a = s
    · refine ⟨.rt (.d (.str b)), some (.d (.str a)), some (.d (.str b)), ?_, .inr ?_⟩
      · simp [eq_s, e]
      · have : led (.tuple [.str a, .str b] :: xs) s = b := if_pos e
        rw [this]
    · obtain ⟨f, v2, v3, h1, h2⟩ := ih (fun y hy => hp y (List.mem_cons_of_mem _ hy)) (some (.d (.str a))) (some (.d (.str b)))
      have : led (.tuple [.str a, .str b] :: xs) s = led xs s := if_neg e
      rw [this]
      refine ⟨f, v2, v3, ?_, h2⟩
      simp [eq_s, e, -forGo_nil]
      exact h1
theorem led_ok {xs : List D} (hp : ∀ x ∈ xs, PrD x) (s : Str) : f_led_name [.d (.tuple xs), .d (.str s)] = .ok (.d (.str (led xs s))) [some (.d (.tuple xs)), some (.d (.str s))] := by
  obtain ⟨f, v2, v3, h1, h2⟩ := led_go hp (.tuple xs) s none none
  have it : itemsD (.tuple xs) = some xs := rfl
  rcases h2 with ⟨rfl, h2⟩ | rfl
  · simp [f_led_name, m_led_name, fnOf, it, h1, h2, outsOf]
  · simp [f_led_name, m_led_name, fnOf, it, h1, outsOf]
end SH
end
section
set_option maxRecDepth 100000
set_option maxHeartbeats 0
set_option exponentiation.threshold 3000
namespace SH
open PySem PySem.Spec PyProof.Rows L2 DL
theorem led_mem {xs : List D} {s : Str} (h : s ∈ xs.map keyS) : led xs s ∈ xs.map toS := by
  induction xs with
  | nil => cases h
  | cons x xs ih =>
    rw [List.map_cons, List.mem_cons] at h ⊢
    unfold led
    by_cases e : keyS x = s
    · rw [if_pos e]; exact .inl rfl
    · rw [if_neg e]
      rcases h with h | h
      · exact absurd h.symm e
      · exact .inr (ih h)
theorem led_key {xs : List D} (h : Tn xs) {s : Str} (hs : s ∈ xs.map keyS) : led xs s ∈ xs.map keyS := h.perm.mem_iff.mp (led_mem hs)
theorem led_inj_go : ∀ {xs : List D}, (xs.map keyS).Nodup → (xs.map toS).Nodup → ∀ {s t : Str}, s ∈ xs.map keyS → t ∈ xs.map keyS → led xs s = led xs t → s = t
  | [], _, _, _, _, h, _, _ => by cases h
  | x :: xs, n1, n2, s, t, hs, ht, e => by
    rw [List.map_cons] at n1 n2 hs ht
    obtain ⟨a1, a2⟩ := List.nodup_cons.mp n1
    obtain ⟨b1, b2⟩ := List.nodup_cons.mp n2
    unfold led at e
    by_cases es : keyS x = s
    · by_cases et : keyS x = t
      · rw [← es, ← et]
      · rw [if_pos es, if_neg et] at e
        have ht : t ∈ xs.map keyS := (List.mem_cons.mp ht).resolve_left fun z => et z.symm
        exact absurd (e ▸ led_mem ht) b1
    · have hs : s ∈ xs.map keyS := (List.mem_cons.mp hs).resolve_left fun z => es z.symm
      by_cases et : keyS x = t
      · rw [if_neg es, if_pos et] at e
        exact absurd (e ▸ led_mem hs) b1
      · have ht : t ∈ xs.map keyS := (List.mem_cons.mp ht).resolve_left fun z => et z.symm
        rw [if_neg es, if_neg et] at e
        exact led_inj_go a2 b2 hs ht e
theorem led_inj {xs : List D} (h : Tn xs) {s t : Str} (hs : s ∈ xs.map keyS) (ht : t ∈ xs.map keyS) (e : led xs s = led xs t) : s = t := led_inj_go h.nodup (h.perm.nodup_iff.mpr h.nodup) hs ht e
end SH
end
section
set_option maxRecDepth 100000
set_option maxHeartbeats 0
set_option exponentiation.threshold 3000
namespace SH
open PySem PySem.Spec PyProof.Rows L2 DL
structure Ring (xs : List D) (a : Str) (pre : List Str) (z : Str) : Prop where
  nd : (pre ++ [z]).Nodup
  sub : ∀ s ∈ pre ++ [z], s ∈ xs.map keyS
  from' : ∀ t ∈ pre ++ [z], t = a ∨ ∃ s ∈ pre, led xs s = t
theorem Ring.few {xs : List D} {a z : Str} {pre : List Str} (h : Ring xs a pre z) : pre.length + 1 ≤ xs.length := by
  have := nodup_le h.nd h.sub
  simpa using this
theorem Ring.step {xs : List D} (hT : Tn xs) {a z : Str} {pre : List Str} (h : Ring xs a pre z) (hne : led xs z ≠ a) : Ring xs a (pre ++ [z]) (led xs z) := by
  have hz : z ∈ xs.map keyS := h.sub z (by simp)
  have hn : led xs z ∉ pre ++ [z] := fun hm => by
    rcases h.from' _ hm with e | ⟨s, hs, e⟩
    · exact hne e
    · have : s = z := led_inj hT (h.sub s (by simp [hs])) hz e
      subst this
      have := (List.nodup_append.mp h.nd).2.2 s hs s (by simp)
      exact this rfl
  refine ⟨?_, ?_, ?_⟩
  · exact List.nodup_append.mpr ⟨h.nd, by simp, fun x hx y hy => by simp at hy; subst hy; exact fun e => hn (e ▸ hx)⟩
  · intro s hs
    rcases List.mem_append.mp hs with hs | hs
    · exact h.sub s hs
    · simp at hs; subst hs; exact led_key hT hz
  · intro t ht
    rcases List.mem_append.mp ht with ht | ht
    · rcases h.from' t ht with e | ⟨s, hs, e⟩
      · exact .inl e
      · exact .inr ⟨s, by simp [hs], e⟩
    · simp at ht; subst ht; exact .inr ⟨z, by simp, rfl⟩
end SH
end
section
set_option maxRecDepth 100000
set_option maxHeartbeats 0
set_option exponentiation.threshold 3000
namespace SH
open PySem PySem.Spec PyProof.Rows L2 DL
theorem ext_l {a b : List D} (h : a.length + b.length ≤ 1000) : extendD a (.list b) = some (a ++ b) := if_pos (by have := size_big; omega)
end SH
end
section
set_option maxRecDepth 100000
set_option maxHeartbeats 0
set_option exponentiation.threshold 3000
namespace SH
open PySem PySem.Spec PyProof.Rows L2 DL
end SH
end
section
set_option maxRecDepth 100000
set_option maxHeartbeats 0
set_option exponentiation.threshold 3000
namespace SH
open PySem PySem.Spec PyProof.Rows L2 DL
end SH
end
section
set_option maxRecDepth 100000
set_option maxHeartbeats 0
set_option exponentiation.threshold 3000
namespace SH
open PySem PySem.Spec PyProof.Rows L2 DL
abbrev PL := List (Str × Str)
def pd (p : Str × Str) : D := .tuple [.str p.1, .str p.2]
def tD (t : PL) : D := .tuple (t.map pd)
def le2 (p q : Str × Str) : Bool := if p.1 = q.1 then leS p.2 q.2 else leS p.1 q.1
theorem not_lt_le (a b : Str) : (!decide (b.cps.toList < a.cps.toList)) = leS a b := by
  unfold leS
  by_cases h : b.cps.toList < a.cps.toList
  · have : ¬ a.cps.toList ≤ b.cps.toList := fun z => List.not_lt.mpr z h
    simp [h, this]
  · have : a.cps.toList ≤ b.cps.toList := List.not_lt.mp h
    simp [h, this]
theorem dataLe_lt (a b : D) : PySem.W.dataLe false id a b = !PySem.W.dataLt b a := rfl
theorem eqv_str (a b : Str) : PyData.eqv (.str a) (.str b) = decide (a = b) := by
  rw [PyData.eqv]
  by_cases h : a = b
  · simp [h]
  · simp [h]
theorem le2_pd (p q : Str × Str) : le2 p q = PySem.W.dataLe false id (pd p) (pd q) := by
  obtain ⟨a, b⟩ := p
  obtain ⟨c, d⟩ := q
  rw [dataLe_lt]
  unfold pd le2
  rw [PySem.W.dataLt_pair (by simp [PySem.W.alike]) (by simp [PySem.W.alike]), eqv_str, eqv_str, PySem.W.dataLt_str, PySem.W.dataLt_str]
  by_cases h : a = c
  · subst h
    by_cases k : b = d
    · subst k
      simp [leS_refl b]
    · have k' : ¬ d = b := fun e => k e.symm
      simp [k', ← not_lt_le]
  · have h' : ¬ c = a := fun e => h e.symm
    simp [h, h', ← not_lt_le]
where leS_refl (b : Str) : leS b b = true := by unfold leS; rw [decide_eq_true_eq]; exact List.le_refl _
theorem leS_refl (b : Str) : leS b b = true := by unfold leS; rw [decide_eq_true_eq]; exact List.le_refl _
def sortP (l : PL) : PL := l.mergeSort le2
theorem sortL_pd (l : PL) : sortL (l.map pd) = (sortP l).map pd := by
  unfold sortL sortP
  exact (PySem.W.sort_maps pd fun a _ b _ => le2_pd a b).symm
def Nm2 (l : PL) : Prop := ∀ p ∈ l, NmS p.1 ∧ NmS p.2
theorem Nm2.prd {l : PL} (h : Nm2 l) : ∀ x ∈ l.map pd, PrD x := fun x hx => by
  obtain ⟨p, hp, rfl⟩ := List.mem_map.mp hx
  exact ⟨p.1, p.2, rfl, (h p hp).1, (h p hp).2⟩
theorem sortO_pd {l : PL} (h : Nm2 l) : sortO (.list (l.map pd)) = some ((sortP l).map pd) := by
  show (if _ then _ else _) = _
  rw [if_pos (sortOk_prs h.prd), sortL_pd]
theorem le2_trans (a b c : Str × Str) (h1 : le2 a b = true) (h2 : le2 b c = true) : le2 a c = true := by
  unfold le2 at *
  by_cases h : a.1 = b.1
  · rw [if_pos h] at h1
    by_cases k : b.1 = c.1
    · rw [if_pos k] at h2
      rw [if_pos (h.trans k)]
      exact leS_trans _ _ _ h1 h2
    · rw [if_neg k] at h2
      rw [if_neg (by rw [h]; exact k), h]
      exact h2
  · rw [if_neg h] at h1
    by_cases k : b.1 = c.1
    · rw [if_neg (by rw [← k]; exact h), ← k]
      exact h1
    · rw [if_neg k] at h2
      by_cases m : a.1 = c.1
      · exact absurd (leS_anti h1 (by rw [m]; exact h2)) h
      · rw [if_neg m]
        exact leS_trans _ _ _ h1 h2
theorem le2_total (a b : Str × Str) : (le2 a b || le2 b a) = true := by
  unfold le2
  by_cases h : a.1 = b.1
  · rw [if_pos h, if_pos h.symm]; exact leS_total _ _
  · rw [if_neg h, if_neg (fun e => h e.symm)]; exact leS_total _ _
theorem le2_anti {a b : Str × Str} (h1 : le2 a b = true) (h2 : le2 b a = true) : a = b := by
  unfold le2 at *
  by_cases h : a.1 = b.1
  · rw [if_pos h] at h1
    rw [if_pos h.symm] at h2
    exact Prod.ext h (leS_anti h1 h2)
  · rw [if_neg h] at h1
    rw [if_neg (fun e => h e.symm)] at h2
    exact absurd (leS_anti h1 h2) h
theorem sortP_perm (l : PL) : (sortP l).Perm l := List.mergeSort_perm _ _
theorem sortP_eq {l m : PL} (p : m.Perm l) (s : m.Pairwise fun a b => le2 a b = true) : sortP l = m :=
  ((sortP_perm l).trans p.symm).eq_of_pairwise (le := fun a b => le2 a b = true) (fun a b _ _ => le2_anti) (List.pairwise_mergeSort le2_trans le2_total l) s
def ltN (a b : Str) : Prop := leS a b = true ∧ a ≠ b
theorem srt_once (l : List Str) : (sortS (onceS l)).Pairwise ltN := by
  have h1 : (sortS (onceS l)).Pairwise fun a b => leS a b = true := List.pairwise_mergeSort leS_trans leS_total _
  have h2 : (sortS (onceS l)).Nodup := (sortS_perm _).nodup_iff.mpr (once_nd l)
  exact h1.and h2
theorem mem_srt {l : List Str} {x : Str} : x ∈ sortS (onceS l) ↔ x ∈ l := (sortS_perm _).mem_iff.trans once_mem
theorem ltN_nodup {l : List Str} (h : l.Pairwise ltN) : l.Nodup := h.imp fun ⟨_, n⟩ => n
theorem ltN_uniq {l m : List Str} (hl : l.Pairwise ltN) (hm : m.Pairwise ltN) (e : ∀ x, x ∈ l ↔ x ∈ m) : l = m :=
  ((List.perm_ext_iff_of_nodup (ltN_nodup hl) (ltN_nodup hm)).mpr e).eq_of_pairwise (le := fun a b => leS a b = true) (fun a b _ _ => leS_anti) (hl.imp fun h => h.1) (hm.imp fun h => h.1)
theorem srt_eq {l m : List Str} (hm : m.Pairwise ltN) (e : ∀ x, x ∈ m ↔ x ∈ l) : sortS (onceS l) = m := ltN_uniq (srt_once l) hm fun x => mem_srt.trans (e x).symm
def mkT (f : Str → Str) (l : List Str) : PL := ((sortS (onceS l)).filter fun s => !decide (s = f s)).map fun s => (s, f s)
def keys (t : PL) : List Str := t.map (·.1)
theorem keysMk (f : Str → Str) (l : List Str) : keys (mkT f l) = (sortS (onceS l)).filter fun s => !decide (s = f s) := by
  unfold keys mkT
  rw [List.map_map]
  exact List.map_id' _
theorem mem_keysMk {f : Str → Str} {l : List Str} {s : Str} : s ∈ keys (mkT f l) ↔ s ∈ l ∧ s ≠ f s := by
  rw [keysMk, List.mem_filter, mem_srt]
  simp
theorem keysMk_srt (f : Str → Str) (l : List Str) : (keys (mkT f l)).Pairwise ltN := by
  rw [keysMk]
  exact (srt_once l).filter _
def ledP (t : PL) (s : Str) : Str := match t with
  | [] => s
  | p :: r => if p.1 = s then p.2 else ledP r s
theorem led_pd (t : PL) (s : Str) : led (t.map pd) s = ledP t s := by
  induction t with
  | nil => rfl
  | cons p r ih =>
    show (if p.1 = s then p.2 else led (r.map pd) s) = if p.1 = s then p.2 else ledP r s
    rw [ih]
theorem ledP_out {t : PL} {s : Str} (h : s ∉ keys t) : ledP t s = s := by
  induction t with
  | nil => rfl
  | cons p r ih =>
    have h : s ∉ p.1 :: keys r := h
    rw [List.mem_cons, not_or] at h
    show (if p.1 = s then p.2 else ledP r s) = s
    rw [if_neg fun e => h.1 e.symm]
    exact ih h.2
theorem ledP_in {t : PL} {p : Str × Str} (n : (keys t).Nodup) (h : p ∈ t) : ledP t p.1 = p.2 := by
  induction t with
  | nil => cases h
  | cons q r ih =>
    have n : (q.1 :: keys r).Nodup := n
    obtain ⟨n1, n2⟩ := List.nodup_cons.mp n
    show (if q.1 = p.1 then q.2 else ledP r p.1) = p.2
    rcases List.mem_cons.mp h with rfl | h
    · rw [if_pos rfl]
    · rw [if_neg fun e => n1 (by rw [e]; exact List.mem_map_of_mem h)]
      exact ih n2 h
theorem ledP_mk {f : Str → Str} {l : List Str} (h : ∀ s, s ∉ l → f s = s) (s : Str) : ledP (mkT f l) s = f s := by
  by_cases hs : s ∈ keys (mkT f l)
  · have hm : (s, f s) ∈ mkT f l := by
      unfold mkT
      rw [keysMk] at hs
      exact List.mem_map.mpr ⟨s, hs, rfl⟩
    exact ledP_in (ltN_nodup (keysMk_srt f l)) hm
  · rw [ledP_out hs]
    rw [mem_keysMk] at hs
    by_cases hl : s ∈ l
    · by_cases e : s = f s
      · exact e
      · exact absurd ⟨hl, e⟩ hs
    · exact (h s hl).symm
theorem mk_congr {f g : Str → Str} {l m : List Str} (e : ∀ s, f s = g s) (hl : ∀ s, s ∉ l → f s = s) (hm : ∀ s, s ∉ m → g s = s) : mkT f l = mkT g m := by
  have hfg : f = g := funext e
  subst hfg
  have : ((sortS (onceS l)).filter fun s => !decide (s = f s)) = (sortS (onceS m)).filter fun s => !decide (s = f s) := by
    refine ltN_uniq ((srt_once l).filter _) ((srt_once m).filter _) fun x => ?_
    rw [List.mem_filter, List.mem_filter, mem_srt, mem_srt]
    constructor
    · rintro ⟨h1, h2⟩
      refine ⟨?_, h2⟩
      by_cases hx : x ∈ m
      · exact hx
      · simp [hm x hx] at h2
    · rintro ⟨h1, h2⟩
      refine ⟨?_, h2⟩
      by_cases hx : x ∈ l
      · exact hx
      · simp [hl x hx] at h2
  unfold mkT
  rw [this]
structure Turn (t : PL) : Prop where
  nm : Nm2 t
  ne : ∀ p ∈ t, p.1 ≠ p.2
  srt : (keys t).Pairwise ltN
  perm : (t.map (·.2)).Perm (keys t)
theorem Turn.self {t : PL} (h : Turn t) {l : List Str} (hl : ∀ s ∈ keys t, s ∈ l) : mkT (ledP t) l = t := by
  have e1 : keys (mkT (ledP t) l) = keys t := ltN_uniq (keysMk_srt _ _) h.srt fun x => by
    rw [mem_keysMk]
    constructor
    · rintro ⟨h1, h2⟩
      by_cases hx : x ∈ keys t
      · exact hx
      · exact absurd (ledP_out hx).symm h2
    · intro hx
      obtain ⟨p, hp, rfl⟩ := List.mem_map.mp hx
      refine ⟨hl _ hx, ?_⟩
      rw [ledP_in (ltN_nodup h.srt) hp]
      exact h.ne p hp
  rw [keysMk] at e1
  unfold mkT
  rw [e1]
  unfold keys
  rw [List.map_map]
  have : ∀ p ∈ t, ((fun s => (s, ledP t s)) ∘ fun x : Str × Str => x.1) p = p := fun p hp => Prod.ext rfl (ledP_in (ltN_nodup h.srt) hp)
  rw [List.map_congr_left this, List.map_id']
theorem Turn.ext {t u : PL} (h : Turn t) (k : Turn u) (e : ∀ s, ledP t s = ledP u s) : t = u := by
  rw [← h.self (l := keys t) fun _ h => h, ← k.self (l := keys u) fun _ h => h]
  exact mk_congr e (fun s hs => ledP_out hs) fun s hs => ledP_out hs
theorem Turn.led_key {t : PL} (h : Turn t) {s : Str} (hs : s ∈ keys t) : ledP t s ∈ keys t := by
  obtain ⟨p, hp, rfl⟩ := List.mem_map.mp hs
  rw [ledP_in (ltN_nodup h.srt) hp]
  exact h.perm.mem_iff.mp (List.mem_map_of_mem hp)
theorem Turn.inj {t : PL} (h : Turn t) {a b : Str} (e : ledP t a = ledP t b) : a = b := by
  have nd2 : (t.map (·.2)).Nodup := h.perm.nodup_iff.mpr (ltN_nodup h.srt)
  have one : ∀ {t : PL}, (t.map (·.2)).Nodup → ∀ p ∈ t, ∀ q ∈ t, p.2 = q.2 → p = q := fun {t} => by
    induction t with
    | nil => intro _ p hp; cases hp
    | cons r t ih =>
      intro n p hp q hq e
      rw [List.map_cons] at n
      obtain ⟨n1, n2⟩ := List.nodup_cons.mp n
      rcases List.mem_cons.mp hp with hp1 | hp1
      · rcases List.mem_cons.mp hq with hq1 | hq1
        · rw [hp1, hq1]
        · exact absurd (by rw [← hp1, e]; exact List.mem_map_of_mem hq1) n1
      · rcases List.mem_cons.mp hq with hq1 | hq1
        · exact absurd (by rw [← hq1, ← e]; exact List.mem_map_of_mem hp1) n1
        · exact ih n2 p hp1 q hq1 e
  by_cases ha : a ∈ keys t
  · by_cases hb : b ∈ keys t
    · obtain ⟨p, hp, rfl⟩ := List.mem_map.mp ha
      obtain ⟨q, hq, rfl⟩ := List.mem_map.mp hb
      rw [ledP_in (ltN_nodup h.srt) hp, ledP_in (ltN_nodup h.srt) hq] at e
      rw [one nd2 p hp q hq e]
    · rw [ledP_out hb] at e
      exact absurd (by rw [← e]; exact h.led_key ha) hb
  · by_cases hb : b ∈ keys t
    · rw [ledP_out ha] at e
      exact absurd (by rw [e]; exact h.led_key hb) ha
    · rw [ledP_out ha, ledP_out hb] at e
      exact e
theorem perm_of_sub {l m : List Str} (n : l.Nodup) (s : ∀ x ∈ l, x ∈ m) (hl : m.length ≤ l.length) (nm : m.Nodup) : l.Perm m := by
  refine (List.perm_ext_iff_of_nodup n nm).mpr fun x => ⟨s x, fun hx => ?_⟩
  by_cases h : x ∈ l
  · exact h
  · have h1 : (x :: l).Nodup := List.nodup_cons.mpr ⟨h, n⟩
    have h2 := nodup_le h1 (b := m) fun y hy => by
      rcases List.mem_cons.mp hy with rfl | hy
      · exact hx
      · exact s y hy
    rw [List.length_cons] at h2
    omega
theorem turn_mk {f : Str → Str} {l : List Str} (hl : ∀ s ∈ l, NmS s) (out : ∀ s, s ∉ l → f s = s) (inj : ∀ a b, f a = f b → a = b) : Turn (mkT f l) := by
  have key : ∀ s, s ∈ keys (mkT f l) → f s ∈ keys (mkT f l) := fun s hs => by
    rw [mem_keysMk] at hs ⊢
    have hne : f s ≠ f (f s) := fun e => hs.2 (inj _ _ e)
    refine ⟨?_, hne⟩
    by_cases h : f s ∈ l
    · exact h
    · exact absurd (out _ h).symm hne
  have tos : (mkT f l).map (·.2) = (keys (mkT f l)).map f := by
    rw [keysMk]
    unfold mkT
    rw [List.map_map]
    rfl
  have nd := ltN_nodup (keysMk_srt f l)
  refine ⟨fun p hp => ?_, fun p hp => ?_, keysMk_srt f l, ?_⟩
  · have h1 : p.1 ∈ keys (mkT f l) := List.mem_map_of_mem hp
    have h2 : p.2 = f p.1 := by
      rw [← ledP_in nd hp, ledP_mk out]
    have h3 := key _ h1
    rw [mem_keysMk] at h1 h3
    exact ⟨hl _ h1.1, by rw [h2]; exact hl _ h3.1⟩
  · have h1 : p.1 ∈ keys (mkT f l) := List.mem_map_of_mem hp
    rw [mem_keysMk] at h1
    rw [show p.2 = f p.1 from by rw [← ledP_in nd hp, ledP_mk out]]
    exact h1.2
  · rw [tos]
    refine perm_of_sub ?_ (fun x hx => ?_) (by rw [List.length_map]; exact Nat.le_refl _) nd
    · exact List.Nodup.map_on' inj nd
    · obtain ⟨s, hs, rfl⟩ := List.mem_map.mp hx
      exact key s hs
where List.Nodup.map_on' {f : Str → Str} (inj : ∀ a b, f a = f b → a = b) : ∀ {l : List Str}, l.Nodup → (l.map f).Nodup
  | [], _ => .nil
  | a :: l, h => by
    obtain ⟨h1, h2⟩ := List.nodup_cons.mp h
    rw [List.map_cons]
    refine List.nodup_cons.mpr ⟨fun z => ?_, List.Nodup.map_on' inj h2⟩
    obtain ⟨b, hb, e⟩ := List.mem_map.mp z
    exact h1 (by rw [inj _ _ e.symm]; exact hb)
end SH
end
section
set_option maxRecDepth 100000
set_option maxHeartbeats 0
set_option exponentiation.threshold 3000
namespace SH
open PySem PySem.Spec PyProof.Rows L2 DL
theorem keyS_pd (t : PL) : (t.map pd).map keyS = keys t := by
  unfold keys; rw [List.map_map]; rfl
theorem toS_pd (t : PL) : (t.map pd).map toS = t.map (·.2) := by
  rw [List.map_map]; rfl
theorem nmB_of {s : Str} (h : NmS s) : nmB (.str s) = true := nmS_iff.mpr h
theorem sortS_uniq {l m : List Str} (p : l.Perm m) (s : m.Pairwise ltN) : sortS l = m :=
  ((sortS_perm l).trans p).eq_of_pairwise (le := fun a b => leS a b = true) (fun a b _ _ => leS_anti) (List.pairwise_mergeSort leS_trans leS_total l) (s.imp fun h => h.1)
theorem Turn.isB {t : PL} (h : Turn t) : turnB (tD t) = true := by
  have a : (t.map pd).all okP = true := List.all_eq_true.mpr fun x hx => by
    obtain ⟨p, hp, rfl⟩ := List.mem_map.mp hx
    have n := h.nm p hp
    have e := h.ne p hp
    simp [okP, pd, nmB_of n.1, nmB_of n.2, neB, e]
  show ((t.map pd).all okP && (decide ((t.map pd).map keyS = sortS (onceS ((t.map pd).map keyS))) && decide (sortS ((t.map pd).map toS) = (t.map pd).map keyS))) = true
  rw [a, keyS_pd, toS_pd, srt_eq h.srt fun _ => Iff.rfl, sortS_uniq h.perm h.srt]
  simp
theorem fit_pd {t : PL} (h : Nm2 t) (hl : t.length ≤ 20) : Fit (tD t) := ⟨by rw [List.length_map]; exact hl, fun x hx => by
  obtain ⟨p, hp, rfl⟩ := List.mem_map.mp hx
  refine ⟨by simp, fun y hy => ?_⟩
  simp at hy
  rcases hy with rfl | rfl
  · exact (h p hp).1.fit
  · exact (h p hp).2.fit⟩
theorem Turn.fit {t : PL} (h : Turn t) (hl : t.length ≤ 20) : Fit (tD t) := fit_pd h.nm hl
theorem Turn.sure {t : PL} (h : Turn t) (hl : t.length ≤ 20) : f_sure_turns [.d (.list [tD t])] = .ok (.d .none) [some (.d (.list [tD t]))] := sure_yes _ (h.fit hl) h.isB
theorem Turn.isTurn {t : PL} (h : Turn t) (hl : t.length ≤ 20) : f_is_turn [.d (tD t)] = .ok (.d (.bool true)) [some (.d (tD t))] := by
  rw [is_turn_ok _ (h.fit hl), h.isB]
theorem Turn.sure2 {t u : PL} (h : Turn t) (k : Turn u) (hl : t.length ≤ 20) (kl : u.length ≤ 20) : f_sure_turns [.d (.list [tD t, tD u])] = .ok (.d .none) [some (.d (.list [tD t, tD u]))] := by
  have e := h.isTurn hl
  have e2 := k.isTurn kl
  have it : itemsD (.list [tD t, tD u]) = some [tD t, tD u] := rfl
  simp [f_sure_turns, m_sure_turns, fnOf, it, forGo_cons, e, e2, outsOf]
theorem items_t (t : PL) : itemsD (tD t) = some (t.map pd) := rfl
theorem led_t {t : PL} (h : Nm2 t) (s : Str) : f_led_name [.d (tD t), .d (.str s)] = .ok (.d (.str (ledP t s))) [some (.d (tD t)), some (.d (.str s))] := by
  have := led_ok (xs := t.map pd) h.prd s
  rw [led_pd] at this
  exact this
def swpP (p : Str × Str) : Str × Str := (p.2, p.1)
def inv (t : PL) : PL := sortP (t.map swpP)
theorem swpG_pd (t : PL) : (t.map pd).map swpG = (t.map swpP).map pd := by
  rw [List.map_map, List.map_map]; rfl
theorem le2_keys {l : PL} (n : (keys l).Nodup) (s : l.Pairwise fun a b => le2 a b = true) : (keys l).Pairwise ltN := by
  unfold keys at *
  rw [List.pairwise_map]
  have n' : l.Pairwise fun a b => a.1 ≠ b.1 := by
    have := n
    unfold List.Nodup at this
    rwa [List.pairwise_map] at this
  refine (s.and n').imp fun {a b} ⟨h1, h2⟩ => ⟨?_, h2⟩
  unfold le2 at h1
  rwa [if_neg h2] at h1
theorem Turn.inv {t : PL} (h : Turn t) : Turn (inv t) := by
  have p := sortP_perm (t.map swpP)
  have pk : (keys (SH.inv t)).Perm (t.map (·.2)) := by
    have := p.map (·.1)
    rw [List.map_map] at this
    exact this
  have pt : ((SH.inv t).map (·.2)).Perm (keys t) := by
    have := p.map (·.2)
    rw [List.map_map] at this
    exact this
  have nd : (keys (SH.inv t)).Nodup := (pk.trans h.perm).nodup_iff.mpr (ltN_nodup h.srt)
  have mem : ∀ q ∈ SH.inv t, ∃ p ∈ t, swpP p = q := fun q hq => List.mem_map.mp (p.mem_iff.mp hq)
  refine ⟨fun q hq => ?_, fun q hq => ?_, le2_keys nd (List.pairwise_mergeSort le2_trans le2_total _), (pt.trans h.perm.symm).trans pk.symm⟩
  · obtain ⟨p, hp, rfl⟩ := mem q hq
    exact ⟨(h.nm p hp).2, (h.nm p hp).1⟩
  · obtain ⟨p, hp, rfl⟩ := mem q hq
    exact fun e => h.ne p hp e.symm
theorem undone_t {t : PL} (h : Nm2 t) : f_undone [.d (tD t)] = .ok (.d (tD (inv t))) [some (.d (tD t))] := by
  have lc := lcGo_pure (vs := [1, 2]) (t := (tTup 2 (tsCons (tName 1) (tsCons (tName 2) tsNil)))) (tst := mYes) (e := (mTup (mCons (mVar 2) (mCons (mVar 1) mNil)))) (p := fun _ => true) (g := swpG) (ρ := [some (.d (tD t)), none, none]) (xs := t.map pd) fun x hx => by
    obtain ⟨b, c, rfl, _⟩ := h.prd x hx
    exact ⟨[some (.d (tD t)), some (.d (.str b)), some (.d (.str c))], _, by simp, rfl, fun z => (by cases z), fun _ => ⟨_, rfl, rfl⟩⟩
  rw [filt_all, swpG_pd] at lc
  have so := sortO_pd (l := t.map swpP) fun q hq => by
    obtain ⟨p, hp, rfl⟩ := List.mem_map.mp hq
    exact ⟨(h p hp).2, (h p hp).1⟩
  generalize (t.map swpP).map pd = q at lc so
  simp [f_undone, m_undone, fnOf, items_t, dataAt, lc, backE, so, tupD, outsOf]
  rfl
theorem Turn.back {t : PL} (h : Turn t) (hl : t.length ≤ 20) : f_back_turn [.d (tD t)] = .ok (.d (tD (SH.inv t))) [some (.d (tD t))] := by
  simp [f_back_turn, m_back_turn, fnOf, h.sure hl, undone_t h.nm, outsOf]
def mvD (f : Str → Str) (s : Str) : Key × D := (.inr s, .str (f s))
def mvP (f : Str → Str) (s : Str) : D := .tuple [.str s, .str (f s)]
def mvG (f : Str → Str) : D → List D
  | .str s => [mvP f s]
  | _ => []
theorem cells_mv (f : Str → Str) (ks : List Str) : cells ((ks.map (mvD f)).map fun p => (kD p.1, p.2)) = none := by
  match ks with
  | [] => rfl
  | [_] => rfl
  | _ :: _ :: _ => rfl
theorem items_mv (f : Str → Str) (ks : List Str) : itemsP (dK (ks.map (mvD f))) = some (ks.map (mvP f)) := by
  have : itemsP (dK (ks.map (mvD f))) = (match cells ((ks.map (mvD f)).map fun p => (kD p.1, p.2)) with
    | some _ => none
    | none => some (((ks.map (mvD f)).map fun p => (kD p.1, p.2)).map fun p => .tuple [p.1, p.2])) := rfl
  rw [this, cells_mv]
  simp only [List.map_map]
  rfl
theorem mkT_perm {f : Str → Str} {ks : List Str} (n : ks.Nodup) : ((ks.filter fun s => !decide (s = f s)).map fun s => (s, f s)).Perm (mkT f ks) := by
  unfold mkT
  refine (List.Perm.filter _ ?_).map _
  refine (List.perm_ext_iff_of_nodup n ((sortS_perm _).nodup_iff.mpr (once_nd ks))).mpr fun x => mem_srt.symm
theorem mkT_le2 (f : Str → Str) (l : List Str) : (mkT f l).Pairwise fun a b => le2 a b = true := by
  have h := keysMk_srt f l
  unfold keys at h
  rw [List.pairwise_map] at h
  refine h.imp fun {a b} ⟨h1, h2⟩ => ?_
  unfold le2
  rw [if_neg h2]
  exact h1
theorem turn_from_ok {f : Str → Str} {ks : List Str} (n : ks.Nodup) (h : ∀ s ∈ ks, NmS s ∧ NmS (f s)) : f_turn_from [.d (dK (ks.map (mvD f)))] = .ok (.d (tD (mkT f ks))) [some (.d (dK (ks.map (mvD f))))] := by
  generalize hd : dK (ks.map (mvD f)) = d
  have it : itemsP d = some (ks.map (mvP f)) := by rw [← hd]; exact items_mv f ks
  have lc := lcGo_pure (vs := [1, 2]) (t := (tTup 2 (tsCons (tName 1) (tsCons (tName 2) tsNil)))) (tst := p1_turn_from) (e := e2_turn_from) (p := fun x => !decide (keyS x = toS x)) (g := id) (ρ := [some (.d d), none, none]) (xs := ks.map (mvP f)) fun x hx => by
    obtain ⟨s, hs, rfl⟩ := List.mem_map.mp hx
    exact ⟨[some (.d d), some (.d (.str s)), some (.d (.str (f s)))], [some (.d d), some (.d (.str s)), some (.d (.str (f s)))], by simp [mvP], by simp [ne_s, keyS, keyD, toS, toD, mvP]; exact decide_eq_decide.mpr Iff.rfl, fun _ => rfl, fun _ => ⟨_, rfl, rfl⟩⟩
  have e1 : ((ks.map (mvP f)).filter fun x => !decide (keyS x = toS x)).map id = ((ks.filter fun s => !decide (s = f s)).map fun s => (s, f s)).map pd := by
    rw [List.map_id, List.filter_map, List.map_map]
    rfl
  rw [e1] at lc
  have so := sortO_pd (l := (ks.filter fun s => !decide (s = f s)).map fun s => (s, f s)) fun q hq => by
    obtain ⟨s, hs, rfl⟩ := List.mem_map.mp hq
    exact h s (List.mem_filter.mp hs).1
  rw [sortP_eq (mkT_perm n).symm (mkT_le2 f ks)] at so
  generalize ((ks.filter fun s => !decide (s = f s)).map fun s => (s, f s)).map pd = q at lc so
  simp [f_turn_from, m_turn_from, fnOf, it, dataAt, lc, backE, so, tupD, outsOf]
  rfl
theorem kds_mv (f : Str → Str) (l : List Str) : ∃ ks : List Str, kdsOf (l.map (mvP f)) = ks.map (mvD f) ∧ ks.Nodup ∧ (∀ x, x ∈ ks ↔ x ∈ l) ∧ ks.length ≤ l.length := by
  have gen : ∀ (l : List Str) (ks : List Str), ks.Nodup → ∃ ks' : List Str, (l.map (mvP f)).foldl putP (ks.map (mvD f)) = ks'.map (mvD f) ∧ ks'.Nodup ∧ (∀ x, x ∈ ks' ↔ x ∈ ks ∨ x ∈ l) ∧ ks'.length ≤ ks.length + l.length := by
    intro l
    induction l with
    | nil => intro ks n; exact ⟨ks, rfl, n, fun x => by simp, by simp⟩
    | cons s l ih =>
      intro ks n
      have e : putP (ks.map (mvD f)) (mvP f s) = (if s ∈ ks then ks else ks ++ [s]).map (mvD f) := by
        show putKD (ks.map (mvD f)) (.inr s) (.str (f s)) = _
        unfold putKD
        have ea : ((ks.map (mvD f)).any fun p => decide (p.1 = .inr s)) = decide (s ∈ ks) := by
          rw [List.any_map]
          induction ks with
          | nil => rfl
          | cons k ks ihk =>
            rw [List.any_cons, ihk (List.nodup_cons.mp n).2]
            by_cases hk : k = s
            · subst hk; simp [mvD]
            · have : ¬ s = k := fun e => hk e.symm
              simp [mvD, hk, this]
        rw [ea]
        by_cases hs : s ∈ ks
        · rw [if_pos (by simpa using hs), if_pos hs, List.map_map]
          refine List.map_congr_left fun k hk => ?_
          show (if (mvD f k).1 = .inr s then ((mvD f k).1, PyData.str (f s)) else mvD f k) = mvD f k
          by_cases e : k = s
          · subst e; rw [if_pos (show (mvD f k).1 = .inr k from rfl)]; rfl
          · rw [if_neg]
            intro z
            exact e (by injection z)
        · rw [if_neg (by simpa using hs), if_neg hs, List.map_append]
          rfl
      rw [List.map_cons, List.foldl_cons, e]
      obtain ⟨ks', h1, h2, h3, h4⟩ := ih (if s ∈ ks then ks else ks ++ [s]) (by
        split
        · exact n
        · rename_i hs
          exact List.nodup_append.mpr ⟨n, by simp, fun x hx y hy => by simp at hy; subst hy; exact fun e => hs (e ▸ hx)⟩)
      refine ⟨ks', h1, h2, fun x => ?_, ?_⟩
      · rw [h3, List.mem_cons]
        split
        · rename_i hs
          exact ⟨fun z => z.elim .inl fun z => .inr (.inr z), fun z => z.elim .inl fun z => z.elim (fun z => .inl (z ▸ hs)) .inr⟩
        · rw [List.mem_append, List.mem_singleton]
          exact ⟨fun z => z.elim (fun z => z.elim .inl fun z => .inr (.inl z)) fun z => .inr (.inr z), fun z => z.elim (fun z => .inl (.inl z)) fun z => z.elim (fun z => .inl (.inr z)) .inr⟩
      · rw [List.length_cons]
        split at h4
        · omega
        · rw [List.length_append] at h4; simp at h4; omega
  obtain ⟨ks, h1, h2, h3, h4⟩ := gen l [] .nil
  exact ⟨ks, h1, h2, fun x => by rw [h3]; simp, by simpa using h4⟩
theorem mkT_mem {f : Str → Str} {l m : List Str} (e : ∀ x, x ∈ l ↔ x ∈ m) : mkT f l = mkT f m := by
  have : sortS (onceS l) = sortS (onceS m) := srt_eq (srt_once m) fun x => mem_srt.trans (e x).symm
  unfold mkT
  rw [this]
def both (t u : PL) : PL := mkT (fun s => ledP u (ledP t s)) (keys t ++ keys u)
theorem both_out {t u : PL} {s : Str} (h : s ∉ keys t ++ keys u) : ledP u (ledP t s) = s := by
  rw [List.mem_append, not_or] at h
  rw [ledP_out h.1, ledP_out h.2]
theorem keys_nm2 {t : PL} (h : Nm2 t) : ∀ s ∈ keys t, NmS s := fun s hs => by
  obtain ⟨p, hp, rfl⟩ := List.mem_map.mp hs
  exact (h p hp).1
theorem led_nm2 {t : PL} (h : Nm2 t) {s : Str} (hs : NmS s) : NmS (ledP t s) := by
  induction t with
  | nil => exact hs
  | cons p r ih =>
    show NmS (if p.1 = s then p.2 else ledP r s)
    split
    · exact (h p List.mem_cons_self).2
    · exact ih fun q hq => h q (List.mem_cons_of_mem _ hq)
theorem Turn.both {t u : PL} (h : Turn t) (k : Turn u) : Turn (both t u) := turn_mk (fun s hs => (List.mem_append.mp hs).elim (keys_nm2 h.nm s) (keys_nm2 k.nm s)) (fun _ h => both_out h) fun a b e => h.inj (k.inj e)
theorem keysC {t : PL} {ρ1 ρ2 : List (Option OV)} (hρ : ∃ a b c, ρ1 = [a, b, c, none, none] ∧ ρ2 = ρ1) : lcGo [3, 4] (tTup 2 (tsCons (tName 3) (tsCons (tName 4) tsNil))) mYes (mVar 3) (t.map pd) ρ1 = .ok ((keys t).map .str) ρ2 := by
  obtain ⟨a, b, c, rfl, rfl⟩ := hρ
  have lc := lcGo_pure (vs := [3, 4]) (t := (tTup 2 (tsCons (tName 3) (tsCons (tName 4) tsNil)))) (tst := mYes) (e := mVar 3) (p := fun _ => true) (g := fun x => .str (keyS x)) (ρ := [a, b, c, none, none]) (xs := t.map pd) fun x hx => by
    obtain ⟨p, hp, rfl⟩ := List.mem_map.mp hx
    exact ⟨[a, b, c, some (.d (.str p.1)), some (.d (.str p.2))], [a, b, c, some (.d (.str p.1)), some (.d (.str p.2))], by simp [pd], rfl, fun z => (by cases z), fun _ => ⟨[a, b, c, some (.d (.str p.1)), some (.d (.str p.2))], rfl, rfl⟩⟩
  rw [filt_all] at lc
  rw [lc]
  congr 1
  rw [List.map_map]
  unfold keys
  rw [List.map_map]
  rfl
theorem both_ok {t u : PL} (h : Nm2 t) (k : Nm2 u) (hl : t.length + u.length ≤ 1000) : f_both_turns [.d (tD t), .d (tD u)] = .ok (.d (tD (both t u))) [some (.d (tD t)), some (.d (tD u))] := by
  have kt := keysC (t := t) (ρ1 := [some (.d (tD t)), some (.d (tD u)), none, none, none]) ⟨_, _, _, rfl, rfl⟩
  have ku := keysC (t := u) (ρ1 := [some (.d (tD t)), some (.d (tD u)), none, none, none]) ⟨_, _, _, rfl, rfl⟩
  have ad : addD (.list ((keys t).map .str)) (.list ((keys u).map .str)) = some (.list ((keys t ++ keys u).map .str)) := by
    rw [add_l (by unfold keys; simp; exact hl), List.map_append]
  have kl : (keys t ++ keys u).length ≤ 1000 := by unfold keys; simp; exact hl
  have hn : ∀ s ∈ keys t ++ keys u, NmS s := fun s hs => (List.mem_append.mp hs).elim (keys_nm2 h s) (keys_nm2 k s)
  obtain ⟨ks, k1, k2, k3, k4⟩ := kds_mv (fun s => ledP u (ledP t s)) (keys t ++ keys u)
  have lp := cLoop_pure (c := ⟨[3], tName 3, mYes⟩) (b := cEnd (mPairE (mVar 3) e1_both_turns)) (p := fun _ => true) (g := mvG fun s => ledP u (ledP t s)) (ρ := [some (.d (tD t)), some (.d (tD u)), some (.d (.list ((keys t ++ keys u).map .str))), none, none]) (xs := (keys t ++ keys u).map .str) fun x hx => by
    obtain ⟨s, hs, rfl⟩ := List.mem_map.mp hx
    refine ⟨[some (.d (tD t)), some (.d (tD u)), some (.d (.list ((keys t ++ keys u).map .str))), some (.d (.str s)), none], _, by simp, rfl, fun z => (by cases z), fun _ => ⟨[some (.d (tD t)), some (.d (tD u)), some (.d (.list ((keys t ++ keys u).map .str))), some (.d (.str s)), none], ?_, rfl⟩⟩
    simp [cEnd, mPairE, led_t h, led_t k, DL.keyOf, mvP, mvG]
  have fm : (((keys t ++ keys u).map PyData.str).filter fun _ => true).flatMap (mvG fun s => ledP u (ledP t s)) = (keys t ++ keys u).map (mvP fun s => ledP u (ledP t s)) := by
    rw [filt_all]
    generalize keys t ++ keys u = l
    induction l with
    | nil => rfl
    | cons s l ih => rw [List.map_cons, List.flatMap_cons, ih]; rfl
  rw [fm] at lp
  have big := size_big
  have dc := mDc_of (vs := [3]) (it := mItems (mVar 2)) (t := tName 3) (tst := mYes) (k := mVar 3) (v := e1_both_turns) (ρ := [some (.d (tD t)), some (.d (tD u)), some (.d (.list ((keys t ++ keys u).map .str))), none, none]) (ρ1 := [some (.d (tD t)), some (.d (tD u)), some (.d (.list ((keys t ++ keys u).map .str))), none, none]) (xs := (keys t ++ keys u).map .str) (ys := (keys t ++ keys u).map (mvP fun s => ledP u (ledP t s))) (by simp [itemsD]) (by rfl) lp (by rw [List.length_map]; omega)
  rw [k1] at dc
  have tf := turn_from_ok (f := fun s => ledP u (ledP t s)) k2 fun s hs => ⟨hn s ((k3 s).mp hs), led_nm2 k (led_nm2 h (hn s ((k3 s).mp hs)))⟩
  rw [mkT_mem k3] at tf
  generalize (keys t ++ keys u).map PyData.str = nl at ad dc
  generalize ks.map (mvD fun s => ledP u (ledP t s)) = kd at dc tf
  simp [f_both_turns, m_both_turns, fnOf, items_t, dataAt, kt, ku, backE, ad]
  simp [dc, backE, tf, outsOf, both]
def swN (a b s : Str) : Str := if s = a then b else if s = b then a else s
theorem swN_out {a b s : Str} (h : s ∉ [a, b]) : swN a b s = s := by
  simp at h
  unfold swN
  rw [if_neg h.1, if_neg h.2]
end SH
end
section
set_option maxRecDepth 100000
set_option maxHeartbeats 0
set_option exponentiation.threshold 3000
namespace SH
open PySem PySem.Spec PyProof.Rows L2 DL
theorem Turn.moved {t : PL} (h : Turn t) {s : Str} : s ∈ keys t ↔ ledP t s ≠ s := by
  constructor
  · intro hs
    obtain ⟨p, hp, rfl⟩ := List.mem_map.mp hs
    rw [ledP_in (ltN_nodup h.srt) hp]
    exact fun e => h.ne p hp e.symm
  · intro hs
    by_cases k : s ∈ keys t
    · exact k
    · exact absurd (ledP_out k) hs
theorem keys_len (t : PL) : (keys t).length = t.length := by unfold keys; rw [List.length_map]
theorem Turn.few {t : PL} (h : Turn t) {l : List Str} (hl : ∀ s, s ∉ l → ledP t s = s) : t.length ≤ l.length := by
  rw [← keys_len]
  refine nodup_le (ltN_nodup h.srt) fun s hs => ?_
  by_cases k : s ∈ l
  · exact k
  · exact absurd (hl s k) (h.moved.mp hs)
end SH
end
section
set_option maxRecDepth 100000
set_option maxHeartbeats 0
set_option exponentiation.threshold 3000
namespace SH
open PySem PySem.Spec PyProof.Rows L2 DL
theorem Turn.turned {t : PL} (h : Turn t) (hl : t.length ≤ 20) {s : Str} (hs : NmS s) : f_turned_name [.d (tD t), .d (.str s)] = .ok (.d (.str (ledP t s))) [some (.d (tD t)), some (.d (.str s))] := by
  have e : f_is_name [.d (.str s)] = .ok (.d (.bool true)) [some (.d (.str s))] := by rw [is_name_ok (.str s) hs.fit, nmB_of hs]
  simp [f_turned_name, m_turned_name, fnOf, h.sure hl, e, led_t h.nm, outsOf]
structure Names (n : Nat) (l : List Str) : Prop where
  len : l.length ≤ n
  nd : l.Nodup
  nm : ∀ s ∈ l, NmS s
end SH
end
section
set_option maxRecDepth 100000
set_option maxHeartbeats 0
set_option exponentiation.threshold 3000
namespace SH
open PySem PySem.Spec PyProof.Rows L2 DL
def rot1 : List Str → List Str
  | [] => []
  | a :: q => q ++ [a]
structure Cyc (f : Str → Str) (r : List Str) : Prop where
  ne : r ≠ []
  go : r.map f = rot1 r
theorem rot1_perm : ∀ r : List Str, (rot1 r).Perm r
  | [] => .nil
  | a :: q => List.perm_append_comm
theorem Cyc.rot {f : Str → Str} : ∀ (u v : List Str), Cyc f (u ++ v) → Cyc f (v ++ u)
  | [], v, h => by simpa using h
  | x :: u, v, h => by
    have k : Cyc f (u ++ (v ++ [x])) := by
      refine ⟨by simp, ?_⟩
      have g : f x :: (u ++ v).map f = (u ++ v) ++ [x] := h.go
      rw [← List.append_assoc]
      generalize u ++ v = w at g ⊢
      cases w with
      | nil => simp at g; simp [rot1, g]
      | cons b w =>
        rw [List.cons_append] at g
        injection g with g1 g2
        show (b :: w ++ [x]).map f = w ++ [x] ++ [b]
        rw [List.map_append, g2]
        simp [g1]
    have := Cyc.rot u (v ++ [x]) k
    rw [List.append_assoc] at this
    exact this
theorem Cyc.mem {f : Str → Str} {r : List Str} (h : Cyc f r) {s : Str} (hs : s ∈ r) : f s ∈ r := (rot1_perm r).mem_iff.mp (by rw [← h.go]; exact List.mem_map_of_mem hs)
theorem path_sub {f : Str → Str} {S : List Str} (hS : ∀ s ∈ S, f s ∈ S) : ∀ (q : List Str) (a z : Str), f a :: q.map f = q ++ [z] → a ∈ S → ∀ x ∈ q, x ∈ S
  | [], _, _, _, _, x, hx => by cases hx
  | b :: q, a, z, g, ha, x, hx => by
    rw [List.map_cons, List.cons_append] at g
    injection g with g1 g2
    have hb : b ∈ S := g1 ▸ hS a ha
    rcases List.mem_cons.mp hx with rfl | hx
    · exact hb
    · exact path_sub hS q b z g2 hb x hx
theorem Cyc.sub {f : Str → Str} {r S : List Str} {a : Str} (h : Cyc f r) (ha : a ∈ r) (hS : ∀ s ∈ S, f s ∈ S) (hA : a ∈ S) : ∀ x ∈ r, x ∈ S := by
  obtain ⟨u, v, rfl⟩ := List.append_of_mem ha
  have k := h.rot u (a :: v)
  intro x hx
  have hx : x ∈ (a :: v) ++ u := by simp at hx ⊢; rcases hx with h | h | h <;> simp [h]
  rcases List.mem_cons.mp hx with rfl | hx
  · exact hA
  · exact path_sub hS (v ++ u) a a k.go hA x hx
structure Part (f : Str → Str) (N : List Str) (rs : List (List Str)) : Prop where
  cyc : ∀ r ∈ rs, Cyc f r
  perm : rs.flatten.Perm N
theorem bring1 {f : Str → Str} {rs : List (List Str)} {x : Str} (c : ∀ r ∈ rs, Cyc f r) (hx : x ∈ rs.flatten) : ∃ u rest, Cyc f (x :: u) ∧ (∀ r ∈ rest, Cyc f r) ∧ ((x :: u) :: rest).flatten.Perm rs.flatten ∧ rest.length + 1 = rs.length := by
  obtain ⟨r, hr, hxr⟩ := List.mem_flatten.mp hx
  obtain ⟨l1, l2, rfl⟩ := List.append_of_mem hr
  obtain ⟨u, v, rfl⟩ := List.append_of_mem hxr
  refine ⟨v ++ u, l1 ++ l2, (c _ hr).rot u (x :: v), fun r h => c r ?_, ?_, by simp; omega⟩
  · rcases List.mem_append.mp h with h | h
    · exact List.mem_append_left _ h
    · exact List.mem_append_right _ (List.mem_cons_of_mem _ h)
  · simp only [List.flatten_cons, List.flatten_append]
    refine (List.perm_append_comm_assoc _ _ _).trans (List.Perm.append_left _ (List.Perm.append_right _ ?_))
    exact List.perm_append_comm (l₁ := x :: v) (l₂ := u)
theorem parts_len {f : Str → Str} : ∀ (rs qs : List (List Str)), (∀ r ∈ rs, Cyc f r) → (∀ r ∈ qs, Cyc f r) → rs.flatten.Nodup → rs.flatten.Perm qs.flatten → rs.length = qs.length
  | [], qs, _, c2, _, p => by
    cases qs with
    | nil => rfl
    | cons r qs =>
      have := p.symm.eq_nil
      rw [List.flatten_cons, List.append_eq_nil_iff] at this
      exact absurd this.1 (c2 r (by simp)).ne
  | r :: rs, qs, c1, c2, n, p => by
    have hr := c1 r (by simp)
    obtain ⟨a, q, rfl⟩ := List.exists_cons_of_ne_nil hr.ne
    obtain ⟨u, rest, k1, k2, k3, k4⟩ := bring1 c2 (x := a) (p.mem_iff.mp (by simp))
    have n2 : ((a :: u) :: rest).flatten.Nodup := (k3.trans p.symm).nodup_iff.mpr n
    rw [List.flatten_cons] at n n2
    have pr : (a :: q).Perm (a :: u) := (List.perm_ext_iff_of_nodup (List.nodup_append.mp n).1 (List.nodup_append.mp n2).1).mpr fun x =>
      ⟨hr.sub (a := a) (by simp) (fun s => k1.mem) (by simp) x, k1.sub (a := a) (by simp) (fun s => hr.mem) (by simp) x⟩
    have p2 : rs.flatten.Perm rest.flatten := by
      have := p.trans k3.symm
      rw [List.flatten_cons, List.flatten_cons] at this
      exact (List.perm_append_left_iff (a :: q)).mp (this.trans (List.Perm.append_right _ pr.symm))
    have := parts_len rs rest (fun r h => c1 r (by simp [h])) k2 (List.nodup_append.mp n).2.1 p2
    rw [← k4, List.length_cons, this]
theorem Part.len {f : Str → Str} {N : List Str} {rs qs : List (List Str)} (n : N.Nodup) (h : Part f N rs) (k : Part f N qs) : rs.length = qs.length :=
  parts_len rs qs h.cyc k.cyc (h.perm.nodup_iff.mpr n) (h.perm.trans k.perm.symm)
theorem swN_l (a b : Str) : swN a b a = b := by unfold swN; simp
theorem swN_r (a b : Str) : swN a b b = a := by
  unfold swN
  by_cases h : b = a <;> simp [h]
theorem swN_o {a b s : Str} (h : s ≠ a) (k : s ≠ b) : swN a b s = s := swN_out (by simp [h, k])
theorem map_swN {a b : Str} : ∀ (l : List Str), a ∉ l → b ∉ l → l.map (swN a b) = l
  | [], _, _ => rfl
  | x :: l, h, k => by
    rw [List.mem_cons, not_or] at h k
    rw [List.map_cons, map_swN l h.2 k.2, swN_o (fun e => h.1 e.symm) (fun e => k.1 e.symm)]
theorem Cyc.away {f : Str → Str} {r : List Str} {a b : Str} (h : Cyc f r) (ha : a ∉ r) (hb : b ∉ r) : Cyc (fun s => swN a b (f s)) r := by
  refine ⟨h.ne, ?_⟩
  have : r.map (fun s => swN a b (f s)) = (r.map f).map (swN a b) := by rw [List.map_map]; rfl
  rw [this, h.go, map_swN _ (fun z => ha ((rot1_perm r).mem_iff.mp z)) fun z => hb ((rot1_perm r).mem_iff.mp z)]
theorem app_eq {α : Type} {a b c d : List α} (h : a ++ b = c ++ d) (l : a.length = c.length) : a = c ∧ b = d := List.append_inj h l
theorem Part.step {f : Str → Str} {N : List Str} {rs : List (List Str)} (n : N.Nodup) (h : Part f N rs) {x y : Str} (hx : x ∈ N) (hy : y ∈ N) (ne : x ≠ y) : ∃ qs, Part (fun s => swN x y (f s)) N qs ∧ (qs.length = rs.length + 1 ∨ qs.length + 1 = rs.length) := by
  obtain ⟨u, rest, k1, k2, k3, k4⟩ := bring1 h.cyc (h.perm.mem_iff.mpr hx)
  have nd : ((x :: u) :: rest).flatten.Nodup := (k3.trans h.perm).nodup_iff.mpr n
  have mm : ∀ g : Str → Str, ∀ l : List Str, l.map (fun s => swN x y (g s)) = (l.map g).map (swN x y) := fun g l => by rw [List.map_map]; rfl
  have hy2 : y ∈ ((x :: u) :: rest).flatten := (k3.trans h.perm).mem_iff.mpr hy
  rw [List.flatten_cons] at hy2 nd
  obtain ⟨n1, n2, n3⟩ := List.nodup_append.mp nd
  obtain ⟨n4, n5⟩ := List.nodup_cons.mp n1
  by_cases hyu : y ∈ u
  · obtain ⟨a, b, rfl⟩ := List.append_of_mem hyu
    have g := k1.go
    have e : (x :: (a ++ y :: b)).map f = ((x :: a).map f) ++ ((y :: b).map f) := by simp
    rw [e] at g
    have g : ((x :: a).map f) ++ ((y :: b).map f) = (a ++ [y]) ++ (b ++ [x]) := by rw [g]; simp [rot1]
    obtain ⟨g1, g2⟩ := app_eq g (by simp)
    obtain ⟨m1, m2, m3⟩ := List.nodup_append.mp n5
    obtain ⟨m4, m5⟩ := List.nodup_cons.mp m2
    have ax : x ∉ a := fun z => n4 (by simp [z])
    have bx : x ∉ b := fun z => n4 (by simp [z])
    have ay : y ∉ a := fun z => m3 y z y (by simp) rfl
    refine ⟨(x :: a) :: (y :: b) :: rest, ⟨fun r hr => ?_, ?_⟩, .inl (by simp; omega)⟩
    · rcases List.mem_cons.mp hr with rfl | hr
      · refine ⟨by simp, ?_⟩
        rw [mm, g1, List.map_append, map_swN a ax ay]
        simp [swN_r, rot1]
      · rcases List.mem_cons.mp hr with rfl | hr
        · refine ⟨by simp, ?_⟩
          rw [mm, g2, List.map_append, map_swN b bx m4]
          simp [swN_l, rot1]
        · refine (k2 r hr).away (fun z => ?_) fun z => ?_
          · exact n3 x (by simp) x (List.mem_flatten.mpr ⟨r, hr, z⟩) rfl
          · exact n3 y (by simp) y (List.mem_flatten.mpr ⟨r, hr, z⟩) rfl
    · refine List.Perm.trans ?_ (k3.trans h.perm)
      simp
  · have hyr : y ∈ rest.flatten := by
      rcases List.mem_append.mp hy2 with z | z
      · rcases List.mem_cons.mp z with z | z
        · exact absurd z.symm ne
        · exact absurd z hyu
      · exact z
    obtain ⟨v, rest2, j1, j2, j3, j4⟩ := bring1 k2 hyr
    have nr : ((y :: v) :: rest2).flatten.Nodup := j3.nodup_iff.mpr n2
    rw [List.flatten_cons] at nr
    obtain ⟨o1, o2, o3⟩ := List.nodup_append.mp nr
    obtain ⟨o4, o5⟩ := List.nodup_cons.mp o1
    have hin : ∀ z, z ∈ (y :: v) ++ rest2.flatten → z ∈ rest.flatten := fun z hz => j3.mem_iff.mp (by rw [List.flatten_cons]; exact hz)
    have xv : x ∉ v := fun z => n3 x (by simp) x (hin x (by simp [z])) rfl
    refine ⟨(x :: u ++ y :: v) :: rest2, ⟨fun r hr => ?_, ?_⟩, .inr (by simp; omega)⟩
    · rcases List.mem_cons.mp hr with rfl | hr
      · refine ⟨by simp, ?_⟩
        rw [List.map_append, mm f (x :: u), mm f (y :: v), k1.go, j1.go]
        show (u ++ [x]).map (swN x y) ++ (v ++ [y]).map (swN x y) = u ++ y :: v ++ [x]
        rw [List.map_append, List.map_append, map_swN u n4 hyu, map_swN v xv o4]
        simp [swN_r, swN_l]
      · refine (j2 r hr).away (fun z => ?_) fun z => ?_
        · exact n3 x (by simp) x (hin x (List.mem_append_right _ (List.mem_flatten.mpr ⟨r, hr, z⟩))) rfl
        · exact o3 y (by simp) y (List.mem_flatten.mpr ⟨r, hr, z⟩) rfl
    · refine List.Perm.trans ?_ (k3.trans h.perm)
      simp only [List.flatten_cons, List.append_assoc]
      exact List.Perm.append_left _ (by simpa using j3)
structure Rnds (t : PL) (rs : List (List Str)) : Prop where
  cyc : ∀ r ∈ rs, Cyc (ledP t) r
  perm : rs.flatten.Perm (keys t)
  two : ∀ r ∈ rs, 2 ≤ r.length
  least : ∀ r ∈ rs, ∀ a q, r = a :: q → ∀ s ∈ q, ltN a s
  rise : (rs.map fun r => r.headD "").Pairwise ltN
def swR : List Str → PL
  | [] => []
  | a :: q => q.map fun o => (a, o)
theorem swR_mem {r : List Str} {p : Str × Str} (h : p ∈ swR r) : p.1 ∈ r ∧ p.2 ∈ r := by
  cases r with
  | nil => cases h
  | cons a q =>
    obtain ⟨b, hb, rfl⟩ := List.mem_map.mp h
    exact ⟨by simp, by simp [hb]⟩
def swsOf (rs : List (List Str)) : PL := rs.flatMap swR
theorem sws_mem {rs : List (List Str)} {p : Str × Str} (h : p ∈ swsOf rs) : p.1 ∈ rs.flatten ∧ p.2 ∈ rs.flatten := by
  obtain ⟨r, hr, hp⟩ := List.mem_flatMap.mp h
  exact ⟨List.mem_flatten.mpr ⟨r, hr, (swR_mem hp).1⟩, List.mem_flatten.mpr ⟨r, hr, (swR_mem hp).2⟩⟩
section
variable {t : PL} {rs : List (List Str)}
theorem Rnds.nd (h : Rnds t rs) (T : Turn t) : rs.flatten.Nodup := h.perm.nodup_iff.mpr (ltN_nodup T.srt)
theorem Rnds.nm (h : Rnds t rs) (T : Turn t) : Nm2 (swsOf rs) := fun p hp => ⟨keys_nm2 T.nm _ (h.perm.mem_iff.mp (sws_mem hp).1), keys_nm2 T.nm _ (h.perm.mem_iff.mp (sws_mem hp).2)⟩
end
end SH
end
section
set_option maxRecDepth 100000
set_option maxHeartbeats 0
set_option exponentiation.threshold 3000
namespace SH
open PySem PySem.Spec PyProof.Rows L2 DL
def rD (r : List Str) : D := .tuple (r.map .str)
structure Rg2 (t : PL) (seen : List Str) (a : Str) (pre : List Str) (z : Str) : Prop where
  nd : (pre ++ [z]).Nodup
  sub : ∀ s ∈ pre ++ [z], s ∈ keys t
  no : ∀ s ∈ pre ++ [z], s ∉ seen
  go : a :: pre.map (ledP t) = pre ++ [z]
theorem Rg2.few {t : PL} {seen : List Str} {a z : Str} {pre : List Str} (h : Rg2 t seen a pre z) : pre.length + 1 ≤ t.length := by
  have := nodup_le h.nd h.sub
  rw [keys_len] at this
  simpa using this
theorem Rg2.step {t : PL} (T : Turn t) {seen : List Str} (cl : ∀ s, ledP t s ∈ seen → s ∈ seen) {a z : Str} {pre : List Str} (h : Rg2 t seen a pre z) (hne : ledP t z ≠ a) : Rg2 t seen a (pre ++ [z]) (ledP t z) := by
  have hz : z ∈ keys t := h.sub z (by simp)
  have hn : ledP t z ∉ pre ++ [z] := fun hm => by
    rw [← h.go] at hm
    rcases List.mem_cons.mp hm with e | hm
    · exact hne e
    · obtain ⟨s, hs, e⟩ := List.mem_map.mp hm
      have := T.inj e
      subst this
      exact (List.nodup_append.mp h.nd).2.2 s hs s (by simp) rfl
  refine ⟨?_, ?_, ?_, ?_⟩
  · exact List.nodup_append.mpr ⟨h.nd, by simp, fun x hx y hy => by simp at hy; subst hy; exact fun e => hn (e ▸ hx)⟩
  · intro s hs
    rcases List.mem_append.mp hs with hs | hs
    · exact h.sub s hs
    · simp at hs; subst hs; exact T.led_key hz
  · intro s hs
    rcases List.mem_append.mp hs with hs | hs
    · exact h.no s hs
    · simp at hs; subst hs; exact fun q => h.no z (by simp) (cl _ q)
  · rw [List.map_append, ← List.cons_append, h.go]
    rfl
structure Sofar (t : PL) (i : Nat) (rs : List (List Str)) : Prop where
  cyc : ∀ r ∈ rs, Cyc (ledP t) r
  nd : rs.flatten.Nodup
  sub : ∀ s ∈ rs.flatten, s ∈ keys t
  all : ∀ s ∈ (keys t).take i, s ∈ rs.flatten
  least : ∀ r ∈ rs, ∀ a q, r = a :: q → ∀ s ∈ q, ltN a s
  rise : (rs.map fun r => r.headD "").Pairwise ltN
  hd : ∀ r ∈ rs, r.headD "" ∈ (keys t).take i
theorem Sofar.cl {t : PL} (T : Turn t) {i : Nat} {rs : List (List Str)} (h : Sofar t i rs) : ∀ s, ledP t s ∈ rs.flatten → s ∈ rs.flatten := fun s hs => by
  obtain ⟨r, hr, k⟩ := List.mem_flatten.mp hs
  have c := h.cyc r hr
  have k : ledP t s ∈ rot1 r := (rot1_perm r).mem_iff.mpr k
  rw [← c.go] at k
  obtain ⟨x, hx, e⟩ := List.mem_map.mp k
  rw [← T.inj e]
  exact List.mem_flatten.mpr ⟨r, hr, hx⟩
theorem srt_split {l : List Str} (h : l.Pairwise ltN) {i : Nat} {a : Str} (ha : l[i]? = some a) : (∀ s ∈ l.take i, ltN s a) ∧ ∀ s ∈ l, s ∉ l.take i → s ≠ a → ltN a s := by
  obtain ⟨hi, e⟩ := List.getElem?_eq_some_iff.mp ha
  have sp : l = l.take i ++ a :: l.drop (i + 1) := by rw [← e]; simp
  have h2 := h
  rw [sp] at h2
  obtain ⟨p1, p2, p3⟩ := List.pairwise_append.mp h2
  refine ⟨fun s hs => p3 s hs a (by simp), fun s hs n ne => ?_⟩
  rw [sp] at hs
  rcases List.mem_append.mp hs with k | k
  · exact absurd k n
  · rcases List.mem_cons.mp k with k | k
    · exact absurd k ne
    · exact (List.pairwise_cons.mp p2).1 s k
theorem Sofar.more {t : PL} (T : Turn t) {i : Nat} {rs : List (List Str)} (h : Sofar t i rs) {a : Str} (ha : (keys t)[i]? = some a) {q : List Str} (q1 : (a :: q).Nodup) (q2 : ∀ s ∈ a :: q, s ∈ keys t) (q3 : ∀ s ∈ a :: q, s ∉ rs.flatten) (q4 : Cyc (ledP t) (a :: q)) : Sofar t (i + 1) (rs ++ [a :: q]) := by
  have tk : (keys t).take (i + 1) = (keys t).take i ++ [a] := by rw [List.take_add_one, ha]; rfl
  have fl : (rs ++ [a :: q]).flatten = rs.flatten ++ (a :: q) := by simp
  obtain ⟨s1, s2⟩ := srt_split T.srt ha
  refine ⟨fun r hr => ?_, ?_, ?_, ?_, ?_, ?_, ?_⟩
  · rcases List.mem_append.mp hr with hr | hr
    · exact h.cyc r hr
    · simp at hr; subst hr; exact q4
  · rw [fl]
    exact List.nodup_append.mpr ⟨h.nd, q1, fun x hx y hy e => q3 y hy (e ▸ hx)⟩
  · rw [fl]
    intro s hs
    rcases List.mem_append.mp hs with hs | hs
    · exact h.sub s hs
    · exact q2 s hs
  · rw [tk, fl]
    intro s hs
    rcases List.mem_append.mp hs with hs | hs
    · exact List.mem_append_left _ (h.all s hs)
    · simp at hs; subst hs; simp
  · intro r hr b p e s hs
    rcases List.mem_append.mp hr with hr | hr
    · exact h.least r hr b p e s hs
    · simp at hr
      rw [hr] at e
      injection e with e1 e2
      subst e1 e2
      refine s2 s (q2 s (by simp [hs])) (fun z => q3 s (by simp [hs]) (h.all s z)) fun z => ?_
      subst z
      exact (List.nodup_cons.mp q1).1 hs
  · rw [List.map_append]
    refine List.pairwise_append.mpr ⟨h.rise, by simp, fun x hx y hy => ?_⟩
    simp at hy
    subst hy
    obtain ⟨r, hr, rfl⟩ := List.mem_map.mp hx
    exact s1 _ (h.hd r hr)
  · intro r hr
    rw [tk]
    rcases List.mem_append.mp hr with hr | hr
    · exact List.mem_append_left _ (h.hd r hr)
    · simp at hr; subst hr; simp
theorem Sofar.done {t : PL} (T : Turn t) {rs : List (List Str)} (h : Sofar t t.length rs) : Rnds t rs := by
  have al : ∀ s ∈ keys t, s ∈ rs.flatten := fun s hs => h.all s (by rw [← keys_len, List.take_length]; exact hs)
  refine ⟨h.cyc, (List.perm_ext_iff_of_nodup h.nd (ltN_nodup T.srt)).mpr fun x => ⟨h.sub x, al x⟩, fun r hr => ?_, h.least, h.rise⟩
  obtain ⟨a, q, rfl⟩ := List.exists_cons_of_ne_nil (h.cyc r hr).ne
  cases q with
  | cons b q => simp
  | nil =>
    have g := (h.cyc _ hr).go
    have : ledP t a = a := by simpa [rot1] using g
    exact absurd this (T.moved.mp (h.sub a (List.mem_flatten.mpr ⟨_, hr, by simp⟩)))
end SH
end
section
set_option maxRecDepth 100000
set_option maxHeartbeats 0
set_option exponentiation.threshold 3000
namespace SH
open PySem PySem.Spec PyProof.Rows L2 DL
theorem zinj {Z : PL} (n1 : (keys Z).Nodup) (pm : (Z.map (·.2)).Perm (keys Z)) {a b : Str} (e : ledP Z a = ledP Z b) : a = b := by
  have nd2 : (Z.map (·.2)).Nodup := pm.nodup_iff.mpr n1
  have one : ∀ {t : PL}, (t.map (·.2)).Nodup → ∀ p ∈ t, ∀ q ∈ t, p.2 = q.2 → p = q := fun {t} => by
    induction t with
    | nil => intro _ p hp; cases hp
    | cons r t ih =>
      intro n p hp q hq e
      rw [List.map_cons] at n
      obtain ⟨n1, n2⟩ := List.nodup_cons.mp n
      rcases List.mem_cons.mp hp with hp1 | hp1
      · rcases List.mem_cons.mp hq with hq1 | hq1
        · rw [hp1, hq1]
        · exact absurd (by rw [← hp1, e]; exact List.mem_map_of_mem hq1) n1
      · rcases List.mem_cons.mp hq with hq1 | hq1
        · exact absurd (by rw [← hq1, ← e]; exact List.mem_map_of_mem hp1) n1
        · exact ih n2 p hp1 q hq1 e
  have lk : ∀ {s : Str}, s ∈ keys Z → ledP Z s ∈ keys Z := fun {s} hs => by
    obtain ⟨p, hp, rfl⟩ := List.mem_map.mp hs
    rw [ledP_in n1 hp]
    exact pm.mem_iff.mp (List.mem_map_of_mem hp)
  by_cases ha : a ∈ keys Z
  · by_cases hb : b ∈ keys Z
    · obtain ⟨p, hp, rfl⟩ := List.mem_map.mp ha
      obtain ⟨q, hq, rfl⟩ := List.mem_map.mp hb
      rw [ledP_in n1 hp, ledP_in n1 hq] at e
      rw [one nd2 p hp q hq e]
    · rw [ledP_out hb] at e
      exact absurd (by rw [← e]; exact lk ha) hb
  · by_cases hb : b ∈ keys Z
    · rw [ledP_out ha] at e
      exact absurd (by rw [e]; exact lk hb) ha
    · rw [ledP_out ha, ledP_out hb] at e
      exact e
theorem keys_self {Z : PL} (n : (keys Z).Nodup) : Z = (keys Z).map fun s => (s, ledP Z s) := by
  unfold keys
  rw [List.map_map]
  have : ∀ p ∈ Z, ((fun s => (s, ledP Z s)) ∘ fun x : Str × Str => x.1) p = p := fun p hp => Prod.ext rfl (ledP_in n hp)
  rw [List.map_congr_left this, List.map_id']
theorem zip_keys {l o : List Str} (h : o.length = l.length) : keys (l.zip o) = l ∧ (l.zip o).map (·.2) = o := ⟨by
  unfold keys; exact List.map_fst_zip (by omega), List.map_snd_zip (by omega)⟩
theorem drawn_tail {q : List D} {n : Nat} {l o : List Str} {k w4 w5 w6 : Option OV} (hl : Names n l) (ho : o.Perm l) : ∃ t, Turn t ∧ (∀ s ∈ keys t, s ∈ l) ∧ (sRet (mD (mF1 tupD (mLstF (mFN sortO (mLstF (mLc [7, 8] (mZip (mVar 1) (mFrzV 3)) (tTup 2 (tsCons (tName 7) (tsCons (tName 8) tsNil))) p1__law_turn e2__law_turn)))))))
    [some (.lst q), some (.d (.list (l.map .str))), k, some (.lst (o.map .str)), w4, w5, w6, none, none] = .ok (.rt (.d (tD t))) [some (.lst q), some (.d (.list (l.map .str))), k, some (.d (.list (o.map .str))), w4, w5, w6, none, none] := by
  obtain ⟨z1, z2⟩ := zip_keys (l := l) (o := o) ho.length_eq
  have kn : (keys (l.zip o)).Nodup := by rw [z1]; exact hl.nd
  have kp : ((l.zip o).map (·.2)).Perm (keys (l.zip o)) := by rw [z1, z2]; exact ho
  have out : ∀ s, s ∉ l → ledP (l.zip o) s = s := fun s hs => ledP_out (by rw [z1]; exact hs)
  have T : Turn (mkT (ledP (l.zip o)) l) := turn_mk hl.nm out fun a b e => zinj kn kp e
  refine ⟨_, T, fun s hs => (mem_keysMk.mp hs).1, ?_⟩
  have zd : zipD (.list (l.map .str)) (.list (o.map .str)) = some ((l.zip o).map pd) := by
    show some (((l.map PyData.str).zip (o.map PyData.str)).map (fun p => PyData.tuple [p.1, p.2])) = _
    rw [List.zip_map, List.map_map]
    rfl
  have self := keys_self kn
  rw [z1] at self
  have nm : Nm2 (l.zip o) := fun p hp => by
    obtain ⟨h1, h2⟩ := List.of_mem_zip (a := p.1) (b := p.2) hp
    exact ⟨hl.nm _ h1, hl.nm _ (ho.mem_iff.mp h2)⟩
  have lc := lcGo_pure (vs := [7, 8]) (t := (tTup 2 (tsCons (tName 7) (tsCons (tName 8) tsNil)))) (tst := p1__law_turn) (e := e2__law_turn) (p := neP) (g := id) (ρ := [some (.lst q), some (.d (.list (l.map .str))), k, some (.d (.list (o.map .str))), w4, w5, w6, none, none]) (xs := (l.zip o).map pd) fun x hx => by
    obtain ⟨p, _, rfl⟩ := List.mem_map.mp hx
    refine ⟨[some (.lst q), some (.d (.list (l.map .str))), k, some (.d (.list (o.map .str))), w4, w5, w6, some (.d (.str p.1)), some (.d (.str p.2))], [some (.lst q), some (.d (.list (l.map .str))), k, some (.d (.list (o.map .str))), w4, w5, w6, some (.d (.str p.1)), some (.d (.str p.2))], by simp [pd], ?_, fun _ => rfl, fun _ => ⟨_, rfl, rfl⟩⟩
    simp [ne_s, neP, pd]
    try exact Iff.rfl
  rw [List.map_id] at lc
  have fe : ((l.zip o).map pd).filter neP = ((l.zip o).filter fun p => !decide (p.1 = p.2)).map pd := by
    rw [List.filter_map]; rfl
  have fs : ((l.zip o).filter fun p => !decide (p.1 = p.2)) = (l.filter fun s => !decide (s = ledP (l.zip o) s)).map fun s => (s, ledP (l.zip o) s) := by
    generalize ledP (l.zip o) = f at self ⊢
    rw [self, List.filter_map]
    rfl
  rw [fe] at lc
  have so := sortO_pd (l := (l.zip o).filter fun p => !decide (p.1 = p.2)) fun p hp => nm p (List.mem_filter.mp hp).1
  have se : sortP ((l.zip o).filter fun p => !decide (p.1 = p.2)) = mkT (ledP (l.zip o)) l := sortP_eq (by rw [fs]; exact (mkT_perm hl.nd).symm) (mkT_le2 _ _)
  rw [se] at so
  have tu : tupD (.list ((mkT (ledP (l.zip o)) l).map pd)) = some (tD (mkT (ledP (l.zip o)) l)) := rfl
  generalize tD (mkT (ledP (l.zip o)) l) = z at *
  generalize (mkT (ledP (l.zip o)) l).map pd = y at *
  generalize ((l.zip o).filter fun p => !decide (p.1 = p.2)).map pd = x at *
  generalize (l.zip o).map pd = v at *
  generalize l.map PyData.str = a at *
  generalize o.map PyData.str = b at *
  simp [zd, dataAt, lc, backE, so, tu]
theorem mem_ix2 {l : List Str} {i : Int} (h0 : 0 ≤ i) (h1 : i < l.length) : ixD (.list (l.map .str)) (.int i) = some (.str (l[i.toNat]'(by omega))) ∧ ixN (l.map PyData.str).length i = some i.toNat := by
  have e : ixN (l.map PyData.str).length i = some i.toNat := by
    unfold ixN
    rw [if_pos h0, if_pos (by rw [List.length_map]; exact h1)]
  refine ⟨?_, e⟩
  obtain ⟨x, e1, e2⟩ := atI_nat (xs := l.map PyData.str) h0 (by rw [List.length_map]; exact h1)
  rw [List.getElem?_map, List.getElem?_eq_getElem (by omega)] at e2
  simp at e2
  rw [← e2] at e1
  exact e1
theorem swap_perm {α : Type} (l : List α) {i j : Nat} (hi : i < l.length) (hj : j < l.length) : ((l.set i l[j]).set j l[i]).Perm l := by
  exact List.set_set_perm hi hj
theorem perm_map {ys : List D} {l : List Str} (h : ys.Perm (l.map .str)) : ∃ o : List Str, o.Perm l ∧ ys = o.map .str := by
  have st : ∀ y ∈ ys, ∃ s, y = .str s := fun y hy => by
    obtain ⟨s, _, e⟩ := List.mem_map.mp (h.mem_iff.mp hy)
    exact ⟨s, e.symm⟩
  let un : D → Str := fun x => match x with
    | .str s => s
    | _ => ""
  refine ⟨ys.map un, ?_, ?_⟩
  · have := h.map un
    rw [List.map_map] at this
    have e : (un ∘ PyData.str) = id := rfl
    rw [e, List.map_id] at this
    exact this
  · rw [List.map_map]
    have : ∀ y ∈ ys, (PyData.str ∘ un) y = y := fun y hy => by
      obtain ⟨s, rfl⟩ := st y hy
      rfl
    rw [List.map_congr_left this, List.map_id']
theorem drawn_ok {B : Nat} (hB : B < 2 ^ 47) {p : List D} (h : Pile B p) {n : Nat} {l : List Str} (hl : Names n l) (h1 : 1 ≤ l.length) (h6 : n ≤ 8) : ∃ (t : PL) (p' : List D), Turn t ∧ (∀ s ∈ keys t, s ∈ l) ∧ Pile (B + 12) p' ∧ f__law_turn [.lst p, .d (.list (l.map .str))] = .ok (.d (tD t)) [some (.lst p'), some (.d (.list (l.map .str)))] := by
  have h6 : l.length ≤ 8 := Nat.le_trans hl.len h6
  obtain ⟨kd, p1, q0, q1, hp1, e1⟩ := take_ok (by omega) h 3 (by omega) (by omega)
  have len : lenD (.list (l.map .str)) = some (.int (l.length : Nat)) := by
    show some (PyData.int ((l.map PyData.str).length : Nat)) = _
    rw [List.length_map]
  have ls : listD (.list (l.map .str)) = some (l.map .str) := rfl
  have : kd = 0 ∨ kd = 1 ∨ kd = 2 := by omega
  rcases this with rfl | rfl | rfl
  · obtain ⟨t, T, hk, et⟩ := drawn_tail (q := p1) (k := some (.d (.int 0))) (w4 := none) (w5 := none) (w6 := none) hl (.refl l)
    refine ⟨t, p1, T, hk, hp1.up (by omega), ?_⟩
    generalize tD t = z at *
    generalize l.map PyData.str = a at *
    simp only [f__law_turn, m__law_turn, fnOf]
    simp only [sSeq_d]
    simp [e1, eq_i, ls, -sRet_d]
    rw [et]
    simp [outsOf]
  · obtain ⟨i, p2, i0, i1, hp2, e2⟩ := take_ok (by omega) hp1 (l.length : Nat) (by omega) (by omega)
    obtain ⟨j, p3, j0, j1, hp3, e3⟩ := take_ok (by omega) hp2 (l.length : Nat) (by omega) (by omega)
    obtain ⟨x1, ni⟩ := mem_ix2 (l := l) i0 i1
    obtain ⟨y1, nj⟩ := mem_ix2 (l := l) j0 j1
    have hi : i.toNat < l.length := by omega
    have hj : j.toNat < l.length := by omega
    have pm := swap_perm l hi hj
    obtain ⟨t, T, hk, et⟩ := drawn_tail (q := p3) (k := some (.d (.int 1))) (w4 := some (.d (.int i))) (w5 := some (.d (.int j))) (w6 := some (.d (.str l[i.toNat]))) hl pm
    refine ⟨t, p3, T, hk, hp3.up (by omega), ?_⟩
    rw [List.map_set, List.map_set] at et
    have nj2 : ixN ((l.map PyData.str).set i.toNat (.str l[j.toNat])).length j = some j.toNat := by rw [List.length_set]; exact nj
    generalize l[i.toNat] = u at *
    generalize l[j.toNat] = v at *
    generalize tD t = z at *
    generalize l.map PyData.str = a at *
    simp only [f__law_turn, m__law_turn, fnOf]
    simp only [sSeq_d]
    simp [e1, eq_i, ls, len, e2, e3, x1, y1, ni, nj, nj2, -sRet_d]
    rw [et]
    simp [outsOf]
  · obtain ⟨ys, p2, pm, hp2, e2⟩ := order_ok (by omega) hp1 (l.map .str) (by rw [List.length_map]; omega) fun x hx => by
      obtain ⟨s, hs, rfl⟩ := List.mem_map.mp hx
      exact (hl.nm s hs).lay
    obtain ⟨o, ho, hm⟩ := perm_map pm
    subst hm
    obtain ⟨t, T, hk, et⟩ := drawn_tail (q := p2) (k := some (.d (.int 2))) (w4 := none) (w5 := none) (w6 := none) hl ho
    refine ⟨t, p2, T, hk, hp2.up (by rw [List.length_map]; omega), ?_⟩
    generalize tD t = z at *
    generalize l.map PyData.str = a at *
    generalize o.map PyData.str = b at *
    simp only [f__law_turn, m__law_turn, fnOf]
    simp only [sSeq_d]
    simp [e1, eq_i, ls, e2, -sRet_d]
    rw [et]
    simp [outsOf]
end SH
end
section
set_option maxRecDepth 100000
set_option maxHeartbeats 0
set_option exponentiation.threshold 3000
namespace SH
open PySem PySem.Spec PyProof.Rows L2 DL
theorem range_ok (n : Nat) (h : n ≤ 1000) : range1 (.int n) = some (rangeL 0 n) := by
  have big := size_big
  have h : (n : Int).toNat ≤ sizeLine ∧ -(2 ^ 62) ≤ (n : Int) := ⟨by omega, by omega⟩
  have e : range1 (.int n) = if (n : Int).toNat ≤ sizeLine ∧ -(2 ^ 62) ≤ (n : Int) then some (rangeL 0 (n : Int).toNat) else none := rfl
  rw [e, if_pos h, Int.toNat_natCast]
theorem range_at {n i : Nat} {x : D} (h : (rangeL 0 n)[i]? = some x) : i < n ∧ x = .int (i : Nat) := by
  have hi : i < n := by
    have := (List.getElem?_eq_some_iff.mp h).1
    unfold rangeL at this
    simpa using this
  refine ⟨hi, ?_⟩
  unfold rangeL at h
  rw [List.getElem?_map, List.getElem?_range hi] at h
  simpa using h.symm
theorem range_len (n : Nat) : (rangeL 0 n).length = n := by unfold rangeL; simp
theorem name_at {l : List Str} {i : Int} (h0 : 0 ≤ i) (h1 : i < l.length) : ∃ s ∈ l, ixD (.list (l.map .str)) (.int i) = some (.str s) := by
  obtain ⟨x, e, hx⟩ := mem_ix (xs := l.map .str) h0 (by rw [List.length_map]; exact h1)
  obtain ⟨s, hs, rfl⟩ := List.mem_map.mp hx
  exact ⟨s, hs, e⟩
theorem len_m {α : Type} (f : α → D) (l : List α) : lenD (.list (l.map f)) = some (.int (l.length : Nat)) := by
  show some (PyData.int ((l.map f).length : Nat)) = _
  rw [List.length_map]
theorem il (xs : List D) : itemsD (.list xs) = some xs := rfl
theorem ll (xs : List D) : listD (.list xs) = some xs := rfl
theorem Names.fit {n : Nat} {l : List Str} (h : Names n l) {t : PL} (T : Turn t) (hk : ∀ s ∈ keys t, s ∈ l) : t.length ≤ n := by
  have := nodup_le (ltN_nodup T.srt) hk
  rw [keys_len] at this
  exact Nat.le_trans this h.len
end SH
end
section
set_option maxRecDepth 100000
set_option maxHeartbeats 0
set_option exponentiation.threshold 3000
namespace SH
open PySem PySem.Spec PyProof.Rows L2 DL
end SH
end
section
set_option maxRecDepth 100000
set_option maxHeartbeats 0
set_option exponentiation.threshold 3000
namespace SH
open PySem PySem.Spec PyProof.Rows L2 DL
theorem rot1_get {r : List Str} {k : Nat} (h : k < r.length) (h2 : k < (rot1 r).length) : (rot1 r)[k] = r[(k + 1) % r.length]'(Nat.mod_lt _ (by omega)) := by
  cases r with
  | nil => cases h
  | cons a q =>
    simp only [rot1]
    rw [List.length_cons] at h
    by_cases e : k < q.length
    · have : (k + 1) % (a :: q).length = k + 1 := Nat.mod_eq_of_lt (by rw [List.length_cons]; omega)
      rw [List.getElem_append_left e]
      simp only [this]
      rw [List.getElem_cons_succ]
    · have ek : k = q.length := by omega
      subst ek
      have : (q.length + 1) % (a :: q).length = 0 := by rw [List.length_cons]; exact Nat.mod_self _
      simp only [this]
      simp
theorem Cyc.get {f : Str → Str} {r : List Str} (c : Cyc f r) {k : Nat} (h : k < r.length) : f r[k] = r[(k + 1) % r.length]'(Nat.mod_lt _ (by omega)) := by
  have e := c.go
  have h2 : k < (rot1 r).length := by rw [← e, List.length_map]; exact h
  rw [← rot1_get h h2]
  have : (r.map f)[k]'(by rw [List.length_map]; exact h) = (rot1 r)[k] := by simp only [e]
  rw [← this, List.getElem_map]
end SH
end
section
set_option maxRecDepth 100000
set_option maxHeartbeats 0
set_option exponentiation.threshold 3000
namespace SH
open PySem PySem.Spec PyProof.Rows L2 DL
theorem Turn.then {t u : PL} (T : Turn t) (U : Turn u) (ht : t.length ≤ 20) (hu : u.length ≤ 20) : f_then_turn [.d (tD t), .d (tD u)] = .ok (.d (tD (SH.both t u))) [some (.d (tD t)), some (.d (tD u))] := by
  have sy := T.sure2 U ht hu
  have bo := both_ok T.nm U.nm (by omega)
  refine fn_ok (ρ' := [some (.d (tD t)), some (.d (tD u))]) rfl ?_ rfl
  unfold m_then_turn
  generalize tD (SH.both t u) = z at *
  generalize tD t = a at *
  generalize tD u = b at *
  refine (seq_nx (ρ1 := [some (.d a), some (.d b)]) (by simp [sy])).trans ?_
  simp [bo]
def apartL (t u : PL) : List Str := (sortS (onceS (keys t ++ keys u))).filter fun s => !decide (ledP t s = ledP u s)
def ledQ (t u : PL) (x : D) : Bool := match x with
  | .str s => !decide (ledP t s = ledP u s)
  | _ => false
theorem flat1 (l : PL) : (l.map pd).flatMap (fun x => [keyD x]) = (keys l).map .str := by
  unfold keys
  induction l with
  | nil => rfl
  | cons p l ih =>
    rw [List.map_cons, List.flatMap_cons, ih]; rfl
theorem allStr_keys (t : PL) : allStr ((keys t).map .str) = some (keys t) := allStr_map _
theorem setC_ok {t u v : PL} {k : Nat} (hv : v.length ≤ 20) {ρ : DL.Env} (hρ : ρ = [some (.d (tD t)), some (.d (tD u)), none, none, none]) (hk : (mVar k) ρ = .ok (tD v) ρ) : mSetC (mLcN ⟨[3, 4], (tTup 2 (tsCons (tName 3) (tsCons (tName 4) tsNil))), mYes⟩ (mItems (mVar k)) (cEnd (mTxt (mVar 3)))) ρ = .ok (keys v) ρ := by
  have cl := cLoop_pure (c := ⟨[3, 4], (tTup 2 (tsCons (tName 3) (tsCons (tName 4) tsNil))), mYes⟩) (b := cEnd (mTxt (mVar 3))) (p := fun _ => true) (g := fun x => [keyD x]) (ρ := ρ) (xs := v.map pd) fun x hx => by
    obtain ⟨p, _, rfl⟩ := List.mem_map.mp hx
    subst hρ
    exact ⟨[some (.d (tD t)), some (.d (tD u)), none, some (.d (.str p.1)), some (.d (.str p.2))], [some (.d (tD t)), some (.d (tD u)), none, some (.d (.str p.1)), some (.d (.str p.2))], by simp [pd], rfl, fun z => (by cases z), fun _ => ⟨[some (.d (tD t)), some (.d (tD u)), none, some (.d (.str p.1)), some (.d (.str p.2))], rfl, rfl⟩⟩
  rw [filt_all, flat1] at cl
  have h1 : mItems (mVar k) ρ = .ok (v.map pd) ρ := by
    rw [mItems_d, hk]; rfl
  have w : wipeE ρ [3, 4] = ρ := by subst hρ; rfl
  have b : backE ρ [3, 4] ρ = ρ := by subst hρ; rfl
  have h2 := mLcN_of (c := ⟨[3, 4], (tTup 2 (tsCons (tName 3) (tsCons (tName 4) tsNil))), mYes⟩) (b := cEnd (mTxt (mVar 3))) h1 (by subst hρ; rfl) (by rw [w]; exact cl)
  rw [w, b] at h2
  rw [mSetC_d, h2]
  show (if ((keys v).map PyData.str).length ≤ scanBound - 2 then ofO (allStr ((keys v).map .str)) ρ else .bad) = _
  rw [if_pos (by rw [List.length_map, keys_len]; unfold scanBound; omega), allStr_keys]
  rfl
theorem apart_ok {t u : PL} (T : Turn t) (U : Turn u) (ht : t.length ≤ 14) (hu : u.length ≤ 14) : f_apart_in [.d (tD t), .d (tD u)] = .ok (.lst ((apartL t u).map .str)) [some (.d (tD t)), some (.d (tD u))] := by
  have s1 := setC_ok (t := t) (u := u) (v := t) (k := 0) (by omega) (ρ := [some (.d (tD t)), some (.d (tD u)), none, none, none]) rfl rfl
  have s2 := setC_ok (t := t) (u := u) (v := u) (k := 1) (by omega) (ρ := [some (.d (tD t)), some (.d (tD u)), none, none, none]) rfl rfl
  have bd : (keys t).length + (keys u).length ≤ 30 := by rw [keys_len, keys_len]; omega
  have so : mSetOr (mSetC (mLcN ⟨[3, 4], (tTup 2 (tsCons (tName 3) (tsCons (tName 4) tsNil))), mYes⟩ (mItems (mVar 0)) (cEnd (mTxt (mVar 3))))) (mSetC (mLcN ⟨[3, 4], (tTup 2 (tsCons (tName 3) (tsCons (tName 4) tsNil))), mYes⟩ (mItems (mVar 1)) (cEnd (mTxt (mVar 3))))) [some (.d (tD t)), some (.d (tD u)), none, none, none] = .ok (keys t ++ keys u) [some (.d (tD t)), some (.d (tD u)), none, none, none] := by
    rw [mSetOr_d, s1]
    show ((mSetC _ _).bind _) = _
    rw [s2]
    exact if_pos bd
  have lc := lcGo_pure (vs := [3]) (t := tName 3) (tst := p1_apart_in) (e := mVar 3) (p := ledQ t u) (g := id) (ρ := [some (.d (tD t)), some (.d (tD u)), some (.d (.list ((sortS (onceS (keys t ++ keys u))).map .str))), none, none]) (xs := (sortS (onceS (keys t ++ keys u))).map .str) fun x hx => by
    obtain ⟨s, _, rfl⟩ := List.mem_map.mp hx
    refine ⟨[some (.d (tD t)), some (.d (tD u)), some (.d (.list ((sortS (onceS (keys t ++ keys u))).map .str))), some (.d (.str s)), none], [some (.d (tD t)), some (.d (tD u)), some (.d (.list ((sortS (onceS (keys t ++ keys u))).map .str))), some (.d (.str s)), none], by simp, ?_, fun _ => rfl, fun _ => ⟨[some (.d (tD t)), some (.d (tD u)), some (.d (.list ((sortS (onceS (keys t ++ keys u))).map .str))), some (.d (.str s)), none], rfl, rfl⟩⟩
    have l1 := led_t T.nm s
    have l2 := led_t U.nm s
    simp [l1, l2, ne_s, ledQ]
    try exact Iff.rfl
  rw [List.map_id, List.filter_map] at lc
  rw [show ((sortS (onceS (keys t ++ keys u))).filter (ledQ t u ∘ PyData.str)) = apartL t u from rfl] at lc
  have it := il ((sortS (onceS (keys t ++ keys u))).map .str)
  refine fn_ok (ρ' := [some (.d (tD t)), some (.d (tD u)), some (.d (.list ((sortS (onceS (keys t ++ keys u))).map .str))), none, none]) rfl ?_ rfl
  unfold m_apart_in
  refine (seq_nx (ρ1 := [some (.d (tD t)), some (.d (tD u)), some (.d (.list ((sortS (onceS (keys t ++ keys u))).map .str))), none, none]) (by
    generalize hz : (sortS (onceS (keys t ++ keys u))).map PyData.str = z at *
    have k : mSortK (mSetOr (mSetC (mLcN ⟨[3, 4], (tTup 2 (tsCons (tName 3) (tsCons (tName 4) tsNil))), mYes⟩ (mItems (mVar 0)) (cEnd (mTxt (mVar 3))))) (mSetC (mLcN ⟨[3, 4], (tTup 2 (tsCons (tName 3) (tsCons (tName 4) tsNil))), mYes⟩ (mItems (mVar 1)) (cEnd (mTxt (mVar 3)))))) [some (.d (tD t)), some (.d (tD u)), none, none, none] = .ok z [some (.d (tD t)), some (.d (tD u)), none, none, none] := by
      rw [mSortK_d, so, ← hz]; rfl
    simp [k, -mSortK_d])).trans ?_
  generalize (sortS (onceS (keys t ++ keys u))).map PyData.str = z at *
  simp [it, dataAt, lc, backE]
theorem Turn.apart {t u : PL} (T : Turn t) (U : Turn u) (ht : t.length ≤ 14) (hu : u.length ≤ 14) : f_apart_names [.d (tD t), .d (tD u)] = .ok (.lst ((apartL t u).map .str)) [some (.d (tD t)), some (.d (tD u))] := by
  have sy := T.sure2 U (by omega) (by omega)
  have ap := apart_ok T U ht hu
  refine fn_ok (ρ' := [some (.d (tD t)), some (.d (tD u))]) rfl ?_ rfl
  unfold m_apart_names
  generalize (apartL t u).map PyData.str = z at *
  generalize tD t = a at *
  generalize tD u = b at *
  refine (seq_nx (ρ1 := [some (.d a), some (.d b)]) (by simp [sy])).trans ?_
  simp [ap]
end SH
end
section
set_option maxRecDepth 100000
set_option maxHeartbeats 0
set_option exponentiation.threshold 3000
namespace SH
open PySem PySem.Spec PyProof.Rows L2 DL
theorem shaped_ints (l : List Int) : SeqAt.shaped (.list (l.map .int)) = true := shaped_list fun x hx => by
  obtain ⟨s, hs, rfl⟩ := List.mem_map.mp hx
  exact ⟨by rw [PyData.canLay0], by rw [PyData.depth]; omega⟩
theorem eqvAll_ints : ∀ a : List Int, PyData.eqvAll (a.map .int) (a.map .int) = true
  | [] => by rw [List.map_nil, PyData.eqvAll]
  | x :: a => by rw [List.map_cons, PyData.eqvAll, PyData.eqv, eqvAll_ints a]; simp
section
variable {t u v : PL}
end
end SH
end
section
set_option maxRecDepth 100000
set_option maxHeartbeats 0
set_option exponentiation.threshold 3000
namespace ST
open PySem PySem.Spec PyProof.Rows L2 DL SH
def isGt (c : Nat) : Prop := 65 ≤ c ∧ c ≤ 90
instance (c : Nat) : Decidable (isGt c) := inferInstanceAs (Decidable (_ ∧ _))
abbrev gts : Str := "ABCDEFGHIJKLMNOPQRSTUVWXYZ"
theorem gts_cps : gts.cps.toList = (List.range 26).map (65 + ·) := by decide +kernel
theorem mem_gts (c : Nat) : c ∈ gts.cps.toList ↔ isGt c := by
  rw [gts_cps, List.mem_map]
  constructor
  · rintro ⟨k, hk, rfl⟩
    have := List.mem_range.mp hk
    exact ⟨by omega, by omega⟩
  · rintro ⟨h1, h2⟩
    exact ⟨c - 65, List.mem_range.mpr (by omega), by omega⟩
theorem gts_len : gts.length = 26 := by decide +kernel
structure HlS (s : Str) : Prop where
  len : s.length ≤ 8
  hd : ∃ c r, s.cps.toList = c :: r ∧ isGt c
  all : ∀ c ∈ s.cps.toList, isGt c ∨ isFg c
theorem hl_one {c : Nat} (h : isGt c) : HlS ⟨#[c]⟩ := ⟨by simp [Str.length], ⟨c, [], rfl, h⟩, fun d hd => by simp at hd; subst hd; exact .inl h⟩
theorem hl_app {s : Str} {c : Nat} (h : HlS s) (hl : s.length < 8) (hc : isGt c ∨ isFg c) : HlS (s ++ ⟨#[c]⟩) := by
  refine ⟨by rw [app_len]; simp [Str.length] at hl ⊢; omega, ?_, fun d hd => ?_⟩
  · obtain ⟨a, r, e, h1⟩ := h.hd
    exact ⟨a, r ++ [c], by rw [app_cps, e]; rfl, h1⟩
  · rw [app_cps] at hd
    rcases List.mem_append.mp hd with hd | hd
    · exact h.all d hd
    · simp at hd
      subst hd
      exact hc
def okG (c : Nat) : Bool := decide (isGt c) || decide (isFg c)
def hlS (s : Str) : Bool := decide (s.length ≤ 8) && (match s.cps.toList with
  | [] => false
  | c :: _ => decide (isGt c)) && s.cps.toList.all okG
def hlB : D → Bool
  | .str s => hlS s
  | _ => false
def gCg : D → D
  | .str s => .bool (okG (s.cps.toList.headD 0))
  | _ => .none
theorem in_gts (c : Nat) : inD (.str ⟨#[c]⟩) (.str gts) = some (.bool (decide (isGt c))) := by
  have : strIn ⟨#[c]⟩ gts = decide (isGt c) := by rw [strIn_one]; exact decide_eq_decide.mpr (mem_gts c)
  show some (PyData.bool (strIn ⟨#[c]⟩ gts)) = _
  rw [this]
theorem nin_gts (c : Nat) : ninD (.str ⟨#[c]⟩) (.str gts) = some (.bool (!decide (isGt c))) := by
  have : strIn ⟨#[c]⟩ gts = decide (isGt c) := by rw [strIn_one]; exact decide_eq_decide.mpr (mem_gts c)
  show some (PyData.bool (!strIn ⟨#[c]⟩ gts)) = _
  rw [this]
theorem add_gf : addD (.str gts) (.str fig) = some (.str (gts ++ fig)) := add_str (by rw [gts_len, fig_len]; omega)
theorem bools_mapg (l : List Nat) : boolsD ((l.map fun c => PyData.str ⟨#[c]⟩).map gCg) = some (l.map okG) := by
  induction l with
  | nil => rfl
  | cons c l ih =>
    simp only [List.map_cons]
    show (boolsD ((l.map fun c => PyData.str ⟨#[c]⟩).map gCg)).map (okG c :: ·) = _
    rw [ih]
    rfl
theorem is_called_g (x : D) (h : FitM x) : f_is_called [.d x, .d (.str gts)] = .ok (.d (.bool (hlB x))) [some (.d x), some (.d (.str gts))] := by
  have isi := isi_str x h
  cases x with
  | str s =>
    have h : FitS s := h
    have big := size_big
    have hl : s.length ≤ sizeLine := by have := h.len; omega
    have len : lenD (.str s) = some (.int s.length) := if_pos hl
    by_cases e0 : s.cps.toList = []
    · have l0 : s.length = 0 := by rw [← str_len, e0]; rfl
      have : hlB (.str s) = false := by simp [hlB, hlS, e0]
      rw [this]
      simp [f_is_called, m_is_called, fnOf, isi, isStrB, len, l0, leD, outsOf]
    · obtain ⟨c, r, e⟩ := List.exists_cons_of_ne_nil e0
      have l1 : 1 ≤ s.length := by rw [← str_len, e]; simp
      have x0 := ix_0 hl e
      have l1i : (1 : Int) ≤ (s.length : Int) := by omega
      by_cases l8 : s.length ≤ 8
      · have l8i : (s.length : Int) ≤ 8 := by omega
        by_cases hc : isGt c
        · have it : itemsD (.str s) = some (charsD s) := if_pos hl
          have nm : hlB (.str s) = s.cps.toList.all okG := by simp [hlB, hlS, l8, e, hc]
          have lc := lcGo_pure (vs := [2]) (t := tName 2) (tst := mYes) (e := mOrV (mBin inD (mVar 2) (mVar 1)) (mBin inD (mVar 2) (mC (.str fig)))) (p := fun _ => true) (g := gCg) (ρ := [some (.d (.str s)), some (.d (.str gts)), none]) (xs := charsD s) fun x hx => by
              unfold charsD at hx
              obtain ⟨d, hd, rfl⟩ := List.mem_map.mp hx
              refine ⟨_, _, rfl, ⟨rfl, fun z => absurd z (by simp), fun _ => ⟨[some (.d (.str s)), some (.d (.str gts)), some (.d (.str ⟨#[d]⟩))], ?_, rfl⟩⟩⟩
              by_cases q1 : isGt d <;> simp [in_gts, in_fig, q1, okG, gCg]
          have fi : (charsD s).filter (fun _ => true) = charsD s := List.filter_eq_self.mpr fun _ _ => rfl
          rw [fi] at lc
          have bl := bools_mapg s.cps.toList
          have al : allD (.list ((charsD s).map gCg)) = some (.bool (s.cps.toList.all okG)) := by
            simp only [allD, charsD, bl]
            simp
          rw [nm]
          simp [f_is_called, m_is_called, fnOf, isi, isStrB, len, l1i, l8i, leD, x0, nin_gts, hc, it, dataAt, lc, al, backE, outsOf]
        · have nm : hlB (.str s) = false := by simp [hlB, hlS, e, hc]
          rw [nm]
          simp [f_is_called, m_is_called, fnOf, isi, isStrB, len, l1i, l8i, leD, x0, nin_gts, hc, outsOf]
      · have nm : hlB (.str s) = false := by simp [hlB, hlS, l8]
        have l8i : ¬ (s.length : Int) ≤ 8 := by omega
        rw [nm]
        simp [f_is_called, m_is_called, fnOf, isi, isStrB, len, l1i, l8i, leD, outsOf]
  | _ => simp [f_is_called, m_is_called, fnOf, isi, isStrB, isStrB, hlB, outsOf]
theorem is_hole_ok (x : D) (h : FitM x) : f_is_hole [.d x] = .ok (.d (.bool (hlB x))) [some (.d x)] := by
  simp [f_is_hole, m_is_hole, fnOf, is_called_g x h, outsOf]
theorem HlS.fit {s : Str} (h : HlS s) : FitS s := ⟨by have := h.len; omega, sOk_iff.mpr fun c hc => by
  rcases h.all c hc with h | h
  · have := h.2; omega
  · have := h.2; omega⟩
theorem hlS_iff {s : Str} : hlS s = true ↔ HlS s := by
  unfold hlS
  constructor
  · intro h
    rw [Bool.and_eq_true, Bool.and_eq_true, decide_eq_true_eq] at h
    obtain ⟨⟨h1, h2⟩, h3⟩ := h
    refine ⟨h1, ?_, fun c hc => ?_⟩
    · cases e : s.cps.toList with
      | nil => rw [e] at h2; cases h2
      | cons c r => rw [e] at h2; exact ⟨c, r, rfl, of_decide_eq_true h2⟩
    · have := List.all_eq_true.mp h3 c hc
      simpa [okG] using this
  · intro h
    obtain ⟨c, r, e, hc⟩ := h.hd
    rw [Bool.and_eq_true, Bool.and_eq_true, decide_eq_true_eq]
    refine ⟨⟨h.len, by rw [e]; exact decide_eq_true hc⟩, List.all_eq_true.mpr fun c hc => ?_⟩
    have := h.all c hc
    simpa [okG] using this
end ST
end
section
set_option maxRecDepth 100000
set_option maxHeartbeats 0
set_option exponentiation.threshold 3000
namespace ST
open PySem PySem.Spec PyProof.Rows L2 DL SH
def termN : Nat → D → Bool
  | 0, _ => false
  | n + 1, x => match x with
    | .tuple [.str k, y] => decide (k = "name") && nmB y
    | .tuple [.str k, a, b] => if k = "hole" then turnB a && hlB b else if k = "shut" then nmB a && termN n b else decide (k = "sign") && (nmB a && match b with
      | .tuple ys => ys.all (termN n)
      | _ => false)
    | _ => false
def partsT : D → List D
  | .tuple xs => xs
  | _ => []
def FitT : Nat → D → Prop
  | 0, _ => False
  | n + 1, x => FitM x ∧ (partsT x).length ≤ 20 ∧ (∀ y ∈ partsT x, FitM y) ∧ ∀ k b c, x = .tuple [.str k, b, c] → (k = "hole" → Fit b) ∧ (k = "shut" → FitT n c) ∧ (k = "sign" → (partsT c).length ≤ 20 ∧ ∀ y ∈ partsT c, FitT n y)
theorem FitT.m {n : Nat} {x : D} (h : FitT n x) : FitM x := by
  cases n with
  | zero => exact h.elim
  | succ n => exact h.1
theorem isi_tupM (x : D) (h : FitM x) : isiD .tup x = some (.bool (isTupB x)) := isi_tup x fun kvs e => by subst e; exact h
theorem nin23 (n : Nat) : ninD (.int (n : Int)) (.tuple [.int 2, .int 3]) = some (.bool (!(decide (n = 2) || decide (n = 3)))) := by
  have e : ninD (.int (n : Int)) (.tuple [.int 2, .int 3]) = (if SeqAt.shaped (.int (n : Int)) = true ∧ SeqAt.shaped (.list [.int 2, .int 3]) = true then some ([PyData.int 2, .int 3].any fun y => PyData.eqv y (.int (n : Int))) else none).map fun b => .bool (!b) := rfl
  have s1 : SeqAt.shaped (.int (n : Int)) = true := by
    rw [SeqAt.shaped, PyData.canLay0, PyData.depth]; rfl
  have s2 : SeqAt.shaped (.list [.int 2, .int 3]) = true := shaped_ints [2, 3]
  rw [e, if_pos ⟨s1, s2⟩, Option.map_some]
  have a : ([PyData.int 2, .int 3].any fun y => PyData.eqv y (.int (n : Int))) = (decide (n = 2) || decide (n = 3)) := by
    simp only [List.any_cons, List.any_nil, PyData.eqv, Bool.or_false]
    have h2 : ((2 : Int) == (n : Int)) = decide (n = 2) := by
      by_cases h : n = 2
      · subst h; rfl
      · have : ¬ (2 : Int) = (n : Int) := by omega
        simp [h, this]
    have h3 : ((3 : Int) == (n : Int)) = decide (n = 3) := by
      by_cases h : n = 3
      · subst h; rfl
      · have : ¬ (3 : Int) = (n : Int) := by omega
        simp [h, this]
    rw [h2, h3]
  rw [a]
theorem nin0 : ninD (.int 0) (.tuple [.int 2, .int 3]) = some (.bool true) := nin23 0
theorem nin1 : ninD (.int 1) (.tuple [.int 2, .int 3]) = some (.bool true) := nin23 1
theorem nin2 : ninD (.int 2) (.tuple [.int 2, .int 3]) = some (.bool false) := nin23 2
theorem nin3 : ninD (.int 3) (.tuple [.int 2, .int 3]) = some (.bool false) := nin23 3
theorem lenT (xs : List D) : lenD (.tuple xs) = some (.int (xs.length : Nat)) := rfl
theorem is_term_ok : ∀ (n : Nat) (x : D), FitT n x → f_is_term n [.d x] = .ok (.d (.bool (termN n x))) [some (.d x)]
  | 0, _, h => h.elim
  | n + 1, x, h => by
    obtain ⟨hm, hl, hp, h3⟩ := h
    have isx := isi_tupM x hm
    show fnOf 5 1 [] (m_is_term (f_is_term n)) [.d x] = _
    cases x with
    | tuple xs =>
      have hp : ∀ y ∈ xs, FitM y := hp
      match xs, hp, h3, isx with
      | [], _, _, isx =>
        have l := nin0
        simp [m_is_term, fnOf, isx, isTupB, lenT, l, termN, outsOf]
      | [a], _, _, isx =>
        have l := nin1
        simp [m_is_term, fnOf, isx, isTupB, lenT, l, termN, outsOf]
      | [k, a], hp, _, isx =>
        have l := nin2
        have l2 := eq_i 2 2
        have i0 : ixD (.tuple [k, a]) (.int 0) = some k := rfl
        have i1 : ixD (.tuple [k, a]) (.int 1) = some a := rfl
        have ik := isi_str k (hp k (by simp))
        have na := is_name_ok a (hp a (by simp))
        cases k with
        | str k =>
          by_cases e : k = "name"
          · subst e
            simp [m_is_term, fnOf, isx, isTupB, lenT, l, l2, i0, i1, ik, isStrB, eq_s, na, termN, outsOf]
          · simp [m_is_term, fnOf, isx, isTupB, lenT, l, l2, i0, i1, ik, isStrB, eq_s, e, na, termN, outsOf]
        | _ => simp [m_is_term, fnOf, isx, isTupB, lenT, l, l2, i0, i1, ik, isStrB, termN, outsOf]
      | [k, a, b], hp, h3, isx =>
        have l := nin3
        have l2 := eq_i 3 2
        have i0 : ixD (.tuple [k, a, b]) (.int 0) = some k := rfl
        have ik := isi_str k (hp k (by simp))
        have na := is_name_ok a (hp a (by simp))
        have hb0 := is_hole_ok b (hp b (by simp))
        have isb := isi_tupM b (hp b (by simp))
        cases k with
        | str k =>
          obtain ⟨ch, cs, cg⟩ := h3 k a b rfl
          by_cases e1 : k = "hole"
          · subst e1
            have ta := is_turn_ok a (ch rfl)
            cases h1 : turnB a <;> (rw [h1] at ta; simp [m_is_term, fnOf, isx, isTupB, lenT, l, l2, i0, ik, isStrB, eq_s, sTgt, ta, hb0, termN, h1, outsOf])
          · by_cases e2 : k = "shut"
            · subst e2
              have tb := is_term_ok n b (cs rfl)
              cases h1 : nmB a <;> (rw [h1] at na; simp [m_is_term, fnOf, isx, isTupB, lenT, l, l2, i0, ik, isStrB, eq_s, sTgt, na, tb, termN, h1, e1, outsOf])
            · by_cases e3 : k = "sign"
              · subst e3
                obtain ⟨lb, hb⟩ := cg rfl
                cases h1 : nmB a with
                | false => rw [h1] at na; simp [m_is_term, fnOf, isx, isTupB, lenT, l, l2, i0, ik, isStrB, eq_s, sTgt, na, termN, h1, e1, e2, outsOf]
                | true =>
                  rw [h1] at na
                  cases b with
                  | tuple ys =>
                    have lc := lcGo_pure (vs := [4]) (t := tName 4) (tst := mYes) (e := e1_is_term (f_is_term n)) (p := fun _ => true) (g := fun y => .bool (termN n y)) (ρ := [some (.d (.tuple [.str "sign", a, .tuple ys])), some (.d (.str "sign")), some (.d a), some (.d (.tuple ys)), none]) (xs := ys) fun y hy =>
                      ⟨[some (.d (.tuple [.str "sign", a, .tuple ys])), some (.d (.str "sign")), some (.d a), some (.d (.tuple ys)), some (.d y)], [some (.d (.tuple [.str "sign", a, .tuple ys])), some (.d (.str "sign")), some (.d a), some (.d (.tuple ys)), some (.d y)], rfl, rfl, fun z => (by cases z), fun _ => ⟨[some (.d (.tuple [.str "sign", a, .tuple ys])), some (.d (.str "sign")), some (.d a), some (.d (.tuple ys)), some (.d y)], by
                        have := is_term_ok n y (hb y hy)
                        simp [this], rfl⟩⟩
                    rw [filt_all] at lc
                    have al := all_q (termN n) ys
                    have it : itemsD (.tuple ys) = some ys := rfl
                    have tv : termN (n + 1) (.tuple [.str "sign", a, .tuple ys]) = ys.all (termN n) := by
                      simp [termN, e1, e2, h1]
                    rw [tv]
                    generalize ys.all (termN n) = r at *
                    generalize ys.map (fun y => PyData.bool (termN n y)) = z at *
                    simp [m_is_term, fnOf, isx, isTupB, lenT, l, l2, i0, ik, isStrB, eq_s, sTgt, na, isb, e1, e2, it, dataAt, lc, backE, al, outsOf]
                  | _ => simp [m_is_term, fnOf, isx, isTupB, lenT, l, l2, i0, ik, isStrB, eq_s, sTgt, na, isb, termN, h1, e1, e2, outsOf]
              · simp [m_is_term, fnOf, isx, isTupB, lenT, l, l2, i0, ik, isStrB, eq_s, sTgt, termN, e1, e2, e3, outsOf]
        | _ => simp [m_is_term, fnOf, isx, isTupB, lenT, l, i0, ik, isStrB, termN, outsOf]
      | a :: b :: c :: d :: r, _, _, isx =>
        have l := nin23 (r.length + 4)
        have q : (!(decide (r.length + 4 = 2) || decide (r.length + 4 = 3))) = true := by simp
        rw [q] at l
        have lx : lenD (.tuple (a :: b :: c :: d :: r)) = some (.int ((r.length + 4 : Nat) : Int)) := rfl
        have tv : termN (n + 1) (.tuple (a :: b :: c :: d :: r)) = false := by simp [termN]
        rw [tv]
        have isx : isiD .tup (.tuple (a :: b :: c :: d :: r)) = some (.bool true) := isx
        generalize r.length + 4 = m at l lx
        generalize PyData.tuple (a :: b :: c :: d :: r) = z at *
        simp [m_is_term, fnOf, isx, lx]
        simp [l, outsOf]
    | _ => simp [m_is_term, fnOf, isx, isTupB, termN, outsOf]
end ST
end
section
set_option maxRecDepth 100000
set_option maxHeartbeats 0
set_option exponentiation.threshold 3000
namespace ST
open PySem PySem.Spec PyProof.Rows L2 DL SH
theorem lt_i (i j : Int) : ltD (.int i) (.int j) = some (.bool (decide (i < j))) := rfl
end ST
end
section
set_option maxRecDepth 100000
set_option maxHeartbeats 0
set_option exponentiation.threshold 3000
namespace ST
open PySem PySem.Spec PyProof.Rows L2 DL SH
inductive Tm where
  | nm (s : Str)
  | hole (t : PL) (x : Str)
  | shut (a : Str) (b : Tm)
  | sign (a : Str) (ts : List Tm)
mutual
def tmD : Tm → D
  | .nm s => .tuple [.str "name", .str s]
  | .hole t x => .tuple [.str "hole", tD t, .str x]
  | .shut a b => .tuple [.str "shut", .str a, tmD b]
  | .sign a ts => .tuple [.str "sign", .str a, .tuple (tmDs ts)]
def tmDs : List Tm → List D
  | [] => []
  | t :: ts => tmD t :: tmDs ts
end
theorem tmDs_map : ∀ ts : List Tm, tmDs ts = ts.map tmD
  | [] => by rw [tmDs]; rfl
  | t :: ts => by rw [tmDs, tmDs_map ts]; rfl
def OkT : Nat → Tm → Prop
  | 0, _ => False
  | _ + 1, .nm s => NmS s
  | _ + 1, .hole t x => Turn t ∧ t.length ≤ 6 ∧ HlS x
  | n + 1, .shut a b => NmS a ∧ OkT n b
  | n + 1, .sign a ts => NmS a ∧ ts.length ≤ 6 ∧ ∀ b ∈ ts, OkT n b
def innerT : Tm → List Tm
  | .shut _ b => [b]
  | .sign _ ts => ts
  | _ => []
theorem OkT.inner {n : Nat} {t : Tm} (h : OkT (n + 1) t) : ∀ b ∈ innerT t, OkT n b := by
  cases t with
  | nm s => intro b hb; cases hb
  | hole t x => intro b hb; cases hb
  | shut a b => intro c hc; rw [List.mem_singleton.mp hc]; exact h.2
  | sign a ts => exact h.2.2
theorem OkT.up {n : Nat} : ∀ {t : Tm}, OkT n t → OkT (n + 1) t := by
  induction n with
  | zero => intro t h; exact h.elim
  | succ n ih =>
    intro t h
    cases t with
    | nm s => exact h
    | hole t x => exact h
    | shut a b => exact ⟨h.1, ih h.2⟩
    | sign a ts => exact ⟨h.1, h.2.1, fun b hb => ih (h.2.2 b hb)⟩
theorem OkT.term {n : Nat} : ∀ {t : Tm}, OkT n t → termN n (tmD t) = true := by
  induction n with
  | zero => intro t h; exact h.elim
  | succ n ih =>
    intro t h
    cases t with
    | nm s =>
      rw [tmD]
      have : nmB (.str s) = true := nmB_of h
      simp [termN, this]
    | hole t x =>
      rw [tmD]
      have h1 := h.1.isB
      have h2 : hlB (.str x) = true := hlS_iff.mpr h.2.2
      simp [termN, h1, h2]
    | shut a b =>
      rw [tmD]
      have h1 := nmB_of h.1
      have h2 := ih h.2
      have d : ¬ (("shut" : Str) = "hole") := by decide
      simp [termN, h1, h2, d]
    | sign a ts =>
      rw [tmD, tmDs_map]
      have h1 := nmB_of h.1
      have h2 : (ts.map tmD).all (termN n) = true := List.all_eq_true.mpr fun y hy => by
        obtain ⟨b, hb, rfl⟩ := List.mem_map.mp hy
        exact ih (h.2.2 b hb)
      have d1 : ¬ (("sign" : Str) = "hole") := by decide
      have d2 : ¬ (("sign" : Str) = "shut") := by decide
      simp only [termN, d1, d2, if_false, h1, h2]
      rfl
theorem inner_ok (t : Tm) : f_inner [.d (tmD t)] = .ok (.d (.tuple ((innerT t).map tmD))) [some (.d (tmD t))] := by
  have n1 : ¬ (("name" : Str) = "shut") := by decide
  have n2 : ¬ (("name" : Str) = "sign") := by decide
  have n3 : ¬ (("hole" : Str) = "shut") := by decide
  have n4 : ¬ (("hole" : Str) = "sign") := by decide
  have n5 : ¬ (("sign" : Str) = "shut") := by decide
  cases t with
  | nm s =>
    rw [tmD]
    have i0 : ixD (.tuple [.str "name", .str s]) (.int 0) = some (.str "name") := rfl
    simp [f_inner, m_inner, fnOf, i0, eq_s, n1, n2, innerT, outsOf]
  | hole t x =>
    rw [tmD]
    have i0 : ixD (.tuple [.str "hole", tD t, .str x]) (.int 0) = some (.str "hole") := rfl
    simp [f_inner, m_inner, fnOf, i0, eq_s, n3, n4, innerT, outsOf]
  | shut a b =>
    rw [tmD]
    have i0 : ixD (.tuple [.str "shut", .str a, tmD b]) (.int 0) = some (.str "shut") := rfl
    have i2 : ixD (.tuple [.str "shut", .str a, tmD b]) (.int 2) = some (tmD b) := rfl
    simp [f_inner, m_inner, fnOf, i0, i2, eq_s, innerT, outsOf]
  | sign a ts =>
    rw [tmD, tmDs_map]
    have i0 : ixD (.tuple [.str "sign", .str a, .tuple (ts.map tmD)]) (.int 0) = some (.str "sign") := rfl
    have i2 : ixD (.tuple [.str "sign", .str a, .tuple (ts.map tmD)]) (.int 2) = some (.tuple (ts.map tmD)) := rfl
    simp [f_inner, m_inner, fnOf, i0, i2, eq_s, n5, innerT, outsOf]
def everyP : Nat → Tm → List Tm
  | 0, _ => []
  | n + 1, t => t :: (innerT t).flatMap (everyP n)
theorem every_ok : ∀ (n : Nat) (t : Tm), OkT n t → (everyP n t).length ≤ 500 → f_every_part n [.d (tmD t)] = .ok (.lst ((everyP n t).map tmD)) [some (.d (tmD t))]
  | 0, _, h, _ => h.elim
  | n + 1, t, h, hl => by
    have hi := inner_ok t
    have hl : ((innerT t).flatMap (everyP n)).length + 1 ≤ 500 := hl
    have it : itemsD (.tuple ((innerT t).map tmD)) = some ((innerT t).map tmD) := rfl
    obtain ⟨ρ', f1, w2, rfl⟩ := forGo_inv (t := tName 2) (b := b1_every_part (f_every_part n)) (xs := (innerT t).map tmD) (ρ := [some (.d (tmD t)), some (.lst [tmD t]), none])
      (fun i ρ => ∃ w2, ρ = [some (.d (tmD t)), some (.lst ((t :: ((innerT t).take i).flatMap (everyP n)).map tmD)), w2]) ⟨none, rfl⟩ fun i x ρ hx ⟨w2, e⟩ => by
        subst e
        rw [List.getElem?_map] at hx
        obtain ⟨b, hb, rfl⟩ := Option.map_eq_some_iff.mp hx
        have hm := List.mem_of_getElem? hb
        have tk : ((innerT t).take (i + 1)).flatMap (everyP n) = ((innerT t).take i).flatMap (everyP n) ++ everyP n b := by
          rw [List.take_add_one, hb, List.flatMap_append]; simp
        have le : (((innerT t).take (i + 1)).flatMap (everyP n)).length ≤ 500 := by
          have e3 : (innerT t).flatMap (everyP n) = ((innerT t).take (i + 1)).flatMap (everyP n) ++ ((innerT t).drop (i + 1)).flatMap (everyP n) := by
            rw [← List.flatMap_append, List.take_append_drop]
          rw [e3, List.length_append] at hl
          omega
        rw [tk, List.length_append] at le
        have ih := every_ok n b (h.inner b hm) (by omega)
        have ex := ext_l (a := (t :: ((innerT t).take i).flatMap (everyP n)).map tmD) (b := (everyP n b).map tmD) (by rw [List.length_map, List.length_map, List.length_cons]; omega)
        rw [← List.map_append, List.cons_append, ← tk] at ex
        refine ⟨[some (.d (tmD t)), some (.lst ((t :: ((innerT t).take i).flatMap (everyP n)).map tmD)), some (.d (tmD b))], [some (.d (tmD t)), some (.lst ((t :: ((innerT t).take (i + 1)).flatMap (everyP n)).map tmD)), some (.d (tmD b))], rfl, ?_, some (.d (tmD b)), rfl⟩
        generalize (t :: ((innerT t).take (i + 1)).flatMap (everyP n)).map tmD = z1 at *
        generalize (t :: ((innerT t).take i).flatMap (everyP n)).map tmD = z2 at *
        generalize (everyP n b).map tmD = z3 at *
        simp [ih, ex]
    rw [List.length_map, List.take_length] at f1
    have ev : everyP (n + 1) t = t :: (innerT t).flatMap (everyP n) := rfl
    rw [ev]
    show fnOf 3 1 [] (m_every_part (f_every_part n)) [.d (tmD t)] = _
    generalize (t :: (innerT t).flatMap (everyP n)).map tmD = z1 at *
    generalize (innerT t).map tmD = z2 at *
    generalize tmD t = z3 at *
    refine fn_ok (ρ' := [some (.d z3), none, w2]) rfl ?_ rfl
    unfold m_every_part
    refine (seq_nx (ρ1 := [some (.d z3), some (.lst [z3]), none]) (by simp)).trans ?_
    refine (seq_nx (ρ1 := [some (.d z3), some (.lst z1), w2]) (by simp [hi, it]; exact f1)).trans ?_
    simp
end ST
end
section
set_option maxRecDepth 100000
set_option maxHeartbeats 0
set_option exponentiation.threshold 3000
namespace ST
open PySem PySem.Spec PyProof.Rows L2 DL SH
def ownN : Tm → List Str
  | .nm s => [s]
  | .hole t _ => keys t
  | .shut a _ => [a]
  | .sign _ _ => []
theorem in_two (k : Str) : inD (.str k) (.tuple [.str "name", .str "shut"]) = some (.bool (decide (k ∈ (["name", "shut"] : List Str)))) := rfl
theorem own_ok (t : Tm) : f_own_names [.d (tmD t)] = .ok (.lst ((ownN t).map .str)) [some (.d (tmD t))] := by
  have n3 : ¬ (("hole" : Str) = "name") := by decide
  have n4 : ¬ (("hole" : Str) = "shut") := by decide
  have n5 : ¬ (("sign" : Str) = "name") := by decide
  have n6 : ¬ (("sign" : Str) = "shut") := by decide
  have n7 : ¬ (("sign" : Str) = "hole") := by decide
  cases t with
  | nm s =>
    rw [tmD]
    have i0 : ixD (.tuple [.str "name", .str s]) (.int 0) = some (.str "name") := rfl
    have i1 : ixD (.tuple [.str "name", .str s]) (.int 1) = some (.str s) := rfl
    simp [f_own_names, m_own_names, fnOf, i0, i1, in_two, ownN, outsOf]
  | hole t x =>
    rw [tmD]
    have i0 : ixD (.tuple [.str "hole", tD t, .str x]) (.int 0) = some (.str "hole") := rfl
    have i1 : ixD (.tuple [.str "hole", tD t, .str x]) (.int 1) = some (tD t) := rfl
    have it := items_t t
    have lc := lcGo_pure (vs := [1, 2]) (t := tTup 2 (tsCons (tName 1) (tsCons (tName 2) tsNil))) (tst := mYes) (e := mVar 1) (p := fun _ => true) (g := keyD) (ρ := [some (.d (.tuple [.str "hole", tD t, .str x])), none, none]) (xs := t.map pd) fun y hy => by
      obtain ⟨p, _, rfl⟩ := List.mem_map.mp hy
      exact ⟨[some (.d (.tuple [.str "hole", tD t, .str x])), some (.d (.str p.1)), some (.d (.str p.2))], [some (.d (.tuple [.str "hole", tD t, .str x])), some (.d (.str p.1)), some (.d (.str p.2))], by simp [pd], rfl, fun z => (by cases z), fun _ => ⟨_, rfl, rfl⟩⟩
    rw [filt_all, List.map_map] at lc
    have : t.map (keyD ∘ pd) = (keys t).map .str := by unfold keys; rw [List.map_map]; rfl
    rw [this] at lc
    show f_own_names _ = .ok (.lst ((keys t).map .str)) _
    generalize (keys t).map PyData.str = z1 at *
    generalize t.map pd = z2 at *
    generalize tD t = z3 at *
    simp [f_own_names, m_own_names, fnOf, i0, i1, in_two, n3, n4, eq_s, it, dataAt, lc, backE, outsOf]
  | shut a b =>
    rw [tmD]
    have i0 : ixD (.tuple [.str "shut", .str a, tmD b]) (.int 0) = some (.str "shut") := rfl
    have i1 : ixD (.tuple [.str "shut", .str a, tmD b]) (.int 1) = some (.str a) := rfl
    simp [f_own_names, m_own_names, fnOf, i0, i1, in_two, ownN, outsOf]
  | sign a ts =>
    rw [tmD, tmDs_map]
    have i0 : ixD (.tuple [.str "sign", .str a, .tuple (ts.map tmD)]) (.int 0) = some (.str "sign") := rfl
    simp [f_own_names, m_own_names, fnOf, i0, in_two, n5, n6, n7, eq_s, ownN, outsOf]
end ST
end
section
set_option maxRecDepth 100000
set_option maxHeartbeats 0
set_option exponentiation.threshold 3000
namespace ST
open PySem PySem.Spec PyProof.Rows L2 DL SH
theorem cLoop_mapP {α : Type} {c : FC} {b : M (List D)} {f : α → D} {p : α → Bool} {G : α → List D} {ρ : DL.Env} : ∀ {ts : List α}, (∀ t ∈ ts, ∃ ρ1 ρ2, c.t (f t) ρ = some ρ1 ∧ c.tst ρ1 = .ok (p t) ρ2 ∧ (p t = false → wipeE ρ2 c.vs = ρ) ∧ (p t = true → ∃ ρ3, b ρ2 = .ok (G t) ρ3 ∧ wipeE ρ3 c.vs = ρ)) → cLoop c b (ts.map f) ρ = .ok ((ts.filter p).flatMap G) ρ
  | [], _ => rfl
  | t :: ts, h => by
    obtain ⟨ρ1, ρ2, h1, h2, h3, h4⟩ := h t List.mem_cons_self
    have ih := cLoop_mapP (ts := ts) fun y hy => h y (List.mem_cons_of_mem _ hy)
    have hd : cLoop c b (f t :: ts.map f) ρ = match c.t (f t) ρ with
      | none => .bad
      | some ρ1 => (c.tst ρ1).bindN fun k ρ2 => if k = true then (b ρ2).bindN fun ys ρ3 => (cLoop c b (ts.map f) (wipeE ρ3 c.vs)).bindN fun zs ρ4 => .ok (ys ++ zs) ρ4 else cLoop c b (ts.map f) (wipeE ρ2 c.vs) := rfl
    rw [List.map_cons, hd, h1]
    simp only [h2, bindN_ok]
    cases hp : p t with
    | true =>
      obtain ⟨ρ3, h5, h6⟩ := h4 hp
      rw [List.filter_cons_of_pos hp, if_pos rfl, h5]
      simp only [bindN_ok, h6, ih]
      rfl
    | false =>
      rw [List.filter_cons_of_neg (by rw [hp]; exact Bool.false_ne_true), if_neg Bool.false_ne_true, h3 hp, ih]
theorem cIn_of {c : FC} {it b : M (List D)} {ρ ρ1 : DL.Env} {xs ys : List D} (h1 : it ρ = .ok xs ρ1) (h2 : wipeE ρ1 c.vs = ρ1) (h3 : cLoop c b xs ρ1 = .ok ys ρ1) : cIn c it b ρ = .ok ys ρ1 := by
  unfold cIn
  rw [h1, bindN_ok, h2, h3]
def allN (ts : List Tm) : List Str := ts.flatMap fun t => (everyP 40 t).flatMap ownN
structure OkTs (ts : List Tm) : Prop where
  ok : ∀ t ∈ ts, OkT 40 t
  few : ∀ t ∈ ts, (everyP 40 t).length ≤ 500
theorem filt_yes {α : Type} (l : List α) : l.filter (fun _ => true) = l := List.filter_eq_self.mpr fun _ _ => rfl
theorem flat_str (l : List Str) : (l.flatMap fun s => [PyData.str s]) = l.map .str := by
  induction l with
  | nil => rfl
  | cons a l ih => rw [List.flatMap_cons, ih]; rfl
theorem all_names_ok {ts : List Tm} (h : OkTs ts) (hl : (allN ts).length ≤ 900) : f_all_names [.d (.list (ts.map tmD))] = .ok (.lst ((sortS (onceS (allN ts))).map .str)) [some (.d (.list (ts.map tmD)))] := by
  have itL := il (ts.map tmD)
  generalize hL : PyData.list (ts.map tmD) = L at *
  -- the names of one part
  have c3 : ∀ (x y : D) (l : List Str), cLoop ⟨[3], (tName 3), mYes⟩ (cEnd (mTxt (mVar 3))) (l.map .str) [some (.d L), some (.d x), some (.d y), none] = .ok (l.map .str) [some (.d L), some (.d x), some (.d y), none] := fun x y l => by
    have := cLoop_mapP (c := ⟨[3], (tName 3), mYes⟩) (b := cEnd (mTxt (mVar 3))) (f := PyData.str) (p := fun _ => true) (G := fun s => [PyData.str s]) (ρ := [some (.d L), some (.d x), some (.d y), none]) (ts := l) fun s _ =>
      ⟨[some (.d L), some (.d x), some (.d y), some (.d (.str s))], [some (.d L), some (.d x), some (.d y), some (.d (.str s))], rfl, rfl, fun z => (by cases z), fun _ => ⟨[some (.d L), some (.d x), some (.d y), some (.d (.str s))], rfl, rfl⟩⟩
    rw [filt_yes, flat_str] at this
    exact this
  have c2 : ∀ (x : D) (ps : List Tm), cLoop ⟨[2, 3], (tName 2), mYes⟩ (cIn ⟨[3], (tName 3), mYes⟩ i2_all_names (cEnd (mTxt (mVar 3)))) (ps.map tmD) [some (.d L), some (.d x), none, none] = .ok ((ps.flatMap ownN).map .str) [some (.d L), some (.d x), none, none] := fun x ps => by
    have := cLoop_mapP (c := ⟨[2, 3], (tName 2), mYes⟩) (b := cIn ⟨[3], (tName 3), mYes⟩ i2_all_names (cEnd (mTxt (mVar 3)))) (f := tmD) (p := fun _ => true) (G := fun t => (ownN t).map .str) (ρ := [some (.d L), some (.d x), none, none]) (ts := ps) fun t _ => by
      refine ⟨[some (.d L), some (.d x), some (.d (tmD t)), none], [some (.d L), some (.d x), some (.d (tmD t)), none], rfl, rfl, fun z => (by cases z), fun _ => ⟨[some (.d L), some (.d x), some (.d (tmD t)), none], ?_, rfl⟩⟩
      have o := own_ok t
      refine cIn_of (xs := (ownN t).map .str) ?_ rfl (c3 x (tmD t) (ownN t))
      have it := il ((ownN t).map .str)
      generalize (ownN t).map PyData.str = z at *
      simp [o, it]
    rw [filt_yes] at this
    rw [this, List.map_flatMap]
  have c1 := cLoop_mapP (c := ⟨[1, 2, 3], (tName 1), mYes⟩) (b := cIn ⟨[2, 3], (tName 2), mYes⟩ i1_all_names (cIn ⟨[3], (tName 3), mYes⟩ i2_all_names (cEnd (mTxt (mVar 3))))) (f := tmD) (p := fun _ => true) (G := fun t => ((everyP 40 t).flatMap ownN).map .str) (ρ := [some (.d L), none, none, none]) (ts := ts) fun t ht => by
    refine ⟨[some (.d L), some (.d (tmD t)), none, none], [some (.d L), some (.d (tmD t)), none, none], rfl, rfl, fun z => (by cases z), fun _ => ⟨[some (.d L), some (.d (tmD t)), none, none], ?_, rfl⟩⟩
    have o := every_ok 40 t (h.ok t ht) (h.few t ht)
    refine cIn_of (xs := (everyP 40 t).map tmD) ?_ rfl (c2 (tmD t) (everyP 40 t))
    have it := il ((everyP 40 t).map tmD)
    generalize (everyP 40 t).map tmD = z at *
    simp [o, it]
  rw [filt_yes] at c1
  have ev : (ts.flatMap fun t => ((everyP 40 t).flatMap ownN).map PyData.str) = (allN ts).map .str := by unfold allN; rw [List.map_flatMap]
  rw [ev] at c1
  have h1 : mItems (mVar 0) [some (OV.d L), none, none, none] = .ok (ts.map tmD) [some (.d L), none, none, none] := by
    simp [itL]
  have h2 := mLcN_of (c := ⟨[1, 2, 3], (tName 1), mYes⟩) (b := cIn ⟨[2, 3], (tName 2), mYes⟩ i1_all_names (cIn ⟨[3], (tName 3), mYes⟩ i2_all_names (cEnd (mTxt (mVar 3))))) h1 rfl c1
  have h3 : mSetC (mLcN ⟨[1, 2, 3], (tName 1), mYes⟩ (mItems (mVar 0)) (cIn ⟨[2, 3], (tName 2), mYes⟩ i1_all_names (cIn ⟨[3], (tName 3), mYes⟩ i2_all_names (cEnd (mTxt (mVar 3)))))) [some (OV.d L), none, none, none] = .ok (allN ts) [some (.d L), none, none, none] := by
    rw [mSetC_d, h2]
    show (if ((allN ts).map PyData.str).length ≤ scanBound - 2 then ofO (allStr ((allN ts).map .str)) _ else .bad) = _
    rw [if_pos (by rw [List.length_map]; unfold scanBound; omega), allStr_map]
    rfl
  refine fn_ok (ρ' := [some (.d L), none, none, none]) rfl ?_ rfl
  unfold m_all_names
  have k : mSortK (mSetC (mLcN ⟨[1, 2, 3], (tName 1), mYes⟩ (mItems (mVar 0)) (cIn ⟨[2, 3], (tName 2), mYes⟩ i1_all_names (cIn ⟨[3], (tName 3), mYes⟩ i2_all_names (cEnd (mTxt (mVar 3))))))) [some (OV.d L), none, none, none] = .ok ((sortS (onceS (allN ts))).map .str) [some (.d L), none, none, none] := by
    rw [mSortK_d, h3]; rfl
  generalize (sortS (onceS (allN ts))).map PyData.str = z at *
  simp [k, -mSortK_d]
end ST
end
section
set_option maxRecDepth 100000
set_option maxHeartbeats 0
set_option exponentiation.threshold 3000
namespace ST
open PySem PySem.Spec PyProof.Rows L2 DL SH
theorem kind_at (t : Tm) : ixD (tmD t) (.int 0) = some (.str (match t with
  | .nm _ => "name"
  | .hole _ _ => "hole"
  | .shut _ _ => "shut"
  | .sign _ _ => "sign")) := by
  cases t <;> (rw [tmD]; rfl)
theorem lay_tup {n : Nat} {xs : List D} (h : ∀ x ∈ xs, x.canLay0 = true ∧ x.depth ≤ n) : (PyData.tuple xs).canLay0 = true ∧ (PyData.tuple xs).depth ≤ n + 1 := by
  refine ⟨by rw [PyData.canLay0]; exact canAll fun x hx => (h x hx).1, ?_⟩
  rw [PyData.depth]
  have := depAll fun x hx => (h x hx).2
  omega
theorem str_lay {s : Str} (h : PyData.strOk s = true) (n : Nat) : (PyData.str s).canLay0 = true ∧ (PyData.str s).depth ≤ n := ⟨by rw [PyData.canLay0]; exact h, by rw [PyData.depth]; omega⟩
theorem tD_lay {t : PL} (T : Turn t) : (tD t).canLay0 = true ∧ (tD t).depth ≤ 2 := lay_tup (n := 1) fun x hx => by
  obtain ⟨p, hp, rfl⟩ := List.mem_map.mp hx
  exact lay_tup (n := 0) fun y hy => by
    simp at hy
    rcases hy with rfl | rfl
    · exact str_lay (T.nm p hp).1.fit.ok 0
    · exact str_lay (T.nm p hp).2.fit.ok 0
theorem OkT.lay : ∀ {n : Nat} {t : Tm}, OkT n t → (tmD t).canLay0 = true ∧ (tmD t).depth ≤ 2 * n + 2
  | 0, _, h => h.elim
  | n + 1, .nm s, h => by
    rw [tmD]
    have := lay_tup (n := 0) (xs := [.str "name", .str s]) fun x hx => by
      simp at hx
      rcases hx with rfl | rfl
      · exact str_lay (by decide +kernel) 0
      · exact str_lay (NmS.fit h).ok 0
    exact ⟨this.1, by omega⟩
  | n + 1, .hole t x, h => by
    rw [tmD]
    have := lay_tup (n := 2) (xs := [.str "hole", tD t, .str x]) fun y hy => by
      simp at hy
      rcases hy with rfl | rfl | rfl
      · exact str_lay (by decide +kernel) 2
      · exact tD_lay h.1
      · exact str_lay (HlS.fit h.2.2).ok 2
    exact ⟨this.1, by omega⟩
  | n + 1, .shut a b, h => by
    rw [tmD]
    have ih := OkT.lay h.2
    have := lay_tup (n := 2 * n + 2) (xs := [.str "shut", .str a, tmD b]) fun y hy => by
      simp at hy
      rcases hy with rfl | rfl | rfl
      · exact str_lay (by decide +kernel) _
      · exact str_lay (NmS.fit h.1).ok _
      · exact ih
    exact ⟨this.1, by omega⟩
  | n + 1, .sign a ts, h => by
    rw [tmD, tmDs_map]
    have ih := lay_tup (n := 2 * n + 2) (xs := ts.map tmD) fun y hy => by
      obtain ⟨b, hb, rfl⟩ := List.mem_map.mp hy
      exact OkT.lay (h.2.2 b hb)
    have := lay_tup (n := 2 * n + 3) (xs := [.str "sign", .str a, .tuple (ts.map tmD)]) fun y hy => by
      simp at hy
      rcases hy with rfl | rfl | rfl
      · exact str_lay (by decide +kernel) _
      · exact str_lay (NmS.fit h.1).ok _
      · exact ih
    exact ⟨this.1, by omega⟩
end ST
end
section
set_option maxRecDepth 100000
set_option maxHeartbeats 0
set_option exponentiation.threshold 3000
namespace ST
open PySem PySem.Spec PyProof.Rows L2 DL SH
theorem tm_tuple (t : Tm) : ∃ xs, tmD t = .tuple xs := by
  cases t <;> (rw [tmD]; exact ⟨_, rfl⟩)
theorem tm_m (t : Tm) : FitM (tmD t) := by
  obtain ⟨xs, e⟩ := tm_tuple t
  rw [e]; trivial
theorem OkT.fit : ∀ {n : Nat} {t : Tm}, OkT n t → n ≤ 28 → ∀ k, FitT (n + k) (tmD t)
  | 0, _, h, _, _ => h.elim
  | n + 1, t, h, hn, k => by
    rw [show n + 1 + k = (n + k) + 1 from by omega]
    refine ⟨tm_m t, ?_⟩
    cases t with
    | nm s =>
      rw [tmD]
      refine ⟨by simp [partsT], fun y hy => ?_, fun a b c e => by cases e⟩
      simp [partsT] at hy
      rcases hy with rfl | rfl
      · exact fitS_of (by decide +kernel)
      · exact NmS.fit h
    | hole u x =>
      rw [tmD]
      refine ⟨by simp [partsT], fun y hy => ?_, fun a b c e => ?_⟩
      · simp [partsT] at hy
        rcases hy with rfl | rfl | rfl
        · exact fitS_of (by decide +kernel)
        · trivial
        · exact HlS.fit h.2.2
      · have e : [PyData.str "hole", tD u, .str x] = [.str a, b, c] := by injection e
        injection e with e1 e
        injection e with e2 e
        injection e1 with e1
        subst e1 e2
        exact ⟨fun _ => h.1.fit (by have := h.2.1; omega), fun z => absurd z (by decide), fun z => absurd z (by decide)⟩
    | shut a b =>
      rw [tmD]
      refine ⟨by simp [partsT], fun y hy => ?_, fun a' b' c' e => ?_⟩
      · simp [partsT] at hy
        rcases hy with rfl | rfl | rfl
        · exact fitS_of (by decide +kernel)
        · exact NmS.fit h.1
        · exact tm_m b
      · have e : [PyData.str "shut", .str a, tmD b] = [.str a', b', c'] := by injection e
        injection e with e1 e
        injection e with e2 e
        injection e with e3 e
        injection e1 with e1
        subst e1 e2 e3
        exact ⟨fun z => absurd z (by decide), fun _ => OkT.fit h.2 (by omega) k, fun z => absurd z (by decide)⟩
    | sign a ts =>
      rw [tmD, tmDs_map]
      refine ⟨by simp [partsT], fun y hy => ?_, fun a' b' c' e => ?_⟩
      · simp [partsT] at hy
        rcases hy with rfl | rfl | rfl
        · exact fitS_of (by decide +kernel)
        · exact NmS.fit h.1
        · trivial
      · have e : [PyData.str "sign", .str a, .tuple (ts.map tmD)] = [.str a', b', c'] := by injection e
        injection e with e1 e
        injection e with e2 e
        injection e with e3 e
        injection e1 with e1
        subst e1 e2 e3
        refine ⟨fun z => absurd z (by decide), fun z => absurd z (by decide), fun _ => ⟨by simp [partsT]; have := h.2.1; omega, fun y hy => ?_⟩⟩
        obtain ⟨b, hb, rfl⟩ := List.mem_map.mp (show y ∈ ts.map tmD from hy)
        exact OkT.fit (h.2.2 b hb) (by omega) k
end ST
end
section
set_option maxRecDepth 100000
set_option maxHeartbeats 0
set_option exponentiation.threshold 3000
namespace ST
open PySem PySem.Spec PyProof.Rows L2 DL SH
theorem sureT_yes (x : D) (h : FitT 40 x) (ht : termN 40 x = true) : f_sure_terms [.d (.list [x])] = .ok (.d .none) [some (.d (.list [x]))] := by
  have e := is_term_ok 40 x h
  rw [ht] at e
  have it : itemsD (.list [x]) = some [x] := rfl
  simp [f_sure_terms, m_sure_terms, fnOf, it, forGo_cons, e, outsOf]
theorem OkT.lift {n : Nat} {t : Tm} (h : OkT n t) : ∀ k, OkT (n + k) t
  | 0 => h
  | k + 1 => (OkT.lift h k).up
section
variable {x : D}
end
structure Term28 (t : Tm) : Prop where
  ok : OkT 28 t
  few : (everyP 40 t).length ≤ 500
section
variable {t : Tm}
theorem Term28.ok40 (h : Term28 t) : OkT 40 t := OkT.lift h.ok 12
theorem Term28.sure (h : Term28 t) : f_sure_terms [.d (.list [tmD t])] = .ok (.d .none) [some (.d (.list [tmD t]))] := sureT_yes _ (OkT.fit h.ok (by omega) 12) h.ok40.term
theorem Term28.ts (h : Term28 t) : OkTs [t] := ⟨fun u hu => by rw [List.mem_singleton.mp hu]; exact h.ok40, fun u hu => by rw [List.mem_singleton.mp hu]; exact h.few⟩
theorem Term28.names (h : Term28 t) (hl : (allN [t]).length ≤ 900) : f_names_in [.d (tmD t)] = .ok (.lst ((sortS (onceS (allN [t]))).map .str)) [some (.d (tmD t))] := by
  have sy := h.sure
  have ev := all_names_ok h.ts hl
  rw [List.map_cons, List.map_nil] at ev
  generalize (sortS (onceS (allN [t]))).map PyData.str = z at *
  generalize tmD t = a at *
  simp [f_names_in, m_names_in, fnOf, sy, ev, outsOf]
end
end ST
end
section
set_option maxRecDepth 100000
set_option maxHeartbeats 0
set_option exponentiation.threshold 3000
namespace ST
open PySem PySem.Spec PyProof.Rows L2 DL SH
abbrev Pl := List Nat
def plD (p : Pl) : D := .tuple (p.map fun k => .int (k : Nat))
def everyK : Nat → Tm → List Pl
  | 0, _ => []
  | n + 1, t => [] :: ((innerT t).zipIdx.flatMap fun q => (everyK n q.1).map fun p => q.2 :: p)
def enT (q : Tm × Nat) : D := .tuple [.int (q.2 : Nat), tmD q.1]
theorem enum_tm (ts : List Tm) : enumD (ts.map tmD) = ts.zipIdx.map enT := by
  unfold enumD
  rw [List.zipIdx_map, List.map_map]
  rfl
theorem add_t {a b : List D} (h : a.length + b.length ≤ 1000) : addD (.tuple a) (.tuple b) = some (.tuple (a ++ b)) := if_pos (by have := size_big; omega)
theorem everyK_len : ∀ (n : Nat) (t : Tm), ∀ p ∈ everyK n t, p.length ≤ n
  | 0, _, _, h => by cases h
  | n + 1, t, p, h => by
    rcases List.mem_cons.mp h with rfl | h
    · exact Nat.zero_le _
    · obtain ⟨q, _, hp⟩ := List.mem_flatMap.mp h
      obtain ⟨r, hr, rfl⟩ := List.mem_map.mp hp
      have := everyK_len n q.1 r hr
      rw [List.length_cons]; omega
end ST
end
section
set_option maxRecDepth 100000
set_option maxHeartbeats 0
set_option exponentiation.threshold 3000
namespace ST
open PySem PySem.Spec PyProof.Rows L2 DL SH
theorem zip_len (g : Tm → Nat → Nat) (f : Tm × Nat → List Pl) (k : Tm → List Tm) (h : ∀ t i, (f (t, i)).length = (k t).length) : ∀ (ts : List Tm) (i : Nat), ((ts.zipIdx i).flatMap f).length = (ts.flatMap k).length
  | [], _ => rfl
  | t :: ts, i => by
    rw [List.zipIdx_cons, List.flatMap_cons, List.flatMap_cons, List.length_append, List.length_append, h, zip_len g f k h ts (i + 1)]
theorem everyK_P : ∀ (n : Nat) (t : Tm), (everyK n t).length = (everyP n t).length
  | 0, _ => rfl
  | n + 1, t => by
    show ((innerT t).zipIdx.flatMap fun q => (everyK n q.1).map fun p => q.2 :: p).length + 1 = ((innerT t).flatMap (everyP n)).length + 1
    rw [zip_len (fun _ _ => 0) (fun q => (everyK n q.1).map fun p => q.2 :: p) (everyP n) fun t i => by rw [List.length_map]; exact everyK_P n t]
end ST
end
section
set_option maxRecDepth 100000
set_option maxHeartbeats 0
set_option exponentiation.threshold 3000
namespace ST
open PySem PySem.Spec PyProof.Rows L2 DL SH
def six : List Str := ["X", "Y", "Z", "X1", "Y1", "Z1"]
theorem six_nd : six.Nodup := by decide +kernel
theorem six_hl : ∀ s ∈ six, HlS s := fun s h => hlS_iff.mp (List.all_eq_true.mp (show six.all hlS = true by decide +kernel) s h)
theorem holes_ok {B : Nat} (hB : B < 2 ^ 48) {p : List D} (h : Pile B p) (m : Nat) (hm : m ≤ 6) : ∃ (l : List Str) (p' : List D), l.length = m ∧ l.Nodup ∧ (∀ s ∈ l, HlS s) ∧ Pile (B + 20 * m) p' ∧ f__law_holes [.lst p, .d (.int m)] = .ok (.lst (l.map .str)) [some (.lst p'), some (.d (.int m))] := by
  have hr := range_ok m (by omega)
  let A := fun (a : List D) (l : List Str) (w4 w5 w6 : Option OV) => [some (OV.lst a), some (.d (.int (m : Nat))), some (.d (.str gts)), some (.lst (l.map .str)), w4, w5, w6, none]
  have a0 : ∀ a l w4 w5 w6, A a l w4 w5 w6 = [some (OV.lst a), some (.d (.int (m : Nat))), some (.d (.str gts)), some (.lst (l.map .str)), w4, w5, w6, none] := fun _ _ _ _ _ => rfl
  have lf : (gts ++ fig).length = 36 := by rw [app_len, gts_len, fig_len]
  have big := size_big
  obtain ⟨ρ', f1, l, q, w4, w5, w6, rfl, f2, f3, f4, f5⟩ := forGo_inv (t := tName 4) (b := b3__law_holes) (xs := rangeL 0 m) (ρ := A p [] none none none)
    (fun i ρ => ∃ (l : List Str) (q : List D) (w4 w5 w6 : Option OV), ρ = A q l w4 w5 w6 ∧ l.length = i ∧ l.Nodup ∧ (∀ s ∈ l, HlS s) ∧ Pile (B + 20 * i) q)
    ⟨[], p, none, none, none, rfl, rfl, .nil, fun _ z => (by cases z), h⟩ fun i x ρ hx ⟨l, q, w4, w5, w6, e, n1, n2, n3, n4⟩ => by
      subst e
      obtain ⟨hi, rfl⟩ := range_at hx
      obtain ⟨r, q1, r0, r1, hq1, e1⟩ := take_ok (by omega) n4 26 (by omega) (by omega)
      obtain ⟨c, hc, i1⟩ := ix_str (z := gts) (r := r) (by rw [gts_len]; omega) r0 (by rw [gts_len]; omega)
      have hc := (mem_gts c).mp hc
      obtain ⟨kd, q2, k0, k1, hq2, e2⟩ := take_ok (by omega) hq1 3 (by omega) (by omega)
      obtain ⟨s, q3, v6, hs, hq3, st⟩ : ∃ (s : Str) (q3 : List D) (v6 : Option OV), HlS s ∧ Pile (B + 20 * i + 12) q3 ∧ ∀ K : M Fl, sSeq (sSet 5 (mBin ixD (mVar 2) (mFrz (mCall SH.f__law_take (gO 0 (gD (mC (.int 26)) gNil)))))) (sSeq (mIf (mB (mBin eqD (mFrz (mCall SH.f__law_take (gO 0 (gD (mC (.int 3)) gNil)))) (mC (.int 2)))) (sFor (mRange1 (mFrz (mCall SH.f__law_take (gO 0 (gD (mC (.int 8)) gNil))))) (tName 6) b1__law_holes) sNil) K) (A q l (some (.d (.int (i : Nat)))) w5 w6) = K (A q3 l (some (.d (.int (i : Nat)))) (some (.d (.str s))) v6) := by
        by_cases hk : kd = 2
        · subst hk
          obtain ⟨k, q3, t0, t1, hq3, e3⟩ := take_ok (by omega) hq2 8 (by omega) (by omega)
          have hr2 := range_ok k.toNat (by omega)
          rw [Int.toNat_of_nonneg t0] at hr2
          obtain ⟨ρ', g1, s, q4, v6, rfl, g2, g3, g4⟩ := forGo_inv (t := tName 6) (b := b1__law_holes) (xs := rangeL 0 k.toNat) (ρ := A q3 l (some (.d (.int (i : Nat)))) (some (.d (.str ⟨#[c]⟩))) w6)
            (fun j ρ => ∃ (s : Str) (q4 : List D) (v6 : Option OV), ρ = A q4 l (some (.d (.int (i : Nat)))) (some (.d (.str s))) v6 ∧ HlS s ∧ s.length = 1 + j ∧ Pile (B + 20 * i + 3 + j) q4)
            ⟨_, q3, w6, rfl, hl_one hc, rfl, hq3.up (by omega)⟩ fun j x ρ hx ⟨s, q4, v6, e, m1, m2, m3⟩ => by
              subst e
              obtain ⟨hj, rfl⟩ := range_at hx
              obtain ⟨t, q5, u0, u1, hq5, e5⟩ := take_ok (by omega) m3 36 (by omega) (by omega)
              obtain ⟨d, hd, e6⟩ := ix_str (z := gts ++ fig) (r := t) (by omega) u0 (by omega)
              have hd' : isGt d ∨ isFg d := by
                rw [app_cps] at hd
                rcases List.mem_append.mp hd with hd | hd
                · exact .inl ((mem_gts d).mp hd)
                · exact .inr ((mem_fig d).mp hd)
              refine ⟨A q4 l (some (.d (.int (i : Nat)))) (some (.d (.str s))) (some (.d (.int (j : Nat)))), A q5 l (some (.d (.int (i : Nat)))) (some (.d (.str (s ++ ⟨#[d]⟩)))) (some (.d (.int (j : Nat)))), by simp [A], ?_, s ++ ⟨#[d]⟩, q5, some (.d (.int (j : Nat))), rfl, hl_app m1 (by omega) hd', by rw [app_len, m2, one_len]; omega, hq5.up (by omega)⟩
              have ad : addD (.str s) (.str ⟨#[d]⟩) = some (.str (s ++ ⟨#[d]⟩)) := add_str (by rw [one_len]; omega)
              simp only [a0]
              simp [e5, add_gf, e6, ad]
          rw [range_len] at g4
          refine ⟨s, q4, v6, g2, g4.up (by omega), fun K => ?_⟩
          refine (seq_nx (ρ1 := A q1 l (some (.d (.int (i : Nat)))) (some (.d (.str ⟨#[c]⟩))) w6) (by simp [a0, e1, i1])).trans ?_
          refine (seq_nx (ρ1 := A q4 l (some (.d (.int (i : Nat)))) (some (.d (.str s))) v6) (by
            simp only [a0] at g1 ⊢
            simp [e2, eq_i, e3, hr2]
            exact g1)).trans rfl
        · refine ⟨⟨#[c]⟩, q2, w6, hl_one hc, hq2.up (by omega), fun K => ?_⟩
          refine (seq_nx (ρ1 := A q1 l (some (.d (.int (i : Nat)))) (some (.d (.str ⟨#[c]⟩))) w6) (by simp [a0, e1, i1])).trans ?_
          refine (seq_nx (ρ1 := A q2 l (some (.d (.int (i : Nat)))) (some (.d (.str ⟨#[c]⟩))) w6) (by simp [a0, e2, eq_i, hk])).trans rfl
      have app : ∀ z : Str, appendD (l.map .str) [.str z] = some ((l ++ [z]).map .str, .none) := fun z => by
        show (if _ then _ else _) = _
        rw [if_pos (by rw [List.length_map]; omega)]
        simp
      by_cases hsl : s ∈ l
      · have fr : (six.filter fun s => !decide (s ∈ l)) ≠ [] := fun z => by
          have := nodup_le six_nd (b := l) fun x hx => by
            have := List.filter_eq_nil_iff.mp z x hx
            simpa using this
          have e6 : six.length = 6 := rfl
          omega
        obtain ⟨z, zs, hz⟩ := List.exists_cons_of_ne_nil fr
        have hz' : z ∈ six ∧ z ∉ l := by
          have := List.mem_filter.mp (show z ∈ (six.filter fun s => !decide (s ∈ l)) by rw [hz]; exact List.mem_cons_self)
          simpa using this
        have lc := lcGo_pure (vs := [7]) (t := tName 7) (tst := p2__law_holes) (e := mVar 7) (p := freeP l) (g := id) (ρ := A q3 l (some (.d (.int (i : Nat)))) (some (.d (.str s))) v6) (xs := six.map .str) fun x hx => by
          obtain ⟨d, hd, rfl⟩ := List.mem_map.mp hx
          refine ⟨[some (OV.lst q3), some (.d (.int (m : Nat))), some (.d (.str gts)), some (.lst (l.map .str)), some (.d (.int (i : Nat))), some (.d (.str s)), v6, some (.d (.str d))], [some (OV.lst q3), some (.d (.int (m : Nat))), some (.d (.str gts)), some (.lst (l.map .str)), some (.d (.int (i : Nat))), some (.d (.str s)), v6, some (.d (.str d))], by simp [A], ?_, fun _ => rfl, fun _ => ⟨_, rfl, rfl⟩⟩
          simp [nin_strs, freeP]
        rw [List.map_id, SH.filter_free, hz] at lc
        have lc : lcGo [7] (tName 7) p2__law_holes (mVar 7) [.str "X", .str "Y", .str "Z", .str "X1", .str "Y1", .str "Z1"] (A q3 l (some (.d (.int (i : Nat)))) (some (.d (.str s))) v6) = .ok (.str z :: zs.map .str) (A q3 l (some (.d (.int (i : Nat)))) (some (.d (.str s))) v6) := lc
        have ix : ixD (.list (.str z :: zs.map .str)) (.int 0) = some (.str z) := by simp [ixD, atI, ixN]
        refine ⟨A q l (some (.d (.int (i : Nat)))) w5 w6, A q3 (l ++ [z]) (some (.d (.int (i : Nat)))) (some (.d (.str z))) v6, by simp [A], (st _).trans ?_, l ++ [z], q3, some (.d (.int (i : Nat))), some (.d (.str z)), v6, rfl, by rw [List.length_append, n1]; rfl, ?_, ?_, hq3.up (by omega)⟩
        · have ap := app z
          have il6 := il [.str "X", .str "Y", .str "Z", .str "X1", .str "Y1", .str "Z1"]
          have ins := in_strs s l
          rw [decide_eq_true hsl] at ins
          simp only [a0] at lc ⊢
          generalize (l ++ [z]).map PyData.str = y1 at *
          generalize l.map PyData.str = y2 at *
          simp [ins, il6, dataAt, lc, backE, ix, ap]
        · exact List.nodup_append.mpr ⟨n2, by simp, fun a ha b hb => by simp at hb; subst hb; exact fun e => hz'.2 (e ▸ ha)⟩
        · intro y hy
          rcases List.mem_append.mp hy with hy | hy
          · exact n3 y hy
          · simp at hy; subst hy; exact six_hl _ hz'.1
      · refine ⟨A q l (some (.d (.int (i : Nat)))) w5 w6, A q3 (l ++ [s]) (some (.d (.int (i : Nat)))) (some (.d (.str s))) v6, by simp [A], (st _).trans ?_, l ++ [s], q3, some (.d (.int (i : Nat))), some (.d (.str s)), v6, rfl, by rw [List.length_append, n1]; rfl, ?_, ?_, hq3.up (by omega)⟩
        · have ap := app s
          have ins := in_strs s l
          rw [decide_eq_false hsl] at ins
          simp only [a0]
          generalize (l ++ [s]).map PyData.str = y1 at *
          generalize l.map PyData.str = y2 at *
          simp [ins, ap]
        · exact List.nodup_append.mpr ⟨n2, by simp, fun a ha b hb => by simp at hb; subst hb; exact fun e => hsl (e ▸ ha)⟩
        · intro y hy
          rcases List.mem_append.mp hy with hy | hy
          · exact n3 y hy
          · simp at hy; subst hy; exact hs
  rw [range_len] at f2 f5
  refine ⟨l, q, f2, f3, f4, f5, ?_⟩
  refine fn_ok (ρ' := [some (OV.lst q), some (.d (.int (m : Nat))), some (.d (.str gts)), none, w4, w5, w6, none]) rfl ?_ rfl
  unfold m__law_holes
  refine (seq_nx (ρ1 := [some (OV.lst p), some (.d (.int (m : Nat))), some (.d (.str gts)), none, none, none, none, none]) (by simp)).trans ?_
  refine (seq_nx (ρ1 := A p [] none none none) (by simp [a0])).trans ?_
  refine (seq_nx (ρ1 := A q l w4 w5 w6) (by simp only [a0] at f1 ⊢; simp [hr]; exact f1)).trans ?_
  simp [a0]
end ST
end
section
set_option maxRecDepth 100000
set_option maxHeartbeats 0
set_option exponentiation.threshold 3000
namespace ST
open PySem PySem.Spec PyProof.Rows L2 DL SH
theorem fgh_nm : ∀ s ∈ (["f", "g", "h"] : List Str), NmS s := fun s h => nmS_iff.mp (List.all_eq_true.mp (show (["f", "g", "h"] : List Str).all nmS = true by decide +kernel) s h)
theorem sign_ok {B : Nat} (hB : B < 2 ^ 48) {p : List D} (h : Pile B p) {l : List Str} (hl : ∀ s ∈ l, NmS s) (h1 : 1 ≤ l.length) : ∃ (a : Str) (p' : List D), NmS a ∧ Pile (B + 1) p' ∧ f__law_sign [.lst p, .d (.list (l.map .str))] = .ok (.d (.str a)) [some (.lst p'), some (.d (.list (l.map .str)))] := by
  obtain ⟨r, q, r0, r1, hq, e⟩ := take_ok (by omega) h 4 (by omega) (by omega)
  obtain ⟨z, hz, i0⟩ := name_at (l := l) (i := 0) (by omega) (by omega)
  obtain ⟨a, ha, i1⟩ := name_at (l := ["f", "g", "h", z]) r0 (by simpa using r1)
  have na : NmS a := by
    rcases List.mem_append.mp (show a ∈ (["f", "g", "h"] : List Str) ++ [z] from ha) with k | k
    · exact fgh_nm a k
    · rw [List.mem_singleton.mp k]; exact hl z hz
  refine ⟨a, q, na, hq, ?_⟩
  have i1 : ixD (.list [.str "f", .str "g", .str "h", .str z]) (.int r) = some (.str a) := i1
  generalize l.map PyData.str = nl at *
  simp [f__law_sign, m__law_sign, fnOf, i0, e, i1, outsOf]
end ST
end
section
set_option maxRecDepth 100000
set_option maxHeartbeats 0
namespace SU
open PySem PySem.Spec PyProof.Rows L2 DL
noncomputable def g1__law_term : M D := (mOrV (mBin eqD (mVar 3) (mC (.int 0))) (mBin eqD (mVar 4) (mC (.int 0))))
noncomputable def g2__law_term : M Bool := (mAnd (mB (mVar 5)) (mAnd (mB (mBin neD (mLook 2) (mLstF mNil))) (mB (mBin gtD (mFrz (mCall SH.f__law_take (gO 0 (gD (mC (.int 3)) gNil)))) (mC (.int 0))))))
noncomputable abbrev e3__law_term (R : Fn) : M D := (mFrz (mCall R (gO 0 (gD (mVar 1) (gO 2 (gD (mBin subD (mVar 3) (mC (.int 1))) gNil))))))
noncomputable def m__law_term (R : Fn) : M Fl := (sSeq (sSet 4 (mFrz (mCall SH.f__law_take (gO 0 (gD (mC (.int 10)) gNil))))) (sSeq (sSet 5 g1__law_term) (sSeq (mIf g2__law_term (sRet (mD (mTup (mCons (mC (.str "hole")) (mCons (mFrz (mCall SH.f__law_turn (gO 0 (gD (mVar 1) gNil)))) (mCons (mLM 2 popD (mCons (mFrz (mCall SH.f__law_take (gO 0 (gD (mF1 lenD (mLook 2)) gNil)))) mNil)) mNil)))))) sNil) (sSeq (mIf (mB (mVar 5)) (sRet (mD (mTup (mCons (mC (.str "name")) (mCons (mBin ixD (mVar 1) (mFrz (mCall SH.f__law_take (gO 0 (gD (mF1 lenD (mVar 1)) gNil))))) mNil))))) sNil) (sSeq (mIf (mB (mBin ltD (mVar 4) (mC (.int 4)))) (sRet (mD (mTup (mCons (mC (.str "shut")) (mCons (mBin ixD (mVar 1) (mFrz (mCall SH.f__law_take (gO 0 (gD (mF1 lenD (mVar 1)) gNil))))) (mCons (mFrz (mCall R (gO 0 (gD (mVar 1) (gO 2 (gD (mBin subD (mVar 3) (mC (.int 1))) gNil)))))) mNil)))))) sNil) (sSeq (sSet 6 (mBin ixD (mLstF (mCons (mC (.int 0)) (mCons (mC (.int 1)) (mCons (mC (.int 2)) (mCons (mC (.int 2)) (mCons (mC (.int 3)) (mCons (mC (.int 3)) mNil))))))) (mFrz (mCall SH.f__law_take (gO 0 (gD (mC (.int 6)) gNil)))))) (sSeq (sSet 7 (mLstF (mLc [8] (mRange1 (mVar 6)) (tName 8) mYes (e3__law_term R)))) (sRet (mD (mTup (mCons (mC (.str "sign")) (mCons (mFrz (mCall ST.f__law_sign (gO 0 (gD (mVar 1) gNil)))) (mCons (mF1 tupD (mVar 7)) mNil)))))))))))))
noncomputable def f__law_term : Nat → Fn
  | 0 => fun _ => .bad
  | n + 1 => fnOf 9 4 [0, 2] (m__law_term (f__law_term n))
noncomputable def h1__law_term (a3 : D) (a4 : D) : Pr D :=
 oB (eqD a3 (.int 0)) fun v4 =>
 oB (bO v4) fun v5 =>
 pB (if v5 = true then
 .ok (.bool true) else
 oB (eqD a4 (.int 0)) fun v6 =>
 .ok v6) fun v7 =>
 .ok v7
theorem r1__law_term {T : Type} [Tg T] (a0 : Option OV) (a1 : Option OV) (a2 : Option OV) (a3 : D) (a4 : D) (u5 : Option OV) (u6 : Option OV) (u7 : Option OV) (u8 : Option OV) (k : D → DL.Env → T) : rB (g1__law_term [a0, a1, a2, some (.d a3), some (.d a4), u5, u6, u7, u8]) k hE = pB (h1__law_term a3 a4) fun z => k z [a0, a1, a2, some (.d a3), some (.d a4), u5, u6, u7, u8] := by
  simp (maxSteps := 2000000) only [g1__law_term, h1__law_term, e3__law_term, RB, Nat.reduceAdd, Nat.reduceBEq]
noncomputable def h2__law_term (a0 : Option OV) (a2 : Option OV) (a5 : D) : Pr (Bool × Option OV) :=
 oB (bO a5) fun v9 =>
 pB (if v9 = true then
 oB (lk a2) fun v10 =>
 oB (neD v10 (.list [])) fun v11 =>
 oB (bO v11) fun v12 =>
 pB (if v12 = true then
 oB a0 fun _ =>
 oB a0 fun v13 =>
 cB (SH.f__law_take [v13, .d (.int 3)]) fun v14 w15 =>
 oB (OV.frz v14) fun v16 =>
 oB (gtD v16 (.int 0)) fun v17 =>
 oB (bO v17) fun v18 =>
 .ok (v18, (gt w15 0)) else
 .ok (false, a0)) fun v19 =>
 .ok (v19.1, v19.2) else
 .ok (false, a0)) fun v20 =>
 .ok (v20.1, v20.2)
theorem r2__law_term {T : Type} [Tg T] (a0 : Option OV) (a1 : Option OV) (a2 : Option OV) (a3 : Option OV) (a4 : Option OV) (a5 : D) (u6 : Option OV) (u7 : Option OV) (u8 : Option OV) (k : Bool → DL.Env → T) : rB (g2__law_term [a0, a1, a2, a3, a4, some (.d a5), u6, u7, u8]) k hE = pB (h2__law_term a0 a2 a5) fun z => k z.1 [z.2, a1, a2, a3, a4, some (.d a5), u6, u7, u8] := by
  simp (maxSteps := 2000000) only [g2__law_term, h2__law_term, e3__law_term, RB, Nat.reduceAdd, Nat.reduceBEq, r1__law_term]
noncomputable def c3__law_term (R : Fn) (a1 : D) (a3 : D) (x : D) (s : Option OV × Option OV) : Pr (Option D × Option OV × Option OV) :=
 oB s.1 fun _ =>
 oB s.2 fun _ =>
 oB (subD a3 (.int 1)) fun v61 =>
 oB s.1 fun v62 =>
 oB s.2 fun v63 =>
 cB (R [v62, .d a1, v63, .d v61]) fun v64 w65 =>
 oB (OV.frz v64) fun v66 =>
 .ok (some v66, (gt w65 0), (gt w65 2))
theorem r3__law_term {T : Type} [Tg T] (R : Fn) (c0 : Option OV) (a1 : D) (c2 : Option OV) (a3 : D) (a4 : Option OV) (a5 : Option OV) (a6 : Option OV) (u7 : Option OV) (xs : List D) (k : List D → DL.Env → T) (h : Exc → DL.Env → T) : rB (lcGo [8] (tName 8) mYes (e3__law_term R) xs [c0, some (.d a1), c2, some (.d a3), a4, a5, a6, u7, none]) k h = nB (lcS (c3__law_term R a1 a3) xs (c0, c2)) fun z => k z.1 [z.2.1, some (.d a1), z.2.2, some (.d a3), a4, a5, a6, u7, none] :=
  lc_rBS (E := fun s => [s.1, some (.d a1), s.2, some (.d a3), a4, a5, a6, u7, none]) (pe := (c3__law_term R a1 a3)) (fun x s => by unfold lst1; simp (maxSteps := 2000000) only [c3__law_term, e3__law_term, RB, Nat.reduceAdd, Nat.reduceBEq, r1__law_term, r2__law_term]) xs (c0, c2) k h
theorem eq__law_term (n : Nat) (x0 : OV) (x1 : D) (x2 : OV) (x3 : D) : f__law_term (n + 1) [x0, .d x1, x2, .d x3] =
 cB (SH.f__law_take [x0, .d (.int 10)]) fun v1 w2 =>
 oB (OV.frz v1) fun v3 =>
 pB (h1__law_term x3 v3) fun v8 =>
 pB (h2__law_term (gt w2 0) (some x2) v8) fun v21 =>
 if v21.1 = true then
  oB v21.2 fun _ =>
  oB v21.2 fun v22 =>
  cB (SH.f__law_turn [v22, .d x1]) fun v23 w24 =>
  oB (OV.frz v23) fun v25 =>
  oB (lO (some x2)) fun v26 =>
  oB (gt w24 0) fun _ =>
  oB (lk (some x2)) fun v27 =>
  oB (lenD v27) fun v28 =>
  oB (gt w24 0) fun v29 =>
  cB (SH.f__law_take [v29, .d v28]) fun v30 w31 =>
  oB (OV.frz v30) fun v32 =>
  oB (lO (some x2)) fun v33 =>
  oB (popD v33 [v32]) fun v34 =>
  .ok (.d (.tuple [(.str "hole"), v25, v34.2])) [(gt w31 0), some (.d x1), (some (.lst v34.1)), some (.d x3)] else
 oB (bO v8) fun v35 =>
 if v35 = true then
  oB v21.2 fun _ =>
  oB (lenD x1) fun v36 =>
  oB v21.2 fun v37 =>
  cB (SH.f__law_take [v37, .d v36]) fun v38 w39 =>
  oB (OV.frz v38) fun v40 =>
  oB (ixD x1 v40) fun v41 =>
  .ok (.d (.tuple [(.str "name"), v41])) [(gt w39 0), some (.d x1), (some x2), some (.d x3)] else
 oB (ltD v3 (.int 4)) fun v42 =>
 oB (bO v42) fun v43 =>
 if v43 = true then
  oB v21.2 fun _ =>
  oB (lenD x1) fun v44 =>
  oB v21.2 fun v45 =>
  cB (SH.f__law_take [v45, .d v44]) fun v46 w47 =>
  oB (OV.frz v46) fun v48 =>
  oB (ixD x1 v48) fun v49 =>
  oB (gt w47 0) fun _ =>
  oB (subD x3 (.int 1)) fun v50 =>
  oB (gt w47 0) fun v51 =>
  cB (f__law_term n [v51, .d x1, x2, .d v50]) fun v52 w53 =>
  oB (OV.frz v52) fun v54 =>
  .ok (.d (.tuple [(.str "shut"), v49, v54])) [(gt w53 0), some (.d x1), (gt w53 2), some (.d x3)] else
 oB v21.2 fun _ =>
 oB v21.2 fun v55 =>
 cB (SH.f__law_take [v55, .d (.int 6)]) fun v56 w57 =>
 oB (OV.frz v56) fun v58 =>
 oB (ixD (.list [(.int 0), (.int 1), (.int 2), (.int 2), (.int 3), (.int 3)]) v58) fun v59 =>
 oB (range1 v59) fun v60 =>
 nB (lcS (c3__law_term (f__law_term n) x1 x3) v60 ((gt w57 0), (some x2))) fun v67 =>
 oB v67.2.1 fun _ =>
 oB v67.2.1 fun v68 =>
 cB (ST.f__law_sign [v68, .d x1]) fun v69 w70 =>
 oB (OV.frz v69) fun v71 =>
 oB (tupD (.list v67.1)) fun v72 =>
 .ok (.d (.tuple [(.str "sign"), v71, v72])) [(gt w70 0), some (.d x1), v67.2.2, some (.d x3)] := by
  refine (fn_eq (m := (m__law_term (f__law_term n))) (ρ := [some x0, some (.d x1), some x2, some (.d x3), none, none, none, none, none]) rfl rfl).trans ?_
  have oe : ∀ ρ : DL.Env, outsOf [0, 2] ρ 0 [x0, .d x1, x2, .d x3] = [gt ρ 0, some (.d x1), gt ρ 2, some (.d x3)] := fun _ => rfl
  simp (maxSteps := 2000000) only [m__law_term, e3__law_term, RB, Nat.reduceAdd, Nat.reduceBEq, r1__law_term, r2__law_term, r3__law_term, oe]
noncomputable def g1__law_any : M Fl := (sK [] (mIf (mB (mBin eqD (mFrz (mCall SH.f__law_take (gO 0 (gD (mC (.int 3)) gNil)))) (mC (.int 0)))) (sSet 4 (mTup (mCons (mC (.str "sign")) (mCons (mFrz (mCall ST.f__law_sign (gO 0 (gD (mVar 1) gNil)))) (mCons (mTup (mCons (mVar 4) mNil)) mNil))))) (sSet 4 (mTup (mCons (mC (.str "shut")) (mCons (mBin ixD (mVar 1) (mFrz (mCall SH.f__law_take (gO 0 (gD (mF1 lenD (mVar 1)) gNil))))) (mCons (mVar 4) mNil)))))))
noncomputable abbrev b2__law_any : M Fl := (sK [5] g1__law_any)
noncomputable abbrev e3__law_any : M D := (mFrz (mCall (SU.f__law_term 40) (gO 0 (gD (mVar 1) (gO 2 (gD (mC (.int 1)) gNil))))))
noncomputable def m__law_any : M Fl := (sSeq (sSet 3 (mFrz (mCall SH.f__law_take (gO 0 (gD (mC (.int 5)) gNil))))) (sSeq (mIf (mB (mBin eqD (mVar 3) (mC (.int 3)))) (sSeq (sSet 4 (mFrz (mCall (SU.f__law_term 40) (gO 0 (gD (mVar 1) (gO 2 (gD (mC (.int 2)) gNil))))))) (sSeq (sKb [5] (sFor (mRange1 (mBin addD (mC (.int 1)) (mFrz (mCall SH.f__law_take (gO 0 (gD (mC (.int 9)) gNil)))))) (tName 5) b2__law_any)) (sRet (mD (mVar 4))))) sNil) (sSeq (mIf (mB (mBin eqD (mVar 3) (mC (.int 4)))) (sSeq (sSet 6 (mLstF (mLc [5] (mRange1 (mFrz (mCall SH.f__law_take (gO 0 (gD (mC (.int 7)) gNil))))) (tName 5) mYes e3__law_any))) (sRet (mD (mTup (mCons (mC (.str "sign")) (mCons (mFrz (mCall ST.f__law_sign (gO 0 (gD (mVar 1) gNil)))) (mCons (mF1 tupD (mVar 6)) mNil))))))) sNil) (sRet (mCall (SU.f__law_term 40) (gO 0 (gD (mVar 1) (gO 2 (gD (mC (.int 3)) gNil)))))))))
noncomputable def f__law_any : Fn := fnOf 7 3 [0, 2] m__law_any
noncomputable def h2__law_any (a0 : Option OV) (a1 : D) (a4 : D) : Pr (Option OV × D) :=
 oB a0 fun _ =>
 oB a0 fun v16 =>
 cB (SH.f__law_take [v16, .d (.int 3)]) fun v17 w18 =>
 oB (OV.frz v17) fun v19 =>
 oB (eqD v19 (.int 0)) fun v20 =>
 oB (bO v20) fun v21 =>
 pB (if v21 = true then
  oB (gt w18 0) fun _ =>
  oB (gt w18 0) fun v22 =>
  cB (ST.f__law_sign [v22, .d a1]) fun v23 w24 =>
  oB (OV.frz v23) fun v25 =>
  .ok ((gt w24 0), (.tuple [(.str "sign"), v25, (.tuple [a4])])) else
 oB (gt w18 0) fun _ =>
 oB (lenD a1) fun v26 =>
 oB (gt w18 0) fun v27 =>
 cB (SH.f__law_take [v27, .d v26]) fun v28 w29 =>
 oB (OV.frz v28) fun v30 =>
 oB (ixD a1 v30) fun v31 =>
 .ok ((gt w29 0), (.tuple [(.str "shut"), v31, a4]))) fun s32 =>
 .ok (s32.1, s32.2)
theorem r2__law_any {T : Type} [Tg T] (a0 : Option OV) (a1 : D) (a2 : Option OV) (a3 : Option OV) (a4 : D) (a5 : Option OV) (u6 : Option OV) (k : Fl → DL.Env → T) : rB (g1__law_any [a0, some (.d a1), a2, a3, some (.d a4), a5, u6]) k hE = pB (h2__law_any a0 a1 a4) fun z => k .nx [z.1, some (.d a1), a2, a3, some (.d z.2), a5, u6] := by
  simp (maxSteps := 2000000) only [g1__law_any, h2__law_any, e3__law_any, RB, Nat.reduceAdd, Nat.reduceBEq]
noncomputable def q1__law_any (a1 : D) (x : D) (s : Option OV × D) : Pr (Option OV × D) :=
 pB (h2__law_any s.1 a1 s.2) fun s33 =>
 .ok (s33.1, s33.2)
theorem r1__law_any {T : Type} [Tg T] (c0 : Option OV) (a1 : D) (a2 : Option OV) (a3 : Option OV) (c4 : D) (u6 : Option OV) (xs : List D) (k : Fl → DL.Env → T) : rB (forGo (tName 5) b2__law_any xs [c0, some (.d a1), a2, a3, some (.d c4), none, u6]) k hE = pB (forS (q1__law_any a1) xs (c0, c4)) fun s => k .nx [s.1, some (.d a1), a2, a3, some (.d s.2), none, u6] :=
  for_rB (E := fun (s : Option OV × D) => [s.1, some (.d a1), a2, a3, some (.d s.2), none, u6]) (pb := (q1__law_any a1)) (fun x s => by unfold stp; simp (maxSteps := 2000000) only [b2__law_any, q1__law_any, e3__law_any, RB, Nat.reduceAdd, Nat.reduceBEq, r2__law_any]) k xs (c0, c4)
noncomputable def c3__law_any (a1 : D) (x : D) (s : Option OV × Option OV) : Pr (Option D × Option OV × Option OV) :=
 oB s.1 fun _ =>
 oB s.2 fun _ =>
 oB s.1 fun v42 =>
 oB s.2 fun v43 =>
 cB ((SU.f__law_term 40) [v42, .d a1, v43, .d (.int 1)]) fun v44 w45 =>
 oB (OV.frz v44) fun v46 =>
 .ok (some v46, (gt w45 0), (gt w45 2))
theorem r3__law_any {T : Type} [Tg T] (c0 : Option OV) (a1 : D) (c2 : Option OV) (a3 : Option OV) (u4 : Option OV) (u6 : Option OV) (xs : List D) (k : List D → DL.Env → T) (h : Exc → DL.Env → T) : rB (lcGo [5] (tName 5) mYes e3__law_any xs [c0, some (.d a1), c2, a3, u4, none, u6]) k h = nB (lcS (c3__law_any a1) xs (c0, c2)) fun z => k z.1 [z.2.1, some (.d a1), z.2.2, a3, u4, none, u6] :=
  lc_rBS (E := fun s => [s.1, some (.d a1), s.2, a3, u4, none, u6]) (pe := (c3__law_any a1)) (fun x s => by unfold lst1; simp (maxSteps := 2000000) only [c3__law_any, e3__law_any, RB, Nat.reduceAdd, Nat.reduceBEq, r2__law_any, r1__law_any]) xs (c0, c2) k h
theorem eq__law_any (x0 : OV) (x1 : D) (x2 : OV) : f__law_any [x0, .d x1, x2] =
 cB (SH.f__law_take [x0, .d (.int 5)]) fun v1 w2 =>
 oB (OV.frz v1) fun v3 =>
 oB (eqD v3 (.int 3)) fun v4 =>
 oB (bO v4) fun v5 =>
 if v5 = true then
  oB (gt w2 0) fun _ =>
  oB (gt w2 0) fun v6 =>
  cB ((SU.f__law_term 40) [v6, .d x1, x2, .d (.int 2)]) fun v7 w8 =>
  oB (OV.frz v7) fun v9 =>
  oB (gt w8 0) fun _ =>
  oB (gt w8 0) fun v10 =>
  cB (SH.f__law_take [v10, .d (.int 9)]) fun v11 w12 =>
  oB (OV.frz v11) fun v13 =>
  oB (addD (.int 1) v13) fun v14 =>
  oB (range1 v14) fun v15 =>
  pB (forS (q1__law_any x1) v15 ((gt w12 0), v9)) fun s34 =>
  .ok (.d s34.2) [s34.1, some (.d x1), (gt w8 2)] else
 oB (eqD v3 (.int 4)) fun v35 =>
 oB (bO v35) fun v36 =>
 if v36 = true then
  oB (gt w2 0) fun _ =>
  oB (gt w2 0) fun v37 =>
  cB (SH.f__law_take [v37, .d (.int 7)]) fun v38 w39 =>
  oB (OV.frz v38) fun v40 =>
  oB (range1 v40) fun v41 =>
  nB (lcS (c3__law_any x1) v41 ((gt w39 0), (some x2))) fun v47 =>
  oB v47.2.1 fun _ =>
  oB v47.2.1 fun v48 =>
  cB (ST.f__law_sign [v48, .d x1]) fun v49 w50 =>
  oB (OV.frz v49) fun v51 =>
  oB (tupD (.list v47.1)) fun v52 =>
  .ok (.d (.tuple [(.str "sign"), v51, v52])) [(gt w50 0), some (.d x1), v47.2.2] else
 oB (gt w2 0) fun _ =>
 oB (gt w2 0) fun v53 =>
 cB ((SU.f__law_term 40) [v53, .d x1, x2, .d (.int 3)]) fun v54 w55 =>
 .ok v54 [(gt w55 0), some (.d x1), (gt w55 2)] := by
  refine (fn_eq (m := m__law_any) (ρ := [some x0, some (.d x1), some x2, none, none, none, none]) rfl rfl).trans ?_
  have oe : ∀ ρ : DL.Env, outsOf [0, 2] ρ 0 [x0, .d x1, x2] = [gt ρ 0, some (.d x1), gt ρ 2] := fun _ => rfl
  simp (maxSteps := 2000000) only [m__law_any, e3__law_any, RB, Nat.reduceAdd, Nat.reduceBEq, r2__law_any, r1__law_any, r3__law_any, oe]
noncomputable def m__law_in : M Fl := (sSeq (mIf (mB (mBin eqD (mBin ixD (mVar 0) (mC (.int 0))) (mC (.str "shut")))) (sRet (mLst (mCons (mBin ixD (mVar 0) (mC (.int 2))) mNil))) sNil) (sSeq (mIf (mB (mBin eqD (mBin ixD (mVar 0) (mC (.int 0))) (mC (.str "sign")))) (sRet (mLst (mFN listD (mBin ixD (mVar 0) (mC (.int 2)))))) sNil) (sRet (mLst mNil))))
noncomputable def f__law_in : Fn := fnOf 1 1 [] m__law_in
theorem eq__law_in (x0 : D) : f__law_in [.d x0] =
 oB (ixD x0 (.int 0)) fun v1 =>
 oB (eqD v1 (.str "shut")) fun v2 =>
 oB (bO v2) fun v3 =>
 if v3 = true then
  oB (ixD x0 (.int 2)) fun v4 =>
  .ok (.lst [v4]) [some (.d x0)] else
 oB (ixD x0 (.int 0)) fun v5 =>
 oB (eqD v5 (.str "sign")) fun v6 =>
 oB (bO v6) fun v7 =>
 if v7 = true then
  oB (ixD x0 (.int 2)) fun v8 =>
  oB (listD v8) fun v9 =>
  .ok (.lst v9) [some (.d x0)] else
 .ok (.lst []) [some (.d x0)] := by
  refine (fn_eq (m := m__law_in) (ρ := [some (.d x0)]) rfl rfl).trans ?_
  have oe : ∀ ρ : DL.Env, outsOf [] ρ 0 [.d x0] = [some (.d x0)] := fun _ => rfl
  simp (maxSteps := 2000000) only [m__law_in, RB, Nat.reduceAdd, Nat.reduceBEq, oe]
noncomputable abbrev b1__law_parts (R : Fn) : M Fl := (sK [2] (sSet 1 (mBin addD (mVar 1) (mFrz (mCall R (gD (mVar 2) gNil))))))
noncomputable def m__law_parts (R : Fn) : M Fl := (sSeq (sSet 1 (mLstF (mCons (mVar 0) mNil))) (sSeq (sKb [2] (sFor (mItems (mFrz (mCall SU.f__law_in (gD (mVar 0) gNil)))) (tName 2) (b1__law_parts R))) (sRet (mD (mVar 1)))))
noncomputable def h2__law_small (a0 : Option OV) (a1 : D) (a3 : D) : Pr (Option OV × D) :=
 oB a0 fun _ =>
 oB a0 fun v14 =>
 cB (SH.f__law_take [v14, .d (.int 3)]) fun v15 w16 =>
 oB (OV.frz v15) fun v17 =>
 oB (eqD v17 (.int 0)) fun v18 =>
 oB (bO v18) fun v19 =>
 pB (if v19 = true then
  oB (gt w16 0) fun _ =>
  oB (gt w16 0) fun v20 =>
  cB (ST.f__law_sign [v20, .d a1]) fun v21 w22 =>
  oB (OV.frz v21) fun v23 =>
  .ok ((gt w22 0), (.tuple [(.str "sign"), v23, (.tuple [a3])])) else
 oB (gt w16 0) fun _ =>
 oB (lenD a1) fun v24 =>
 oB (gt w16 0) fun v25 =>
 cB (SH.f__law_take [v25, .d v24]) fun v26 w27 =>
 oB (OV.frz v26) fun v28 =>
 oB (ixD a1 v28) fun v29 =>
 .ok ((gt w27 0), (.tuple [(.str "shut"), v29, a3]))) fun s30 =>
 .ok (s30.1, s30.2)
end SU
end
section
set_option maxRecDepth 100000
set_option maxHeartbeats 0
set_option exponentiation.threshold 3000
namespace ST
open PySem PySem.Spec PyProof.Rows L2 DL SH SU
theorem erase_map {α β : Type} (f : α → β) : ∀ (l : List α) (i : Nat), (l.map f).eraseIdx i = (l.eraseIdx i).map f
  | [], _ => rfl
  | _ :: _, 0 => rfl
  | a :: l, i + 1 => by rw [List.map_cons, List.eraseIdx_cons_succ, List.eraseIdx_cons_succ, List.map_cons, erase_map f l i]
theorem pop_str {hs : List Str} {r : Int} (h0 : 0 ≤ r) (h1 : r < hs.length) (hl : hs.length ≤ 1000) : ∃ s hs', s ∈ hs ∧ (s :: hs').Perm hs ∧ popD (hs.map .str) [.int r] = some (hs'.map .str, .str s) := by
  have hi : r.toNat < hs.length := by omega
  refine ⟨hs[r.toNat], hs.eraseIdx r.toNat, List.getElem_mem _, cut_perm hs r.toNat hi, ?_⟩
  have hb : -(2 ^ 63) ≤ r ∧ r < 2 ^ 63 := by omega
  have sq : seqIndex? r (hs.map PyData.str).length = some r.toNat := by
    unfold seqIndex?
    rw [List.length_map]
    have : ¬ r < 0 := by omega
    simp only [this, if_false]
    simp [h0, h1]
  have g : (hs.map PyData.str)[r.toNat]? = some (.str hs[r.toNat]) := by simp [hi]
  simp only [popD, hb, if_pos, sq, Option.bind_some, g, Option.map_some, and_self, if_true]
  rw [erase_map]
def OfT (l hs : List Str) : Nat → Tm → Prop
  | 0, _ => False
  | _ + 1, .nm s => s ∈ l
  | _ + 1, .hole t x => Turn t ∧ t.length ≤ 6 ∧ (∀ s ∈ keys t, s ∈ l) ∧ x ∈ hs
  | n + 1, .shut a b => a ∈ l ∧ OfT l hs n b
  | n + 1, .sign a ts => NmS a ∧ ts.length ≤ 6 ∧ ∀ b ∈ ts, OfT l hs n b
theorem OfT.up {l hs : List Str} {n : Nat} : ∀ {t : Tm}, OfT l hs n t → OfT l hs (n + 1) t := by
  induction n with
  | zero => intro t h; exact h.elim
  | succ n ih =>
    intro t h
    cases t with
    | nm s => exact h
    | hole t x => exact h
    | shut a b => exact ⟨h.1, ih h.2⟩
    | sign a ts => exact ⟨h.1, h.2.1, fun b hb => ih (h.2.2 b hb)⟩
theorem OfT.lift {l hs : List Str} {n : Nat} {t : Tm} (h : OfT l hs n t) : ∀ k, OfT l hs (n + k) t
  | 0 => h
  | k + 1 => (OfT.lift h k).up
theorem OfT.to {l hs : List Str} {n m : Nat} {t : Tm} (h : OfT l hs n t) (hm : n ≤ m) : OfT l hs m t := by
  have := h.lift (m - n)
  rwa [show n + (m - n) = m by omega] at this
theorem OfT.of {l hs hs' : List Str} (hh : ∀ s ∈ hs', s ∈ hs) {n : Nat} : ∀ {t : Tm}, OfT l hs' n t → OfT l hs n t := by
  induction n with
  | zero => intro t h; exact h.elim
  | succ n ih =>
    intro t h
    cases t with
    | nm s => exact h
    | hole t x => exact ⟨h.1, h.2.1, h.2.2.1, hh _ h.2.2.2⟩
    | shut a b => exact ⟨h.1, ih h.2⟩
    | sign a ts => exact ⟨h.1, h.2.1, fun b hb => ih (h.2.2 b hb)⟩
theorem OfT.ok {l hs : List Str} (hl : ∀ s ∈ l, NmS s) (hh : ∀ s ∈ hs, HlS s) {n : Nat} : ∀ {t : Tm}, OfT l hs n t → OkT n t := by
  induction n with
  | zero => intro t h; exact h.elim
  | succ n ih =>
    intro t h
    cases t with
    | nm s => exact hl s h
    | hole t x => exact ⟨h.1, h.2.1, hh x h.2.2.2⟩
    | shut a b => exact ⟨hl a h.1, ih h.2⟩
    | sign a ts => exact ⟨h.1, h.2.1, fun b hb => ih (h.2.2 b hb)⟩
def Few (k : Nat) (t : Tm) : Prop := ∀ m, (everyP m t).length ≤ k
theorem Few.up {k j : Nat} {t : Tm} (h : Few k t) (hk : k ≤ j) : Few j t := fun m => Nat.le_trans (h m) hk
theorem few_leaf {t : Tm} (h : innerT t = []) : Few 1 t := fun m => by
  cases m with
  | zero => exact Nat.zero_le _
  | succ m => show (t :: (innerT t).flatMap (everyP m)).length ≤ 1; rw [h]; simp
theorem few_sum {k m : Nat} : ∀ {ts : List Tm}, (∀ b ∈ ts, Few k b) → (ts.flatMap (everyP m)).length ≤ ts.length * k
  | [], _ => by simp
  | b :: ts, h => by
    rw [List.flatMap_cons, List.length_append, List.length_cons, Nat.add_mul, Nat.one_mul]
    have h1 := h b List.mem_cons_self m
    have h2 := few_sum (m := m) fun c hc => h c (List.mem_cons_of_mem _ hc)
    omega
theorem few_in {k j : Nat} {t : Tm} (h : ∀ b ∈ innerT t, Few k b) (hj : (innerT t).length ≤ j) : Few (1 + j * k) t := fun m => by
  cases m with
  | zero => exact Nat.zero_le _
  | succ m =>
    show (t :: (innerT t).flatMap (everyP m)).length ≤ _
    rw [List.length_cons]
    have := few_sum (m := m) h
    have := Nat.mul_le_mul_right k hj
    omega
def bd : Nat → Nat
  | 0 => 1
  | d + 1 => 1 + 3 * bd d
theorem bd_pos (d : Nat) : 1 ≤ bd d := by cases d with
  | zero => exact Nat.le_refl _
  | succ d => show 1 ≤ 1 + _; omega
theorem ne_nil (hs : List Str) (hh : ∀ s ∈ hs, PyData.strOk s = true) : neD (.list (hs.map .str)) (.list []) = some (.bool (!decide (hs = []))) := ne_strs (b := []) hh (fun _ h => by cases h)
theorem six_of {r : Int} (h0 : 0 ≤ r) (h1 : r < 6) : ∃ m : Nat, m ≤ 3 ∧ ixD (.list [.int 0, .int 1, .int 2, .int 2, .int 3, .int 3]) (.int r) = some (.int (m : Nat)) := by
  have : r = 0 ∨ r = 1 ∨ r = 2 ∨ r = 3 ∨ r = 4 ∨ r = 5 := by omega
  rcases this with rfl | rfl | rfl | rfl | rfl | rfl
  · exact ⟨0, by omega, rfl⟩
  · exact ⟨1, by omega, rfl⟩
  · exact ⟨2, by omega, rfl⟩
  · exact ⟨2, by omega, rfl⟩
  · exact ⟨3, by omega, rfl⟩
  · exact ⟨3, by omega, rfl⟩
structure Drawn (l hs : List Str) (lv cnt B : Nat) (t : Tm) (p' : List D) (hs' : List Str) : Prop where
  of : OfT l hs lv t
  few : Few cnt t
  sub : ∀ s ∈ hs', s ∈ hs
  len : hs'.length ≤ hs.length
  pile : Pile B p'
def TermOk (d : Nat) : Prop := ∀ (n : Nat), d < n → ∀ {B : Nat}, B + 40 * bd d < 2 ^ 46 → ∀ {p : List D}, Pile B p → ∀ {l : List Str}, Names 6 l → 1 ≤ l.length → ∀ {hs : List Str}, hs.length ≤ 100 → (∀ s ∈ hs, HlS s) → ∃ t p' hs', Drawn l hs (d + 1) (bd d) (B + 40 * bd d) t p' hs' ∧ f__law_term n [.lst p, .d (.list (l.map .str)), .lst (hs.map .str), .d (.int (d : Nat))] = .ok (.d (tmD t)) [some (.lst p'), some (.d (.list (l.map .str))), some (.lst (hs'.map .str)), some (.d (.int (d : Nat)))]
theorem hole_len {l : List Str} (n : Names 6 l) {t : PL} (T : Turn t) (h : ∀ s ∈ keys t, s ∈ l) : t.length ≤ 6 := n.fit T h
theorem term_step (d : Nat) (hd : d ≤ 3) (ih : ∀ e, d = e + 1 → TermOk e) : TermOk d := by
  intro n hn B hB p hp l nl l1 hs hl hh
  cases n with
  | zero => omega
  | succ n =>
    have b1 := bd_pos d
    have big := size_big
    have l6 := nl.len
    obtain ⟨kd, p1, k0, k1, hp1, e1⟩ := take_ok (by omega) hp 10 (by omega) (by omega)
    have x1 : h1__law_term (.int (d : Nat)) (.int kd) = .ok (.bool (decide (d = 0) || decide (kd = 0))) := by
      by_cases h : d = 0
      · subst h; simp [h1__law_term, eq_i]
      · have h' : ¬ (d : Int) = 0 := by omega
        simp [h1__law_term, eq_i, h, h']
    obtain ⟨b, p2, hp2, hb, x2⟩ : ∃ b p2, Pile (B + 2) p2 ∧ (b = true → hs ≠ []) ∧ h2__law_term (some (.lst p1)) (some (.lst (hs.map .str))) (.bool (decide (d = 0) || decide (kd = 0))) = .ok (b, some (.lst p2)) := by
      have ne := ne_nil hs fun s hs => (hh s hs).fit.ok
      cases (decide (d = 0) || decide (kd = 0)) with
      | false => exact ⟨false, p1, hp1.up (by omega), fun z => (by cases z), by simp [h2__law_term]⟩
      | true =>
        by_cases he : hs = []
        · subst he
          exact ⟨false, p1, hp1.up (by omega), fun z => (by cases z), by rw [List.map_nil] at ne ⊢; simp [h2__law_term, ne]⟩
        · obtain ⟨r, p2, r0, r1, hp2, e2⟩ := take_ok (by omega) hp1 3 (by omega) (by omega)
          refine ⟨decide (0 < r), p2, hp2, fun _ => he, ?_⟩
          have g : gtD (.int r) (.int 0) = some (.bool (decide (0 < r))) := rfl
          generalize hs.map PyData.str = hh at *
          simp [h2__law_term, ne, he, e2, g]
    have ln := len_m PyData.str l
    rw [eq__law_term]
    cases b with
    | true =>
      have hb := hb rfl
      obtain ⟨u, p3, U, hu, hp3, e3⟩ := drawn_ok (by omega) hp2 nl l1 (by omega)
      have h0 : 0 < hs.length := List.length_pos_iff.mpr hb
      obtain ⟨r, p4, r0, r1, hp4, e4⟩ := take_ok (by omega) hp3 (hs.length : Nat) (by omega) (by omega)
      obtain ⟨x, hs', hx, pm, pp⟩ := pop_str r0 r1 (by omega)
      have pl := pm.length_eq
      rw [List.length_cons] at pl
      refine ⟨.hole u x, p4, hs', ⟨⟨U, hole_len nl U hu, hu, hx⟩, (few_leaf rfl).up b1, fun s h => pm.mem_iff.mp (List.mem_cons_of_mem _ h), by omega, hp4.up (by omega)⟩, ?_⟩
      have lh := len_m PyData.str hs
      rw [tmD]
      generalize hs.map PyData.str = hh at *
      generalize hs'.map PyData.str = hh' at *
      generalize l.map PyData.str = nn at *
      generalize tD u = uu at *
      simp [e1, x1, x2, e3, lh, e4, pp]
    | false =>
      cases hlf : (decide (d = 0) || decide (kd = 0)) with
      | true =>
        rw [hlf] at x1 x2
        obtain ⟨r, p3, r0, r1, hp3, e3⟩ := take_ok (by omega) hp2 (l.length : Nat) (by omega) (by omega)
        obtain ⟨s, hs1, i1⟩ := name_at r0 r1
        refine ⟨.nm s, p3, hs, ⟨hs1, (few_leaf rfl).up b1, fun _ h => h, Nat.le_refl _, hp3.up (by omega)⟩, ?_⟩
        rw [tmD]
        generalize hs.map PyData.str = hh at *
        generalize l.map PyData.str = nn at *
        simp [e1, x1, x2, ln, e3, i1]
      | false =>
        rw [hlf] at x1 x2
        have hd0 : ¬ d = 0 := fun z => by rw [z] at hlf; cases hlf
        obtain ⟨e, rfl⟩ : ∃ e, d = e + 1 := ⟨d - 1, by omega⟩
        have be : bd (e + 1) = 1 + 3 * bd e := rfl
        have b40 : bd e ≤ 13 := by
          have : e ≤ 2 := by omega
          rcases (by omega : e = 0 ∨ e = 1 ∨ e = 2) with rfl | rfl | rfl <;> decide
        have be1 := bd_pos e
        have sb : subD (.int ((e + 1 : Nat) : Int)) (.int 1) = some (.int (e : Nat)) := by rw [sub_i]; congr 2; omega
        by_cases h4 : kd < 4
        · obtain ⟨r, p3, r0, r1, hp3, e3⟩ := take_ok (by omega) hp2 (l.length : Nat) (by omega) (by omega)
          obtain ⟨s, hs1, i1⟩ := name_at r0 r1
          obtain ⟨t, p4, hs', q, e4⟩ := ih e rfl n (by omega) (by omega) hp3 nl l1 hl hh
          refine ⟨.shut s t, p4, hs', ⟨⟨hs1, q.of⟩, (few_in (k := bd e) (j := 1) (fun b hb => by rw [List.mem_singleton.mp hb]; exact q.few) (by simp [innerT])).up (by omega), q.sub, q.len, q.pile.up (by omega)⟩, ?_⟩
          have lt : ltD (.int kd) (.int 4) = some (.bool true) := by rw [lt_i]; simp [h4]
          rw [tmD]
          generalize hs.map PyData.str = hh at *
          generalize hs'.map PyData.str = hh' at *
          generalize l.map PyData.str = nn at *
          generalize tmD t = tt at *
          generalize ((e + 1 : Nat) : Int) = z at *
          simp [e1, x1, x2, ln, e3, i1, lt, sb, e4]
        · obtain ⟨r, p3, r0, r1, hp3, e3⟩ := take_ok (by omega) hp2 6 (by omega) (by omega)
          obtain ⟨m, m3, i1⟩ := six_of r0 r1
          have hr := range_ok m (by omega)
          obtain ⟨ts, s', e4, g1, g2, g3, g4, p4, hs', g5, g6, g7, g8⟩ := lcS_inv (pe := c3__law_term (f__law_term n) (.list (l.map .str)) (.int ((e + 1 : Nat) : Int))) (G := tmD) (xs := rangeL 0 m) (s := (some (.lst p3), some (.lst (hs.map .str))))
            (fun i ts s => ts.length = i ∧ (∀ b ∈ ts, OfT l hs (e + 1) b) ∧ (∀ b ∈ ts, Few (bd e) b) ∧ i ≤ m ∧ ∃ p4 hs', s = (some (.lst p4), some (.lst (hs'.map .str))) ∧ (∀ s ∈ hs', s ∈ hs) ∧ hs'.length ≤ hs.length ∧ Pile (B + 3 + i * (40 * bd e)) p4)
            ⟨rfl, (fun b hb => by cases hb), (fun b hb => by cases hb), Nat.zero_le _, p3, hs, rfl, fun _ h => h, Nat.le_refl _, by simpa using hp3⟩ fun i x ts s hx ⟨f1, f2, f3, f4, p4, hs', f5, f6, f7, f8⟩ => by
              subst f5
              obtain ⟨hi, rfl⟩ := range_at hx
              have : i * (40 * bd e) ≤ 2 * (40 * bd e) := Nat.mul_le_mul_right _ (by omega)
              obtain ⟨t, p5, hs2, q, e5⟩ := ih e rfl n (by omega) (by omega) f8 nl l1 (by omega) fun s h => hh s (f6 s h)
              refine ⟨t, (some (.lst p5), some (.lst (hs2.map .str))), ?_, by rw [List.length_append, f1]; rfl, ?_, ?_, by omega, p5, hs2, rfl, fun s h => f6 s (q.sub s h), Nat.le_trans q.len f7, q.pile.up (by rw [Nat.add_mul, Nat.one_mul]; omega)⟩
              · generalize ((e + 1 : Nat) : Int) = z at *
                simp [c3__law_term, sb, e5]
              · intro b hb
                rcases List.mem_append.mp hb with hb | hb
                · exact f2 b hb
                · rw [List.mem_singleton.mp hb]; exact q.of.of f6
              · intro b hb
                rcases List.mem_append.mp hb with hb | hb
                · exact f3 b hb
                · rw [List.mem_singleton.mp hb]; exact q.few
          subst g5
          rw [range_len] at g1 g4 g8
          have : m * (40 * bd e) ≤ 3 * (40 * bd e) := Nat.mul_le_mul_right _ m3
          obtain ⟨a, p5, na, hp5, e5⟩ := sign_ok (by omega) g8 nl.nm l1
          refine ⟨.sign a ts, p5, hs', ⟨⟨na, by omega, g2⟩, (few_in (t := .sign a ts) (k := bd e) (j := 3) g3 (by rw [innerT]; omega)).up (by omega), g6, g7, hp5.up (by omega)⟩, ?_⟩
          have lt : ltD (.int kd) (.int 4) = some (.bool false) := by rw [lt_i]; simp [h4]
          have tp : tupD (.list (ts.map tmD)) = some (.tuple (ts.map tmD)) := rfl
          rw [tmD, tmDs_map]
          generalize hs.map PyData.str = hh at *
          generalize hs'.map PyData.str = hh' at *
          generalize l.map PyData.str = nn at *
          generalize ts.map tmD = tt at *
          generalize ((e + 1 : Nat) : Int) = z at *
          simp [e1, x1, x2, e3, i1, lt, hr, e4, e5, tp]
theorem term_ok : ∀ d, d ≤ 3 → TermOk d
  | 0, h => term_step 0 h fun e z => by omega
  | d + 1, h => term_step (d + 1) h fun e z => by
    obtain rfl : d = e := by omega
    exact term_ok d (by omega)
end ST
end
section
set_option maxRecDepth 100000
set_option maxHeartbeats 0
set_option exponentiation.threshold 3000
namespace ST
open PySem PySem.Spec PyProof.Rows L2 DL SH SU
theorem wrap_ok {B : Nat} (hB : B < 2 ^ 46) {p : List D} (hp : Pile B p) {l hs : List Str} (nl : Names 6 l) (l1 : 1 ≤ l.length) {lv k : Nat} {t : Tm} (ht : OfT l hs lv t) (hk : Few k t) : ∃ t' p', OfT l hs (lv + 1) t' ∧ Few (k + 1) t' ∧ Pile (B + 3) p' ∧ h2__law_small (some (.lst p)) (.list (l.map .str)) (tmD t) = .ok (some (.lst p'), tmD t') := by
  have l6 := nl.len
  obtain ⟨r, p1, r0, r1, hp1, e1⟩ := take_ok (by omega) hp 3 (by omega) (by omega)
  have ln := len_m PyData.str l
  by_cases h : r = 0
  · obtain ⟨a, p2, na, hp2, e2⟩ := sign_ok (by omega) hp1 nl.nm l1
    refine ⟨.sign a [t], p2, ⟨na, by simp, fun b hb => by rw [List.mem_singleton.mp hb]; exact ht⟩, (few_in (t := .sign a [t]) (k := k) (j := 1) (fun b hb => by rw [List.mem_singleton.mp hb]; exact hk) (by simp [innerT])).up (by omega), hp2.up (by omega), ?_⟩
    rw [tmD, tmDs_map, List.map_cons, List.map_nil]
    generalize l.map PyData.str = nn at *
    generalize tmD t = tt at *
    simp [h2__law_small, e1, eq_i, h, e2]
  · obtain ⟨i, p2, i0, i1, hp2, e2⟩ := take_ok (by omega) hp1 (l.length : Nat) (by omega) (by omega)
    obtain ⟨a, ha, ix⟩ := name_at i0 i1
    refine ⟨.shut a t, p2, ⟨ha, ht⟩, (few_in (t := .shut a t) (k := k) (j := 1) (fun b hb => by rw [List.mem_singleton.mp hb]; exact hk) (by simp [innerT])).up (by omega), hp2.up (by omega), ?_⟩
    rw [tmD]
    generalize l.map PyData.str = nn at *
    generalize tmD t = tt at *
    simp [h2__law_small, e1, eq_i, h, ln, e2, ix]
theorem law_in_ok (t : Tm) : f__law_in [.d (tmD t)] = .ok (.lst ((innerT t).map tmD)) [some (.d (tmD t))] := by
  have ka := kind_at t
  rw [eq__law_in]
  cases t with
  | nm s => simp [ka, eq_s, innerT, show ¬ (("name" : Str) = "shut") by decide, show ¬ (("name" : Str) = "sign") by decide]
  | hole u x => simp [ka, eq_s, innerT, show ¬ (("hole" : Str) = "shut") by decide, show ¬ (("hole" : Str) = "sign") by decide]
  | shut a b =>
    have i2 : ixD (tmD (.shut a b)) (.int 2) = some (tmD b) := by rw [tmD]; rfl
    simp [ka, eq_s, innerT, i2]
  | sign a ts =>
    have i2 : ixD (tmD (.sign a ts)) (.int 2) = some (.tuple (ts.map tmD)) := by rw [tmD, tmDs_map]; rfl
    have li : listD (.tuple (ts.map tmD)) = some (ts.map tmD) := rfl
    simp [ka, eq_s, innerT, i2, li, show ¬ (("sign" : Str) = "shut") by decide]
end ST
end
section
set_option maxRecDepth 100000
set_option maxHeartbeats 0
set_option exponentiation.threshold 3000
namespace ST
open PySem PySem.Spec PyProof.Rows L2 DL SH SU
def Ly (n : Nat) (x : D) : Prop := x.canLay0 = true ∧ x.depth ≤ n
theorem Ly.up {n m : Nat} {x : D} (h : Ly n x) (hm : n ≤ m) : Ly m x := ⟨h.1, Nat.le_trans h.2 hm⟩
theorem Ly.tup {n : Nat} {xs : List D} (h : ∀ x ∈ xs, Ly n x) : Ly (n + 1) (.tuple xs) := lay_tup h
theorem Ly.lst {n : Nat} {xs : List D} (h : ∀ x ∈ xs, Ly n x) : Ly (n + 1) (.list xs) := by
  obtain ⟨a, b⟩ := lay_tup h
  exact ⟨by simpa only [PyData.canLay0] using a, by simpa only [PyData.depth] using b⟩
theorem ly_str {s : Str} (h : FitS s) (n : Nat) : Ly n (.str s) := str_lay h.ok n
theorem fitT_of {n : Nat} {xs : List D} (h20 : xs.length ≤ 20) (hm : ∀ y ∈ xs, FitM y) (h3 : ∀ k b c, xs = [.str k, b, c] → (k = "hole" → Fit b) ∧ (k = "shut" → FitT n c) ∧ (k = "sign" → (partsT c).length ≤ 20 ∧ ∀ y ∈ partsT c, FitT n y)) : FitT (n + 1) (.tuple xs) :=
  ⟨trivial, h20, hm, fun k b c e => h3 k b c (by injection e)⟩
theorem fitT_str {n : Nat} {s : Str} (h : FitS s) : FitT (n + 1) (.str s) := ⟨h, by simp [partsT], fun y hy => (by cases hy), fun k b c e => (by cases e)⟩
def argsT : Tm → List D
  | .nm s => [.str s]
  | .hole t x => [tD t, .str x]
  | .shut a b => [.str a, tmD b]
  | .sign a ts => [.str a, .tuple (ts.map tmD)]
def wordT : Tm → Str
  | .nm _ => "name"
  | .hole _ _ => "hole"
  | .shut _ _ => "shut"
  | .sign _ _ => "sign"
theorem tm_args (t : Tm) : tmD t = .tuple (.str (wordT t) :: argsT t) := by
  cases t <;> rw [tmD]
  · rfl
  · rfl
  · rfl
  · rw [tmDs_map]; rfl
section
variable {n : Nat} {t : Tm}
theorem OkT.ly (h : OkT n t) : Ly (2 * n + 2) (tmD t) := h.lay
structure Odd (x : D) : Prop where
  m : FitM x
  f : Fit x
  len : (partsT x).length ≤ 20
  t : ∀ k, FitT (k + 1) x
  p : ∀ y ∈ partsT x, ∀ k, FitT (k + 1) y
theorem odd_no {x : D} (h2 : partsT x = []) (h3 : FitM x) (h4 : Fit x) : Odd x := ⟨h3, h4, by rw [h2]; simp, fun k => ⟨h3, by rw [h2]; simp, by rw [h2]; exact fun y hy => (by cases hy), fun w b c e => by rw [e] at h2; cases h2⟩, by rw [h2]; exact fun y hy => (by cases hy)⟩
theorem odd_of {x : D} (h : x ∈ words.map PyData.str ++ others) : Odd x := by
  rcases List.mem_append.mp h with h | h
  · obtain ⟨s, hs, rfl⟩ := List.mem_map.mp h
    exact odd_no rfl (words_fit s hs).1 trivial
  · have fa : FitS "a" := fitS_of (by decide +kernel)
    simp [others] at h
    rcases h with rfl | rfl | rfl | rfl | rfl | rfl | rfl | rfl
    · exact odd_no rfl trivial trivial
    · exact odd_no rfl trivial trivial
    · exact odd_no rfl trivial trivial
    · exact odd_no rfl trivial trivial
    · refine ⟨trivial, ⟨by simp, fun y hy => ?_⟩, by simp [partsT], fun k => fitT_of (by simp) (fun y hy => ?_) fun w b c e => ?_, fun y hy k => ?_⟩
      · rw [List.mem_singleton.mp hy]; trivial
      · rw [List.mem_singleton.mp hy]; exact fa
      · cases e
      · rw [List.mem_singleton.mp (show y ∈ [PyData.str "a"] from hy)]; exact fitT_str fa
    · exact odd_no rfl trivial trivial
    · exact odd_no rfl rfl rfl
    · refine ⟨trivial, ⟨by simp, fun y hy => ?_⟩, by simp [partsT], fun k => fitT_of (by simp) (fun y hy => ?_) fun w b c e => ?_, fun y hy k => ?_⟩
      · cases hy
      · cases hy
      · cases e
      · cases hy
end
end ST
end
section
set_option maxRecDepth 100000
set_option maxHeartbeats 0
set_option exponentiation.threshold 3000
namespace ST
open PySem PySem.Spec PyProof.Rows L2 DL SH SU
def LeT (u t : Tm) : Prop := ∀ m, (everyP m u).length ≤ (everyP m t).length
theorem LeT.refl (t : Tm) : LeT t t := fun _ => Nat.le_refl _
theorem LeT.shut {u t : Tm} {a b : Str} (h : LeT u t) : LeT (.shut a u) (.shut b t) := fun m => by
  cases m with
  | zero => exact Nat.le_refl _
  | succ m =>
    show (_ :: ([u] : List Tm).flatMap (everyP m)).length ≤ (_ :: ([t] : List Tm).flatMap (everyP m)).length
    have := h m
    simp
    exact this
theorem set_le {u : Tm} {m : Nat} : ∀ {ts : List Tm} {r : Nat} (hr : r < ts.length), (everyP m u).length ≤ (everyP m ts[r]).length → ((ts.set r u).flatMap (everyP m)).length ≤ (ts.flatMap (everyP m)).length
  | [], r, hr, _ => by simp at hr
  | t :: ts, 0, _, h => by
    simp only [List.set_cons_zero, List.flatMap_cons, List.length_append]
    simp only [List.getElem_cons_zero] at h
    omega
  | t :: ts, r + 1, hr, h => by
    simp only [List.set_cons_succ, List.flatMap_cons, List.length_append]
    have := set_le (u := u) (m := m) (ts := ts) (r := r) (by simpa using hr) (by simpa using h)
    omega
theorem LeT.sign {u : Tm} {ts : List Tm} {r : Nat} (hr : r < ts.length) (h : LeT u ts[r]) {a b : Str} : LeT (.sign a (ts.set r u)) (.sign b ts) := fun m => by
  cases m with
  | zero => exact Nat.le_refl _
  | succ m =>
    show (_ :: (ts.set r u).flatMap (everyP m)).length ≤ (_ :: ts.flatMap (everyP m)).length
    rw [List.length_cons, List.length_cons]
    exact Nat.succ_le_succ (set_le hr (h m))
def StayT (n : Nat) (t : Tm) (x : D) : Prop := ∀ k, termN k x = true → ∃ u, x = tmD u ∧ OkT n u ∧ LeT u t
theorem term3 (n : Nat) (k : Str) (a b : D) : termN (n + 1) (.tuple [.str k, a, b]) = if k = "hole" then turnB a && hlB b else if k = "shut" then nmB a && termN n b else decide (k = "sign") && (nmB a && match b with
      | .tuple ys => ys.all (termN n)
      | _ => false) := rfl
theorem dsh : ¬ (("shut" : Str) = "hole") ∧ ¬ (("sign" : Str) = "hole") ∧ ¬ (("sign" : Str) = "shut") ∧ ¬ (("hole" : Str) = "shut") ∧ ¬ (("hole" : Str) = "sign") ∧ ¬ (("shut" : Str) = "sign") ∧ ¬ (("hole" : Str) = "name") ∧ ¬ (("shut" : Str) = "name") ∧ ¬ (("sign" : Str) = "name") := by decide
section
variable {n : Nat} {t : Tm}
theorem odd_term {x : D} (h : x ∈ words.map PyData.str ++ others) (k : Nat) : termN k x = false := by
  cases k with
  | zero => rfl
  | succ k =>
    rcases List.mem_append.mp h with h | h
    · obtain ⟨s, hs, rfl⟩ := List.mem_map.mp h
      rfl
    · simp [others] at h
      rcases h with rfl | rfl | rfl | rfl | rfl | rfl | rfl | rfl <;> rfl
theorem map_set' {α β : Type} (f : α → β) : ∀ (l : List α) (i : Nat) (a : α), (l.set i a).map f = (l.map f).set i (f a)
  | [], _, _ => rfl
  | _ :: _, 0, _ => rfl
  | b :: l, i + 1, a => by rw [List.set_cons_succ, List.map_cons, List.map_cons, List.set_cons_succ, map_set' f l i a]
end
end ST
end
section
set_option maxRecDepth 100000
set_option maxHeartbeats 0
set_option exponentiation.threshold 3000
namespace ST
open PySem PySem.Spec PyProof.Rows L2 DL SH SU
section
variable (t : Tm)
theorem tm_ix0 : ixD (tmD t) (.int 0) = some (.str (wordT t)) := by rw [tm_args]; cases t <;> rfl
end
structure Bent (lv : Nat) (t : Tm) (o : OV) (x : D) : Prop where
  frz : o.frz = some x
  fit : ∀ k, FitT (lv + 2 + k) x
  stay : StayT (lv + 1) t x
end ST
end
section
set_option maxRecDepth 100000
set_option maxHeartbeats 0
namespace SV
open PySem PySem.Spec PyProof.Rows L2 DL
noncomputable def m_with_inner : M Fl := (sSeq (mIf (mB (mBin eqD (mBin ixD (mVar 0) (mC (.int 0))) (mC (.str "shut")))) (sRet (mD (mTup (mCons (mC (.str "shut")) (mCons (mBin ixD (mVar 0) (mC (.int 1))) (mCons (mBin ixD (mVar 1) (mC (.int 0))) mNil)))))) sNil) (sSeq (mIf (mB (mBin eqD (mBin ixD (mVar 0) (mC (.int 0))) (mC (.str "sign")))) (sRet (mD (mTup (mCons (mC (.str "sign")) (mCons (mBin ixD (mVar 0) (mC (.int 1))) (mCons (mF1 tupD (mVar 1)) mNil)))))) sNil) (sRet (mD (mVar 0)))))
noncomputable def f_with_inner : Fn := fnOf 2 2 [] m_with_inner
theorem eq_with_inner (x0 : D) (x1 : D) : f_with_inner [.d x0, .d x1] =
 oB (ixD x0 (.int 0)) fun v1 =>
 oB (eqD v1 (.str "shut")) fun v2 =>
 oB (bO v2) fun v3 =>
 if v3 = true then
  oB (ixD x0 (.int 1)) fun v4 =>
  oB (ixD x1 (.int 0)) fun v5 =>
  .ok (.d (.tuple [(.str "shut"), v4, v5])) [some (.d x0), some (.d x1)] else
 oB (ixD x0 (.int 0)) fun v6 =>
 oB (eqD v6 (.str "sign")) fun v7 =>
 oB (bO v7) fun v8 =>
 if v8 = true then
  oB (ixD x0 (.int 1)) fun v9 =>
  oB (tupD x1) fun v10 =>
  .ok (.d (.tuple [(.str "sign"), v9, v10])) [some (.d x0), some (.d x1)] else
 .ok (.d x0) [some (.d x0), some (.d x1)] := by
  refine (fn_eq (m := m_with_inner) (ρ := [some (.d x0), some (.d x1)]) rfl rfl).trans ?_
  have oe : ∀ ρ : DL.Env, outsOf [] ρ 0 [.d x0, .d x1] = [some (.d x0), some (.d x1)] := fun _ => rfl
  simp (maxSteps := 2000000) only [m_with_inner, RB, Nat.reduceAdd, Nat.reduceBEq, oe]
noncomputable abbrev e1_led (R : Fn) : M D := (mFrz (mCall R (gD (mVar 0) (gD (mVar 3) gNil))))
noncomputable def m_led (R : Fn) : M Fl := (sSeq (mIf (mB (mBin eqD (mBin ixD (mVar 1) (mC (.int 0))) (mC (.str "name")))) (sRet (mD (mTup (mCons (mC (.str "name")) (mCons (mFrz (mCall SH.f_led_name (gD (mVar 0) (gD (mBin ixD (mVar 1) (mC (.int 1))) gNil)))) mNil))))) sNil) (sSeq (mIf (mB (mBin eqD (mBin ixD (mVar 1) (mC (.int 0))) (mC (.str "hole")))) (sRet (mD (mTup (mCons (mC (.str "hole")) (mCons (mFrz (mCall SH.f_both_turns (gD (mBin ixD (mVar 1) (mC (.int 1))) (gD (mVar 0) gNil)))) (mCons (mBin ixD (mVar 1) (mC (.int 2))) mNil)))))) sNil) (sSeq (sSet 2 (mLstF (mLc [3] (mItems (mFrz (mCall ST.f_inner (gD (mVar 1) gNil)))) (tName 3) mYes (e1_led R)))) (sSeq (mIf (mB (mBin eqD (mBin ixD (mVar 1) (mC (.int 0))) (mC (.str "shut")))) (sRet (mD (mTup (mCons (mC (.str "shut")) (mCons (mFrz (mCall SH.f_led_name (gD (mVar 0) (gD (mBin ixD (mVar 1) (mC (.int 1))) gNil)))) (mCons (mBin ixD (mVar 2) (mC (.int 0))) mNil)))))) sNil) (sRet (mCall SV.f_with_inner (gD (mVar 1) (gD (mVar 2) gNil))))))))
noncomputable def f_led : Nat → Fn
  | 0 => fun _ => .bad
  | n + 1 => fnOf 4 2 [] (m_led (f_led n))
noncomputable def c1_led (R : Fn) (a0 : D) (x : D) : Pr (Option D) :=
 cB (R [.d a0, .d x]) fun v20 w21 =>
 oB (OV.frz v20) fun v22 =>
 .ok (some v22)
theorem r1_led {T : Type} [Tg T] (R : Fn) (a0 : D) (a1 : Option OV) (u2 : Option OV) (xs : List D) (k : List D → DL.Env → T) (h : Exc → DL.Env → T) : rB (lcGo [3] (tName 3) mYes (e1_led R) xs [some (.d a0), a1, u2, none]) k h = nB (lcP (c1_led R a0) xs) fun ys => k ys [some (.d a0), a1, u2, none] :=
  lc_rB (ρ := [some (.d a0), a1, u2, none]) (pe := (c1_led R a0)) (fun x => by unfold lst1; simp (maxSteps := 2000000) only [c1_led, e1_led, RB, Nat.reduceAdd, Nat.reduceBEq]) xs k h
theorem eq_led (n : Nat) (x0 : D) (x1 : D) : f_led (n + 1) [.d x0, .d x1] =
 oB (ixD x1 (.int 0)) fun v1 =>
 oB (eqD v1 (.str "name")) fun v2 =>
 oB (bO v2) fun v3 =>
 if v3 = true then
  oB (ixD x1 (.int 1)) fun v4 =>
  cB (SH.f_led_name [.d x0, .d v4]) fun v5 w6 =>
  oB (OV.frz v5) fun v7 =>
  .ok (.d (.tuple [(.str "name"), v7])) [some (.d x0), some (.d x1)] else
 oB (ixD x1 (.int 0)) fun v8 =>
 oB (eqD v8 (.str "hole")) fun v9 =>
 oB (bO v9) fun v10 =>
 if v10 = true then
  oB (ixD x1 (.int 1)) fun v11 =>
  cB (SH.f_both_turns [.d v11, .d x0]) fun v12 w13 =>
  oB (OV.frz v12) fun v14 =>
  oB (ixD x1 (.int 2)) fun v15 =>
  .ok (.d (.tuple [(.str "hole"), v14, v15])) [some (.d x0), some (.d x1)] else
 cB (ST.f_inner [.d x1]) fun v16 w17 =>
 oB (OV.frz v16) fun v18 =>
 oB (itemsD v18) fun v19 =>
 nB (lcP (c1_led (f_led n) x0) v19) fun v23 =>
 oB (ixD x1 (.int 0)) fun v24 =>
 oB (eqD v24 (.str "shut")) fun v25 =>
 oB (bO v25) fun v26 =>
 if v26 = true then
  oB (ixD x1 (.int 1)) fun v27 =>
  cB (SH.f_led_name [.d x0, .d v27]) fun v28 w29 =>
  oB (OV.frz v28) fun v30 =>
  oB (ixD (.list v23) (.int 0)) fun v31 =>
  .ok (.d (.tuple [(.str "shut"), v30, v31])) [some (.d x0), some (.d x1)] else
 cB (SV.f_with_inner [.d x1, .d (.list v23)]) fun v32 w33 =>
 .ok v32 [some (.d x0), some (.d x1)] := by
  refine (fn_eq (m := (m_led (f_led n))) (ρ := [some (.d x0), some (.d x1), none, none]) rfl rfl).trans ?_
  have oe : ∀ ρ : DL.Env, outsOf [] ρ 0 [.d x0, .d x1] = [some (.d x0), some (.d x1)] := fun _ => rfl
  simp (maxSteps := 2000000) only [m_led, e1_led, RB, Nat.reduceAdd, Nat.reduceBEq, r1_led, oe]
end SV
end
section
set_option maxRecDepth 100000
set_option maxHeartbeats 0
set_option exponentiation.threshold 3000
namespace ST
open PySem PySem.Spec PyProof.Rows L2 DL SH SU SV
mutual
def ledT (u : PL) : Tm → Tm
  | .nm s => .nm (ledP u s)
  | .hole t x => .hole (both t u) x
  | .shut a b => .shut (ledP u a) (ledT u b)
  | .sign a ts => .sign a (ledTs u ts)
def ledTs (u : PL) : List Tm → List Tm
  | [] => []
  | t :: ts => ledT u t :: ledTs u ts
end
theorem ledTs_map (u : PL) : ∀ ts : List Tm, ledTs u ts = ts.map (ledT u)
  | [] => by rw [ledTs]; rfl
  | t :: ts => by rw [ledTs, ledTs_map u ts]; rfl
theorem led_sign (u : PL) (a : Str) (ts : List Tm) : ledT u (.sign a ts) = .sign a (ts.map (ledT u)) := by rw [ledT, ledTs_map]
theorem led_shut (u : PL) (a : Str) (b : Tm) : ledT u (.shut a b) = .shut (ledP u a) (ledT u b) := by rw [ledT]
theorem led_hole (u t : PL) (x : Str) : ledT u (.hole t x) = .hole (both t u) x := by rw [ledT]
theorem led_nm (u : PL) (s : Str) : ledT u (.nm s) = .nm (ledP u s) := by rw [ledT]
theorem led_in {l : List Str} {u : PL} (U : Turn u) (hu : ∀ s ∈ keys u, s ∈ l) {s : Str} (hs : s ∈ l) : ledP u s ∈ l := by
  by_cases h : s ∈ keys u
  · exact hu _ (U.led_key h)
  · rw [ledP_out h]; exact hs
theorem both_keys {l : List Str} {t u : PL} (ht : ∀ s ∈ keys t, s ∈ l) (hu : ∀ s ∈ keys u, s ∈ l) : ∀ s ∈ keys (both t u), s ∈ l := fun s hs => by
  have := (mem_keysMk.mp hs).1
  rcases List.mem_append.mp this with h | h
  · exact ht s h
  · exact hu s h
theorem OfT.led {l hs : List Str} (nl : Names 6 l) {u : PL} (U : Turn u) (hu : ∀ s ∈ keys u, s ∈ l) {n : Nat} : ∀ {t : Tm}, OfT l hs n t → OfT l hs n (ledT u t) := by
  induction n with
  | zero => intro t h; exact h.elim
  | succ n ih =>
    intro t h
    cases t with
    | nm s => rw [led_nm]; exact led_in U hu h
    | hole t x =>
      rw [led_hole]
      have T := h.1.both U
      have k := both_keys h.2.2.1 hu
      exact ⟨T, nl.fit T k, k, h.2.2.2⟩
    | shut a b => rw [led_shut]; exact ⟨led_in U hu h.1, ih h.2⟩
    | sign a ts =>
      rw [led_sign]
      refine ⟨h.1, by rw [List.length_map]; exact h.2.1, fun b hb => ?_⟩
      obtain ⟨c, hc, rfl⟩ := List.mem_map.mp hb
      exact ih (h.2.2 c hc)
theorem kind_is (t : Tm) : ixD (tmD t) (.int 0) = some (.str (wordT t)) := tm_ix0 t
theorem word_ne : ¬ (("hole" : Str) = "name") ∧ ¬ (("shut" : Str) = "name") ∧ ¬ (("shut" : Str) = "hole") ∧ ¬ (("sign" : Str) = "name") ∧ ¬ (("sign" : Str) = "hole") ∧ ¬ (("sign" : Str) = "shut") := by decide
theorem with_sign {a : Str} {ts : List Tm} (l : List D) : f_with_inner [.d (tmD (.sign a ts)), .d (.list l)] = .ok (.d (.tuple [.str "sign", .str a, .tuple l])) [some (.d (tmD (.sign a ts))), some (.d (.list l))] := by
  have k := kind_is (.sign a ts)
  have w : wordT (.sign a ts) = "sign" := rfl
  rw [w] at k
  have i1 : ixD (tmD (.sign a ts)) (.int 1) = some (.str a) := by rw [tmD]; rfl
  have tp : tupD (.list l) = some (.tuple l) := rfl
  rw [eq_with_inner]
  generalize tmD (.sign a ts) = x at *
  simp [k, eq_s, word_ne, i1, tp]
theorem led_ok {l hs : List Str} (nl : Names 6 l) {u : PL} (U : Turn u) (hu : ∀ s ∈ keys u, s ∈ l) : ∀ (n : Nat) {t : Tm}, OfT l hs n t → f_led n [.d (tD u), .d (tmD t)] = .ok (.d (tmD (ledT u t))) [some (.d (tD u)), some (.d (tmD t))]
  | 0, t, h => h.elim
  | n + 1, t, h => by
    have k := kind_is t
    have ul := nl.fit U hu
    have inn := inner_ok t
    rw [eq_led]
    cases t with
    | nm s =>
      have i1 : ixD (tmD (.nm s)) (.int 1) = some (.str s) := by rw [tmD]; rfl
      have ld := led_t U.nm s
      rw [led_nm, show tmD (.nm (ledP u s)) = .tuple [.str "name", .str (ledP u s)] by rw [tmD]]
      generalize tmD (.nm s) = tt at *
      generalize tD u = uu at *
      simp [k, wordT, eq_s, i1, ld]
    | hole v x =>
      have i1 : ixD (tmD (.hole v x)) (.int 1) = some (tD v) := by rw [tmD]; rfl
      have i2 : ixD (tmD (.hole v x)) (.int 2) = some (.str x) := by rw [tmD]; rfl
      have b := both_ok h.1.nm U.nm (by have := h.2.1; omega)
      rw [led_hole]
      rw [show tmD (.hole (both v u) x) = .tuple [.str "hole", tD (both v u), .str x] by rw [tmD]]
      generalize tmD (.hole v x) = tt at *
      generalize tD u = uu at *
      generalize tD v = vv at *
      generalize tD (both v u) = bb at *
      simp [k, wordT, eq_s, word_ne, i1, i2, b]
    | shut a b =>
      have i1 : ixD (tmD (.shut a b)) (.int 1) = some (.str a) := by rw [tmD]; rfl
      have ih := led_ok nl U hu n h.2
      have ld := led_t U.nm a
      have lc := lcP_map (pe := c1_led (f_led n) (tD u)) (f := tmD) (g := fun t => tmD (ledT u t)) (l := innerT (.shut a b)) fun c hc => by
        rw [List.mem_singleton.mp hc]
        simp [c1_led, ih]
      have it : itemsD (.tuple ((innerT (.shut a b)).map tmD)) = some ((innerT (.shut a b)).map tmD) := rfl
      have ix : ixD (.list ((innerT (.shut a b)).map fun t => tmD (ledT u t))) (.int 0) = some (tmD (ledT u b)) := rfl
      rw [led_shut]
      rw [show tmD (.shut (ledP u a) (ledT u b)) = .tuple [.str "shut", .str (ledP u a), tmD (ledT u b)] by rw [tmD]]
      generalize ((innerT (.shut a b)).map fun t => tmD (ledT u t)) = y1 at *
      generalize (innerT (.shut a b)).map tmD = y2 at *
      generalize tmD (.shut a b) = tt at *
      generalize tD u = uu at *
      generalize tmD (ledT u b) = bb at *
      simp [k, wordT, eq_s, word_ne, i1, inn, it, lc, ld, ix]
    | sign a ts =>
      have lc := lcP_map (pe := c1_led (f_led n) (tD u)) (f := tmD) (g := fun t => tmD (ledT u t)) (l := innerT (.sign a ts)) fun c hc => by
        have ih := led_ok nl U hu n (h.2.2 c hc)
        simp [c1_led, ih]
      have it : itemsD (.tuple ((innerT (.sign a ts)).map tmD)) = some ((innerT (.sign a ts)).map tmD) := rfl
      have ws := with_sign (a := a) (ts := ts) ((innerT (.sign a ts)).map fun t => tmD (ledT u t))
      rw [led_sign]
      rw [show tmD (.sign a (ts.map (ledT u))) = .tuple [.str "sign", .str a, .tuple ((innerT (.sign a ts)).map fun t => tmD (ledT u t))] by rw [tmD, tmDs_map, List.map_map]; rfl]
      generalize ((innerT (.sign a ts)).map fun t => tmD (ledT u t)) = y1 at *
      generalize (innerT (.sign a ts)).map tmD = y2 at *
      generalize tmD (.sign a ts) = tt at *
      generalize tD u = uu at *
      simp [k, wordT, eq_s, word_ne, inn, it, lc, ws]
theorem ne_same {x : D} {n : Nat} (h : Ly n x) (hn : n ≤ 60) : neD x x = some (.bool false) ∧ eqD x x = some (.bool true) := by
  have sh : SeqAt.shaped x = true := by
    unfold SeqAt.shaped
    rw [h.1, Bool.true_and, decide_eq_true_eq]
    have := h.2
    omega
  have e : PyData.eqv x x = true := PySem.SeqAt.eqv_refl x h.1
  have k1 : (∃ s, x = .str s) ∨ (neD x x = if SeqAt.shaped x = true ∧ SeqAt.shaped x = true then some (.bool (!PyData.eqv x x)) else none) ∧ eqD x x = if SeqAt.shaped x = true ∧ SeqAt.shaped x = true then some (.bool (PyData.eqv x x)) else none := by
    cases x with
    | str s => exact .inl ⟨s, rfl⟩
    | list xs => cases xs <;> exact .inr ⟨rfl, rfl⟩
    | _ => exact .inr ⟨rfl, rfl⟩
  rcases k1 with ⟨s, rfl⟩ | ⟨k1, k2⟩
  · rw [ne_s, eq_s, decide_eq_true rfl]; exact ⟨rfl, rfl⟩
  · rw [k1, k2, if_pos ⟨sh, sh⟩, if_pos ⟨sh, sh⟩, e]; exact ⟨rfl, rfl⟩
end ST
end
section
set_option maxRecDepth 100000
set_option maxHeartbeats 0
set_option exponentiation.threshold 3000
namespace ST
open PySem PySem.Spec PyProof.Rows L2 DL SH SU SV
theorem wrap_eq : h2__law_any = h2__law_small := rfl
theorem any_ok {B : Nat} (hB : B + 2000 < 2 ^ 46) {p : List D} (hp : Pile B p) {l hs : List Str} (nl : Names 6 l) (l1 : 1 ≤ l.length) (hl : hs.length ≤ 100) (hh : ∀ s ∈ hs, HlS s) : ∃ t p' hs', Drawn l hs 12 40 (B + 2000) t p' hs' ∧ f__law_any [.lst p, .d (.list (l.map .str)), .lst (hs.map .str)] = .ok (.d (tmD t)) [some (.lst p'), some (.d (.list (l.map .str))), some (.lst (hs'.map .str))] := by
  have big := size_big
  obtain ⟨kd, p0, k0, k1, hp0, e0⟩ := take_ok (by omega) hp 5 (by omega) (by omega)
  rw [eq__law_any]
  by_cases h3 : kd = 3
  · obtain ⟨t, p1, hs', q, e1⟩ := term_ok 2 (by omega) 40 (by omega) (B := B + 1) (by show B + 1 + 40 * 13 < _; omega) hp0 nl l1 hl hh
    have e1 : f__law_term 40 [.lst p0, .d (.list (l.map .str)), .lst (hs.map .str), .d (.int 2)] = .ok (.d (tmD t)) [some (.lst p1), some (.d (.list (l.map .str))), some (.lst (hs'.map .str)), some (.d (.int 2))] := e1
    have hp1 : Pile (B + 521) p1 := q.pile
    obtain ⟨a, p2, a0, a1, hp2, e2⟩ := take_ok (by omega) hp1 9 (by omega) (by omega)
    have hr := range_ok (a.toNat + 1) (by omega)
    have hc : ((a.toNat + 1 : Nat) : Int) = 1 + a := by omega
    rw [hc] at hr
    obtain ⟨s', f1, t', p', f2, f3, f4, f5⟩ := forS_inv (b := q1__law_any (.list (l.map .str))) (xs := rangeL 0 (a.toNat + 1)) (s := (some (.lst p2), tmD t))
      (fun i s => ∃ t p, s = (some (.lst p), tmD t) ∧ OfT l hs (3 + i) t ∧ Few (13 + i) t ∧ Pile (B + 522 + 3 * i) p) ⟨t, p2, rfl, q.of, q.few, hp2⟩ fun i x s hx ⟨t, p, g1, g2, g3, g4⟩ => by
        subst g1
        obtain ⟨hi, rfl⟩ := range_at hx
        obtain ⟨t', p', w1, w2, w3, w4⟩ := wrap_ok (by omega) g4 nl l1 g2 g3
        rw [← wrap_eq] at w4
        exact ⟨_, by simp [q1__law_any, w4], t', p', rfl, w1, w2, w3.up (by omega)⟩
    rw [range_len] at f3 f4 f5
    refine ⟨t', p', hs', ⟨f3.to (by omega), f4.up (by omega), q.sub, q.len, f5.up (by omega)⟩, ?_⟩
    subst f2
    generalize hs.map PyData.str = hh at *
    generalize hs'.map PyData.str = hh' at *
    generalize l.map PyData.str = nn at *
    generalize tmD t = tt at *
    generalize tmD t' = tt' at *
    subst h3
    simp [e0, eq_i, e1, e2, hr, f1]
  · by_cases h4 : kd = 4
    · subst h4
      obtain ⟨a, p2, a0, a1, hp2, e2⟩ := take_ok (by omega) hp0 7 (by omega) (by omega)
      have hr := range_ok a.toNat (by omega)
      rw [Int.toNat_of_nonneg a0] at hr
      obtain ⟨ts, s', e4, g1, g2, g3, p4, hs', g5, g6, g7, g8⟩ := lcS_inv (pe := c3__law_any (.list (l.map .str))) (G := tmD) (xs := rangeL 0 a.toNat) (s := (some (.lst p2), some (.lst (hs.map .str))))
        (fun i ts s => ts.length = i ∧ (∀ b ∈ ts, OfT l hs 2 b) ∧ (∀ b ∈ ts, Few 4 b) ∧ ∃ p4 hs', s = (some (.lst p4), some (.lst (hs'.map .str))) ∧ (∀ s ∈ hs', s ∈ hs) ∧ hs'.length ≤ hs.length ∧ Pile (B + 2 + i * 160) p4)
        ⟨rfl, (fun b hb => by cases hb), (fun b hb => by cases hb), p2, hs, rfl, fun _ h => h, Nat.le_refl _, by simpa using hp2⟩ fun i x ts s hx ⟨f1, f2, f3, p4, hs', f5, f6, f7, f8⟩ => by
          subst f5
          obtain ⟨hi, rfl⟩ := range_at hx
          obtain ⟨t, p5, hs2, q, e5⟩ := term_ok 1 (by omega) 40 (by omega) (by show B + 2 + i * 160 + 40 * 4 < _; omega) f8 nl l1 (hs := hs') (by omega) fun s h => hh s (f6 s h)
          have e5 : f__law_term 40 [.lst p4, .d (.list (l.map .str)), .lst (hs'.map .str), .d (.int 1)] = .ok (.d (tmD t)) [some (.lst p5), some (.d (.list (l.map .str))), some (.lst (hs2.map .str)), some (.d (.int 1))] := e5
          have qp : Pile (B + 2 + i * 160 + 160) p5 := q.pile
          refine ⟨t, (some (.lst p5), some (.lst (hs2.map .str))), ?_, by rw [List.length_append, f1]; rfl, ?_, ?_, p5, hs2, rfl, fun s h => f6 s (q.sub s h), Nat.le_trans q.len f7, qp.up (by omega)⟩
          · simp [c3__law_any, e5]
          · intro b hb
            rcases List.mem_append.mp hb with hb | hb
            · exact f2 b hb
            · rw [List.mem_singleton.mp hb]; exact q.of.of f6
          · intro b hb
            rcases List.mem_append.mp hb with hb | hb
            · exact f3 b hb
            · rw [List.mem_singleton.mp hb]; exact q.few
      subst g5
      rw [range_len] at g1 g8
      have a6 : a.toNat ≤ 6 := by omega
      have := Nat.mul_le_mul_right 160 a6
      obtain ⟨z, p5, na, hp5, e5⟩ := sign_ok (by omega) g8 nl.nm l1
      have o2 : OfT l hs 3 (.sign z ts) := ⟨na, by omega, g2⟩
      refine ⟨.sign z ts, p5, hs', ⟨o2.to (by omega), (few_in (t := .sign z ts) (k := 4) (j := 6) g3 (by rw [innerT]; omega)).up (by omega), g6, g7, hp5.up (by omega)⟩, ?_⟩
      have tp : tupD (.list (ts.map tmD)) = some (.tuple (ts.map tmD)) := rfl
      rw [tmD, tmDs_map]
      generalize hs.map PyData.str = hh at *
      generalize hs'.map PyData.str = hh' at *
      generalize l.map PyData.str = nn at *
      generalize ts.map tmD = tt at *
      simp [e0, eq_i, e2, hr, e4, e5, tp]
    · obtain ⟨t, p1, hs', q, e1⟩ := term_ok 3 (by omega) 40 (by omega) (B := B + 1) (by show B + 1 + 40 * 40 < _; omega) hp0 nl l1 hl hh
      have e1 : f__law_term 40 [.lst p0, .d (.list (l.map .str)), .lst (hs.map .str), .d (.int 3)] = .ok (.d (tmD t)) [some (.lst p1), some (.d (.list (l.map .str))), some (.lst (hs'.map .str)), some (.d (.int 3))] := e1
      have hp1 : Pile (B + 1601) p1 := q.pile
      refine ⟨t, p1, hs', ⟨q.of.to (by omega), q.few.up (by decide), q.sub, q.len, hp1.up (by omega)⟩, ?_⟩
      generalize hs.map PyData.str = hh at *
      generalize hs'.map PyData.str = hh' at *
      generalize l.map PyData.str = nn at *
      generalize tmD t = tt at *
      simp [e0, eq_i, h3, h4, e1]
end ST
end
section
set_option maxRecDepth 100000
set_option maxHeartbeats 0
namespace SW
open PySem PySem.Spec PyProof.Rows L2 DL
noncomputable def g1_at_place : M Bool := (mOr (mB (mBin ltD (mVar 2) (mC (.int 0)))) (mB (mBin geD (mVar 2) (mF1 lenD (mVar 3)))))
noncomputable abbrev b2_at_place : M Fl := (sK [2, 3] (sSeq (sSet 3 (mFrz (mCall ST.f_inner (gD (mVar 0) gNil)))) (sSeq (mIf g1_at_place (sRet (mD (mC .none))) sNil) (sSet 0 (mBin ixD (mVar 3) (mVar 2))))))
noncomputable def m_at_place : M Fl := (sSeq (sKb [2, 3] (sFor (mItems (mVar 1)) (tName 2) b2_at_place)) (sRet (mD (mVar 0))))
noncomputable def f_at_place : Fn := fnOf 4 2 [] m_at_place
noncomputable def h2_at_place (a2 : D) (a3 : D) : Pr Bool :=
 oB (ltD a2 (.int 0)) fun v5 =>
 oB (bO v5) fun v6 =>
 pB (if v6 = true then
 .ok true else
 oB (lenD a3) fun v7 =>
 oB (geD a2 v7) fun v8 =>
 oB (bO v8) fun v9 =>
 .ok v9) fun v10 =>
 .ok v10
theorem r2_at_place {T : Type} [Tg T] (a0 : Option OV) (a1 : Option OV) (a2 : D) (a3 : D) (k : Bool → DL.Env → T) : rB (g1_at_place [a0, a1, some (.d a2), some (.d a3)]) k hE = pB (h2_at_place a2 a3) fun z => k z [a0, a1, some (.d a2), some (.d a3)] := by
  simp (maxSteps := 2000000) only [g1_at_place, h2_at_place, RB, RBY, Nat.reduceAdd, Nat.reduceBEq]
noncomputable def q1_at_place (x : D) (s : D) : Pr (Fo D) :=
 cB (ST.f_inner [.d s]) fun v2 w3 =>
 oB (OV.frz v2) fun v4 =>
 pB (h2_at_place x v4) fun v11 =>
 if v11 = true then
  .ok (.rt (.d .none) s) else
 oB (ixD v4 x) fun v12 =>
 .ok (.nx v12)
theorem r1_at_place {T : Type} [Tg T] (c0 : D) (a1 : Option OV) (xs : List D) (k : Fl → DL.Env → T) : rB (forGo (tName 2) b2_at_place xs [some (.d c0), a1, none, none]) k hE = lF (forF q1_at_place xs c0) (fun o s => k (.rt o) [some (.d s), a1, none, none]) fun s => k .nx [some (.d s), a1, none, none] :=
  for_rBF (E := fun (s : D) => [some (.d s), a1, none, none]) (pb := q1_at_place) (fun x s => by unfold stp; simp (maxSteps := 2000000) only [b2_at_place, q1_at_place, RB, RBY, Nat.reduceAdd, Nat.reduceBEq, r2_at_place]) k xs c0
theorem eq_at_place (x0 : D) (x1 : D) : f_at_place [.d x0, .d x1] =
 oB (itemsD x1) fun v1 =>
 lF (forF q1_at_place v1 x0) (fun v14 s13 => .ok v14 [some (.d x0), some (.d x1)]) fun s13 =>
 .ok (.d s13) [some (.d x0), some (.d x1)] := by
  refine (fn_eq (m := m_at_place) (ρ := [some (.d x0), some (.d x1), none, none]) rfl rfl).trans ?_
  have oe : ∀ ρ : DL.Env, outsOf [] ρ 0 [.d x0, .d x1] = [some (.d x0), some (.d x1)] := fun _ => rfl
  simp (maxSteps := 2000000) only [m_at_place, RB, RBY, Nat.reduceAdd, Nat.reduceBEq, r2_at_place, r1_at_place, oe]
noncomputable def m_part_at : M Fl := (sSeq (sDrop (mCall ST.f_sure_terms (gD (mLstF (mCons (mVar 0) mNil)) gNil))) (sSeq (sSet 2 (mFrz (mCall SW.f_at_place (gD (mVar 0) (gD (mVar 1) gNil))))) (sSeq (mIf (mB (mBin isD (mVar 2) (mC .none))) (sRaiseX "NoPlace" ["place"] (gD (mVar 1) gNil)) sNil) (sRet (mD (mVar 2))))))
noncomputable def f_part_at : Fn := fnOf 3 2 [] m_part_at
theorem eq_part_at (x0 : D) (x1 : D) : f_part_at [.d x0, .d x1] =
 cB (ST.f_sure_terms [.d (.list [x0])]) fun v1 w2 =>
 cB (SW.f_at_place [.d x0, .d x1]) fun v3 w4 =>
 oB (OV.frz v3) fun v5 =>
 oB (isD v5 .none) fun v6 =>
 oB (bO v6) fun v7 =>
 if v7 = true then
  Tg.ex ⟨.own "NoPlace", [("place", x1)]⟩ else
 .ok (.d v5) [some (.d x0), some (.d x1)] := by
  refine (fn_eq (m := m_part_at) (ρ := [some (.d x0), some (.d x1), none]) rfl rfl).trans ?_
  have oe : ∀ ρ : DL.Env, outsOf [] ρ 0 [.d x0, .d x1] = [some (.d x0), some (.d x1)] := fun _ => rfl
  simp (maxSteps := 2000000) only [m_part_at, RB, RBY, Nat.reduceAdd, Nat.reduceBEq, oe]
noncomputable def g1__law_gone : M Bool := (mOr (mB (mBin eqD (mVar 3) (mC (.int 0)))) (mB (mBin eqD (mVar 1) (mTup mNil))))
noncomputable def m__law_gone : M Fl := (sSeq (sSet 3 (mFrz (mCall SH.f__law_take (gO 0 (gD (mC (.int 3)) gNil))))) (sSeq (sSet 4 (mBin ixD (mLstF (mCons (mF1 negD (mC (.int 1))) (mCons (mF1 lenD (mFrz (mCall SU.f__law_in (gD (mVar 2) gNil)))) (mCons (mC (.int 9)) (mCons (mBin powD (mC (.int 10)) (mC (.int 19))) (mCons (mF1 negD (mC (.int 2))) mNil)))))) (mFrz (mCall SH.f__law_take (gO 0 (gD (mC (.int 5)) gNil)))))) (sSeq (mIf g1__law_gone (sRet (mD (mBin addD (mVar 1) (mTup (mCons (mVar 4) mNil))))) sNil) (sSeq (sSet 5 (mFrz (mCall SH.f__law_take (gO 0 (gD (mF1 lenD (mVar 1)) gNil))))) (sSeq (sSet 6 (mBin ixD (mLstF (mCons (mBin subD (mF1 negD (mC (.int 1))) (mBin ixD (mVar 1) (mVar 5))) (mCons (mC (.int 7)) (mCons (mBin powD (mC (.int 10)) (mC (.int 19))) (mCons (mF1 negD (mC (.int 1))) (mCons (mF1 negD (mC (.int 6))) mNil)))))) (mFrz (mCall SH.f__law_take (gO 0 (gD (mC (.int 5)) gNil)))))) (sRet (mD (mBin addD (mBin addD (mSl (mVar 1) bNo (bTo (mVar 5))) (mTup (mCons (mVar 6) mNil))) (mSl (mVar 1) (bTo (mBin addD (mVar 5) (mC (.int 1)))) bNo)))))))))
noncomputable def f__law_gone : Fn := fnOf 7 3 [0] m__law_gone
noncomputable def h1__law_gone (a1 : D) (a3 : D) : Pr Bool :=
 oB (eqD a3 (.int 0)) fun v16 =>
 oB (bO v16) fun v17 =>
 pB (if v17 = true then
 .ok true else
 oB (eqD a1 (.tuple [])) fun v18 =>
 oB (bO v18) fun v19 =>
 .ok v19) fun v20 =>
 .ok v20
theorem r1__law_gone {T : Type} [Tg T] (a0 : Option OV) (a1 : D) (a2 : Option OV) (a3 : D) (a4 : Option OV) (u5 : Option OV) (u6 : Option OV) (k : Bool → DL.Env → T) : rB (g1__law_gone [a0, some (.d a1), a2, some (.d a3), a4, u5, u6]) k hE = pB (h1__law_gone a1 a3) fun z => k z [a0, some (.d a1), a2, some (.d a3), a4, u5, u6] := by
  simp (maxSteps := 2000000) only [g1__law_gone, h1__law_gone, RB, RBY, Nat.reduceAdd, Nat.reduceBEq]
theorem eq__law_gone (x0 : OV) (x1 : D) (x2 : D) : f__law_gone [x0, .d x1, .d x2] =
 cB (SH.f__law_take [x0, .d (.int 3)]) fun v1 w2 =>
 oB (OV.frz v1) fun v3 =>
 oB (negD (.int 1)) fun v4 =>
 cB (SU.f__law_in [.d x2]) fun v5 w6 =>
 oB (OV.frz v5) fun v7 =>
 oB (lenD v7) fun v8 =>
 oB (powD (.int 10) (.int 19)) fun v9 =>
 oB (negD (.int 2)) fun v10 =>
 oB (gt w2 0) fun _ =>
 oB (gt w2 0) fun v11 =>
 cB (SH.f__law_take [v11, .d (.int 5)]) fun v12 w13 =>
 oB (OV.frz v12) fun v14 =>
 oB (ixD (.list [v4, v8, (.int 9), v9, v10]) v14) fun v15 =>
 pB (h1__law_gone x1 v3) fun v21 =>
 if v21 = true then
  oB (addD x1 (.tuple [v15])) fun v22 =>
  .ok (.d v22) [(gt w13 0), some (.d x1), some (.d x2)] else
 oB (gt w13 0) fun _ =>
 oB (lenD x1) fun v23 =>
 oB (gt w13 0) fun v24 =>
 cB (SH.f__law_take [v24, .d v23]) fun v25 w26 =>
 oB (OV.frz v25) fun v27 =>
 oB (negD (.int 1)) fun v28 =>
 oB (ixD x1 v27) fun v29 =>
 oB (subD v28 v29) fun v30 =>
 oB (powD (.int 10) (.int 19)) fun v31 =>
 oB (negD (.int 1)) fun v32 =>
 oB (negD (.int 6)) fun v33 =>
 oB (gt w26 0) fun _ =>
 oB (gt w26 0) fun v34 =>
 cB (SH.f__law_take [v34, .d (.int 5)]) fun v35 w36 =>
 oB (OV.frz v35) fun v37 =>
 oB (ixD (.list [v30, (.int 7), v31, v32, v33]) v37) fun v38 =>
 oB (iO v27) fun v39 =>
 oB (slD x1 none (some v39)) fun v40 =>
 oB (addD v40 (.tuple [v38])) fun v41 =>
 oB (addD v27 (.int 1)) fun v42 =>
 oB (iO v42) fun v43 =>
 oB (slD x1 (some v43) none) fun v44 =>
 oB (addD v41 v44) fun v45 =>
 .ok (.d v45) [(gt w36 0), some (.d x1), some (.d x2)] := by
  refine (fn_eq (m := m__law_gone) (ρ := [some x0, some (.d x1), some (.d x2), none, none, none, none]) rfl rfl).trans ?_
  have oe : ∀ ρ : DL.Env, outsOf [0] ρ 0 [x0, .d x1, .d x2] = [gt ρ 0, some (.d x1), some (.d x2)] := fun _ => rfl
  simp (maxSteps := 2000000) only [m__law_gone, RB, RBY, Nat.reduceAdd, Nat.reduceBEq, r1__law_gone, oe]
noncomputable def m_with_part (R : Fn) : M Fl := (sSeq (mIf (mB (mBin eqD (mVar 1) (mTup mNil))) (sRet (mD (mVar 2))) sNil) (sSeq (sTgt (tStar 1 (tsCons (tName 3) (tsCons (tName 4) tsNil))) (mVar 1)) (sSeq (sSetO 5 (mLst (mFN listD (mFrz (mCall ST.f_inner (gD (mVar 0) gNil)))))) (sSeq (sPut 5 (mVar 3) (mFrz (mCall R (gD (mBin ixD (mLook 5) (mVar 3)) (gD (mF1 tupD (mVar 4)) (gD (mVar 2) gNil)))))) (sRet (mCall SV.f_with_inner (gD (mVar 0) (gD (mFrzV 5) gNil))))))))
noncomputable def f_with_part : Nat → Fn
  | 0 => fun _ => .bad
  | n + 1 => fnOf 6 3 [] (m_with_part (f_with_part n))
theorem eq_with_part (n : Nat) (x0 : D) (x1 : D) (x2 : D) : f_with_part (n + 1) [.d x0, .d x1, .d x2] =
 oB (eqD x1 (.tuple [])) fun v1 =>
 oB (bO v1) fun v2 =>
 if v2 = true then
  .ok (.d x2) [some (.d x0), some (.d x1), some (.d x2)] else
 oB (starO 1 x1) fun v3 =>
 oB (conO v3) fun v4 =>
 oB (conO v4.2) fun v5 =>
 oB (nilO v5.2) fun _ =>
 cB (ST.f_inner [.d x0]) fun v6 w7 =>
 oB (OV.frz v6) fun v8 =>
 oB (listD v8) fun v9 =>
 oB (lk (some (.lst v9))) fun v10 =>
 oB (ixD v10 v4.1) fun v11 =>
 oB (tupD v5.1) fun v12 =>
 cB (f_with_part n [.d v11, .d v12, .d x2]) fun v13 w14 =>
 oB (OV.frz v13) fun v15 =>
 oB ((iO v4.1).bind (ixN v9.length)) fun v16 =>
 oB (fz (some (.lst (List.set v9 v16 v15)))) fun v17 =>
 cB (SV.f_with_inner [.d x0, .d v17]) fun v18 w19 =>
 .ok v18 [some (.d x0), some (.d x1), some (.d x2)] := by
  refine (fn_eq (m := (m_with_part (f_with_part n))) (ρ := [some (.d x0), some (.d x1), some (.d x2), none, none, none]) rfl rfl).trans ?_
  have oe : ∀ ρ : DL.Env, outsOf [] ρ 0 [.d x0, .d x1, .d x2] = [some (.d x0), some (.d x1), some (.d x2)] := fun _ => rfl
  simp (maxSteps := 2000000) only [m_with_part, RB, RBY, Nat.reduceAdd, Nat.reduceBEq, oe]
noncomputable def m_put_at : M Fl := (sSeq (sDrop (mCall ST.f_sure_terms (gD (mLstF (mCons (mVar 0) (mCons (mVar 2) mNil))) gNil))) (sSeq (mIf (mB (mBin isD (mFrz (mCall SW.f_at_place (gD (mVar 0) (gD (mVar 1) gNil)))) (mC .none))) (sRaiseX "NoPlace" ["place"] (gD (mVar 1) gNil)) sNil) (sRet (mCall (SW.f_with_part 40) (gD (mVar 0) (gD (mVar 1) (gD (mVar 2) gNil)))))))
noncomputable def f_put_at : Fn := fnOf 3 3 [] m_put_at
theorem eq_put_at (x0 : D) (x1 : D) (x2 : D) : f_put_at [.d x0, .d x1, .d x2] =
 cB (ST.f_sure_terms [.d (.list [x0, x2])]) fun v1 w2 =>
 cB (SW.f_at_place [.d x0, .d x1]) fun v3 w4 =>
 oB (OV.frz v3) fun v5 =>
 oB (isD v5 .none) fun v6 =>
 oB (bO v6) fun v7 =>
 if v7 = true then
  Tg.ex ⟨.own "NoPlace", [("place", x1)]⟩ else
 cB ((SW.f_with_part 40) [.d x0, .d x1, .d x2]) fun v8 w9 =>
 .ok v8 [some (.d x0), some (.d x1), some (.d x2)] := by
  refine (fn_eq (m := m_put_at) (ρ := [some (.d x0), some (.d x1), some (.d x2)]) rfl rfl).trans ?_
  have oe : ∀ ρ : DL.Env, outsOf [] ρ 0 [.d x0, .d x1, .d x2] = [some (.d x0), some (.d x1), some (.d x2)] := fun _ => rfl
  simp (maxSteps := 2000000) only [m_put_at, RB, RBY, Nat.reduceAdd, Nat.reduceBEq, oe]
noncomputable abbrev e1__law_places : M D := (mBin addD (mTup (mCons (mVar 2) mNil)) (mVar 4))
noncomputable abbrev b2__law_places (R : Fn) : M Fl := (sK [2, 3, 4] (sSet 1 (mBin addD (mVar 1) (mLstF (mLc [4] (mItems (mFrz (mCall R (gD (mVar 3) gNil)))) (tName 4) mYes e1__law_places)))))
noncomputable def m__law_places (R : Fn) : M Fl := (sSeq (sSet 1 (mLstF (mCons (mTup mNil) mNil))) (sSeq (sKb [2, 3, 4] (sFor (mEnumA (mFrz (mCall SU.f__law_in (gD (mVar 0) gNil)))) (tTup 2 (tsCons (tName 2) (tsCons (tName 3) tsNil))) (b2__law_places R))) (sRet (mD (mVar 1)))))
noncomputable def f__law_places : Nat → Fn
  | 0 => fun _ => .bad
  | n + 1 => fnOf 5 1 [] (m__law_places (f__law_places n))
noncomputable def c2__law_places (a2 : D) (x : D) : Pr (Option D) :=
 oB (addD (.tuple [a2]) x) fun v12 =>
 .ok (some v12)
theorem r2__law_places {T : Type} [Tg T] (a0 : Option OV) (a1 : Option OV) (a2 : D) (a3 : Option OV) (xs : List D) (k : List D → DL.Env → T) (h : Exc → DL.Env → T) : rB (lcGo [4] (tName 4) mYes e1__law_places xs [a0, a1, some (.d a2), a3, none]) k h = nB (lcP (c2__law_places a2) xs) fun ys => k ys [a0, a1, some (.d a2), a3, none] :=
  lc_rB (ρ := [a0, a1, some (.d a2), a3, none]) (pe := (c2__law_places a2)) (fun x => by unfold lst1; simp (maxSteps := 2000000) only [c2__law_places, e1__law_places, RB, RBY, Nat.reduceAdd, Nat.reduceBEq]) xs k h
noncomputable def q1__law_places (R : Fn) (x : D) (s : D) : Pr D :=
 oB (tupO 2 x) fun v5 =>
 oB (conO v5) fun v6 =>
 oB (conO v6.2) fun v7 =>
 oB (nilO v7.2) fun _ =>
 cB (R [.d v7.1]) fun v8 w9 =>
 oB (OV.frz v8) fun v10 =>
 oB (itemsD v10) fun v11 =>
 nB (lcP (c2__law_places v6.1) v11) fun v13 =>
 oB (addD s (.list v13)) fun v14 =>
 .ok v14
theorem r1__law_places {T : Type} [Tg T] (R : Fn) (a0 : Option OV) (c1 : D) (xs : List D) (k : Fl → DL.Env → T) : rB (forGo (tTup 2 (tsCons (tName 2) (tsCons (tName 3) tsNil))) (b2__law_places R) xs [a0, some (.d c1), none, none, none]) k hE = pB (forS (q1__law_places R) xs c1) fun s => k .nx [a0, some (.d s), none, none, none] :=
  for_rB (E := fun (s : D) => [a0, some (.d s), none, none, none]) (pb := (q1__law_places R)) (fun x s => by unfold stp; simp (maxSteps := 2000000) only [b2__law_places, q1__law_places, e1__law_places, RB, RBY, Nat.reduceAdd, Nat.reduceBEq, r2__law_places]) k xs c1
theorem eq__law_places (n : Nat) (x0 : D) : f__law_places (n + 1) [.d x0] =
 cB (SU.f__law_in [.d x0]) fun v1 w2 =>
 oB (OV.frz v1) fun v3 =>
 oB (enumA v3) fun v4 =>
 pB (forS (q1__law_places (f__law_places n)) v4 (.list [(.tuple [])])) fun s15 =>
 .ok (.d s15) [some (.d x0)] := by
  refine (fn_eq (m := (m__law_places (f__law_places n))) (ρ := [some (.d x0), none, none, none, none]) rfl rfl).trans ?_
  have oe : ∀ ρ : DL.Env, outsOf [] ρ 0 [.d x0] = [some (.d x0)] := fun _ => rfl
  simp (maxSteps := 2000000) only [m__law_places, e1__law_places, RB, RBY, Nat.reduceAdd, Nat.reduceBEq, r2__law_places, r1__law_places, oe]
noncomputable def m__law_put (R : Fn) : M Fl := (sSeq (mIf (mB (mBin eqD (mVar 1) (mTup mNil))) (sRet (mD (mVar 2))) sNil) (sSeq (sSetO 3 (mCall SU.f__law_in (gD (mVar 0) gNil))) (sSeq (sPut 3 (mBin ixD (mVar 1) (mC (.int 0))) (mFrz (mCall R (gD (mBin ixD (mLook 3) (mBin ixD (mVar 1) (mC (.int 0)))) (gD (mSl (mVar 1) (bTo (mC (.int 1))) bNo) (gD (mVar 2) gNil)))))) (sSeq (mIf (mB (mBin eqD (mBin ixD (mVar 0) (mC (.int 0))) (mC (.str "shut")))) (sRet (mD (mTup (mCons (mC (.str "shut")) (mCons (mBin ixD (mVar 0) (mC (.int 1))) (mCons (mBin ixD (mLook 3) (mC (.int 0))) mNil)))))) sNil) (sRet (mD (mTup (mCons (mC (.str "sign")) (mCons (mBin ixD (mVar 0) (mC (.int 1))) (mCons (mF1 tupD (mLook 3)) mNil))))))))))
noncomputable def f__law_put : Nat → Fn
  | 0 => fun _ => .bad
  | n + 1 => fnOf 4 3 [] (m__law_put (f__law_put n))
theorem eq__law_put (n : Nat) (x0 : D) (x1 : D) (x2 : D) : f__law_put (n + 1) [.d x0, .d x1, .d x2] =
 oB (eqD x1 (.tuple [])) fun v1 =>
 oB (bO v1) fun v2 =>
 if v2 = true then
  .ok (.d x2) [some (.d x0), some (.d x1), some (.d x2)] else
 cB (SU.f__law_in [.d x0]) fun v3 w4 =>
 oB (lk (some v3)) fun v5 =>
 oB (ixD x1 (.int 0)) fun v6 =>
 oB (ixD v5 v6) fun v7 =>
 oB (iO (.int 1)) fun v8 =>
 oB (slD x1 (some v8) none) fun v9 =>
 cB (f__law_put n [.d v7, .d v9, .d x2]) fun v10 w11 =>
 oB (OV.frz v10) fun v12 =>
 oB (lO (some v3)) fun v13 =>
 oB (ixD x1 (.int 0)) fun v14 =>
 oB (lO (some v3)) fun v15 =>
 oB ((iO v14).bind (ixN v15.length)) fun v16 =>
 oB (ixD x0 (.int 0)) fun v17 =>
 oB (eqD v17 (.str "shut")) fun v18 =>
 oB (bO v18) fun v19 =>
 if v19 = true then
  oB (ixD x0 (.int 1)) fun v20 =>
  oB (lk (some (.lst (List.set v15 v16 v12)))) fun v21 =>
  oB (ixD v21 (.int 0)) fun v22 =>
  .ok (.d (.tuple [(.str "shut"), v20, v22])) [some (.d x0), some (.d x1), some (.d x2)] else
 oB (ixD x0 (.int 1)) fun v23 =>
 oB (lk (some (.lst (List.set v15 v16 v12)))) fun v24 =>
 oB (tupD v24) fun v25 =>
 .ok (.d (.tuple [(.str "sign"), v23, v25])) [some (.d x0), some (.d x1), some (.d x2)] := by
  refine (fn_eq (m := (m__law_put (f__law_put n))) (ρ := [some (.d x0), some (.d x1), some (.d x2), none]) rfl rfl).trans ?_
  have oe : ∀ ρ : DL.Env, outsOf [] ρ 0 [.d x0, .d x1, .d x2] = [some (.d x0), some (.d x1), some (.d x2)] := fun _ => rfl
  simp (maxSteps := 2000000) only [m__law_put, RB, RBY, Nat.reduceAdd, Nat.reduceBEq, oe]
noncomputable def m__law_said_5 : M Fl := (sSeq (sTryX (sDrop (mCall SW.f_put_at (gD (mVar 0) (gD (mVar 1) (gD (mVar 2) gNil))))) [(hX (tabIsa [("NoPlace", true), ("NoTerm", false)]) (some 3) fun ξ => (sRet (mD (mTup (mCons (mC (.str "no place")) (mCons (mXf ["NoPlace"] ξ "place") mNil)))))), (hX (tabIsa [("NoPlace", false), ("NoTerm", true)]) none fun ξ => (sRet (mD (mTup (mCons (mC (.str "no term")) (mCons (mTup mNil) mNil))))))]) (sRet (mD (mTup (mCons (mC (.str "told")) (mCons (mTup mNil) mNil))))))
noncomputable def f__law_said_5 : Fn := fnOf 4 3 [] m__law_said_5
theorem eq__law_said_5 (x0 : D) (x1 : D) (x2 : D) : f__law_said_5 [.d x0, .d x1, .d x2] =
 cX (SW.f_put_at [.d x0, .d x1, .d x2]) (fun ξ => tH ((tabIsa [("NoPlace", true), ("NoTerm", false)]) ξ.c) (oB (xfO ["NoPlace"] ξ "place") fun v3 =>
 .ok (.d (.tuple [(.str "no place"), v3])) [some (.d x0), some (.d x1), some (.d x2)]) (tH ((tabIsa [("NoPlace", false), ("NoTerm", true)]) ξ.c) (.ok (.d (.tuple [(.str "no term"), (.tuple [])])) [some (.d x0), some (.d x1), some (.d x2)]) (Tg.ex ξ))) fun v1 w2 =>
 .ok (.d (.tuple [(.str "told"), (.tuple [])])) [some (.d x0), some (.d x1), some (.d x2)] := by
  refine (fn_eq (m := m__law_said_5) (ρ := [some (.d x0), some (.d x1), some (.d x2), none]) rfl rfl).trans ?_
  have oe : ∀ ρ : DL.Env, outsOf [] ρ 0 [.d x0, .d x1, .d x2] = [some (.d x0), some (.d x1), some (.d x2)] := fun _ => rfl
  simp (maxSteps := 2000000) only [m__law_said_5, RB, RBY, Nat.reduceAdd, Nat.reduceBEq, oe]
end SW
end
section
set_option maxRecDepth 100000
set_option maxHeartbeats 0
set_option exponentiation.threshold 3000
namespace ST
open PySem PySem.Spec PyProof.Rows L2 DL SH SU SV
def zD (q : List Int) : D := .tuple (q.map .int)
theorem ly_int (i : Int) (n : Nat) : Ly n (.int i) := ⟨by rw [PyData.canLay0], by rw [PyData.depth]; omega⟩
theorem zD_ly (q : List Int) : Ly 1 (zD q) := Ly.tup (n := 0) fun x hx => by
  obtain ⟨i, _, rfl⟩ := List.mem_map.mp hx
  exact ly_int i 0
theorem shaped_of {x : D} {n : Nat} (h : Ly n x) (hn : n ≤ 60) : SeqAt.shaped x = true := by
  unfold SeqAt.shaped
  rw [h.1, Bool.true_and, decide_eq_true_eq]
  have := h.2
  omega
theorem eqvAll_ints : ∀ a b : List Int, PyData.eqvAll (a.map .int) (b.map .int) = decide (a = b)
  | [], [] => by rw [List.map_nil, PyData.eqvAll]; rfl
  | [], _ :: _ => by rw [List.map_nil, List.map_cons, PyData.eqvAll]; rfl
  | _ :: _, [] => by rw [List.map_nil, List.map_cons, PyData.eqvAll]; rfl
  | i :: a, j :: b => by
    rw [List.map_cons, List.map_cons, PyData.eqvAll, eqvAll_ints a b, PyData.eqv]
    by_cases h : i = j
    · subst h
      by_cases h2 : a = b
      · subst h2; simp
      · rw [decide_eq_false h2, decide_eq_false (fun e => h2 (List.cons.inj e).2)]; simp
    · rw [decide_eq_false (fun e => h (List.cons.inj e).1), beq_false_of_ne h]; rfl
theorem eqv_z (a b : List Int) : PyData.eqv (zD a) (zD b) = decide (a = b) := by
  unfold zD
  rw [PyData.eqv, eqvAll_ints]
theorem eq_z (a b : List Int) : eqD (zD a) (zD b) = some (.bool (decide (a = b))) := by
  have u : eqD (zD a) (zD b) = if SeqAt.shaped (zD a) = true ∧ SeqAt.shaped (zD b) = true then some (.bool (PyData.eqv (zD a) (zD b))) else none := rfl
  rw [u, if_pos ⟨shaped_of (zD_ly a) (by omega), shaped_of (zD_ly b) (by omega)⟩, eqv_z]
theorem ge_i (i j : Int) : geD (.int i) (.int j) = some (.bool (decide (j ≤ i))) := rfl
def pI (p : Pl) : List Int := p.map fun k : Nat => (k : Int)
theorem plD_z (p : Pl) : plD p = zD (pI p) := by
  unfold plD zD pI
  rw [List.map_map]; rfl
def allT : Nat → Tm → List (Pl × Tm)
  | 0, _ => []
  | n + 1, t => ([], t) :: ((innerT t).zipIdx.flatMap fun q => (allT n q.1).map fun z => (q.2 :: z.1, z.2))
theorem allT_fst : ∀ (n : Nat) (t : Tm), (allT n t).map (·.1) = everyK n t
  | 0, _ => rfl
  | n + 1, t => by
    rw [allT, everyK, List.map_cons, List.map_flatMap]
    congr 1
    refine congrArg (fun f => List.flatMap f (innerT t).zipIdx) (funext fun q => ?_)
    rw [List.map_map, ← allT_fst n q.1, List.map_map]
    rfl
def atT : Tm → List Int → Option Tm
  | t, [] => some t
  | t, i :: p => if i < 0 then none else match (innerT t)[i.toNat]? with
    | some b => atT b p
    | none => none
theorem at_all : ∀ (n : Nat) (t : Tm) {z : Pl × Tm}, z ∈ allT n t → atT t (pI z.1) = some z.2
  | 0, _, _, h => by cases h
  | n + 1, t, z, h => by
    rcases List.mem_cons.mp h with rfl | h
    · rfl
    · obtain ⟨q, hq, h⟩ := List.mem_flatMap.mp h
      obtain ⟨y, hy, rfl⟩ := List.mem_map.mp h
      have e := List.mem_zipIdx_iff_getElem?.mp hq
      show atT t ((q.2 : Int) :: pI y.1) = _
      rw [atT, if_neg (by omega), Int.toNat_natCast, e]
      exact at_all n q.1 hy
end ST
end
section
set_option maxRecDepth 100000
set_option maxHeartbeats 0
set_option exponentiation.threshold 3000
namespace ST
open PySem PySem.Spec PyProof.Rows L2 DL SH SU SV SW
theorem at_step {t : Tm} (i : Int) (h6 : (innerT t).length ≤ 500) : q1_at_place (.int i) (tmD t) = .ok (if i < 0 then .rt (.d .none) (tmD t) else match (innerT t)[i.toNat]? with
    | some b => .nx (tmD b)
    | none => .rt (.d .none) (tmD t)) := by
  have hi := inner_ok t
  have ln : lenD (.tuple ((innerT t).map tmD)) = some (.int ((innerT t).length : Nat)) := by rw [← List.length_map (as := innerT t) (f := tmD)]; rfl
  unfold q1_at_place
  rw [hi]
  have l1 := lt_i i 0
  have l2 := ge_i i (innerT t).length
  by_cases h : i < 0
  · rw [decide_eq_true h] at l1
    rw [if_pos h]
    generalize (innerT t).map tmD = y1 at *
    simp [h2_at_place, l1]
  · rw [if_neg h]
    rw [decide_eq_false h] at l1
    by_cases h2 : ((innerT t).length : Int) ≤ i
    · have e : (innerT t)[i.toNat]? = none := List.getElem?_eq_none (by omega)
      rw [e]
      rw [decide_eq_true h2] at l2
      generalize (innerT t).map tmD = y1 at *
      generalize (((innerT t).length : Nat) : Int) = y2 at *
      simp [h2_at_place, l1, ln, l2]
    · rw [decide_eq_false h2] at l2
      obtain ⟨x, ex, hx⟩ := atI_nat (xs := (innerT t).map tmD) (i := i) (by omega) (by rw [List.length_map]; omega)
      rw [List.getElem?_map] at hx
      obtain ⟨b, hb, rfl⟩ := Option.map_eq_some_iff.mp hx
      rw [hb]
      have ix : ixD (.tuple ((innerT t).map tmD)) (.int i) = some (tmD b) := ex
      clear hb hx ex
      show _ = Pr.ok (Fo.nx (tmD b))
      generalize (innerT t).map tmD = y1 at *
      generalize (((innerT t).length : Nat) : Int) = y2 at *
      generalize tmD b = y3 at *
      simp [h2_at_place, l1, ln, l2, ix]
theorem OkT.in6 {n : Nat} {t : Tm} (h : OkT n t) : (innerT t).length ≤ 6 := by
  cases n with
  | zero => exact h.elim
  | succ n =>
    cases t with
    | nm s => simp [innerT]
    | hole t x => simp [innerT]
    | shut a b => simp [innerT]
    | sign a ts => exact h.2.1
theorem at_go : ∀ (n : Nat) {t : Tm}, OkT n t → ∀ q : List Int, (∀ u, atT t q = some u → forF q1_at_place (q.map .int) (tmD t) = .ok (.nx (tmD u))) ∧ (atT t q = none → ∃ s, forF q1_at_place (q.map .int) (tmD t) = .ok (.rt (.d .none) s))
  | _, t, _, [] => ⟨fun u e => by cases e; rfl, fun e => by cases e⟩
  | 0, _, h, _ :: _ => h.elim
  | n + 1, t, h, i :: q => by
    have st := at_step (t := t) i (by have := h.in6; omega)
    rw [List.map_cons, forF, st, atT]
    by_cases hi : i < 0
    · rw [if_pos hi, if_pos hi]
      exact ⟨fun u e => (by cases e), fun _ => ⟨_, rfl⟩⟩
    · rw [if_neg hi, if_neg hi]
      cases hb : (innerT t)[i.toNat]? with
      | none => exact ⟨fun u e => (by cases e), fun _ => ⟨_, rfl⟩⟩
      | some b => exact at_go n (h.inner b (List.mem_of_getElem? hb)) q
theorem at_yes {n : Nat} {t u : Tm} (h : OkT n t) {q : List Int} (e : atT t q = some u) : f_at_place [.d (tmD t), .d (zD q)] = .ok (.d (tmD u)) [some (.d (tmD t)), some (.d (zD q))] := by
  rw [eq_at_place]
  have it : itemsD (zD q) = some (q.map .int) := rfl
  have g := (at_go n h q).1 u e
  generalize zD q = y1 at *
  generalize tmD t = y2 at *
  generalize tmD u = y3 at *
  simp [it, g]
theorem at_no {n : Nat} {t : Tm} (h : OkT n t) {q : List Int} (e : atT t q = none) : f_at_place [.d (tmD t), .d (zD q)] = .ok (.d .none) [some (.d (tmD t)), some (.d (zD q))] := by
  rw [eq_at_place]
  have it : itemsD (zD q) = some (q.map .int) := rfl
  obtain ⟨s, g⟩ := (at_go n h q).2 e
  generalize zD q = y1 at *
  generalize tmD t = y2 at *
  simp [it, g]
theorem is_none_tm (t : Tm) : isD (tmD t) .none = some (.bool false) := by
  obtain ⟨xs, e⟩ := tm_tuple t
  rw [e]; rfl
theorem part_yes {t u : Tm} (h : Term28 t) {q : List Int} (e : atT t q = some u) : f_part_at [.d (tmD t), .d (zD q)] = .ok (.d (tmD u)) [some (.d (tmD t)), some (.d (zD q))] := by
  have a := h.sure
  have b := at_yes h.ok e
  have c := is_none_tm u
  rw [eq_part_at]
  generalize zD q = y1 at *
  generalize tmD t = y2 at *
  generalize tmD u = y3 at *
  simp [a, b, c]
theorem tab4 : tabIsa [("NoPlace", true), ("NoTerm", false)] (.own "NoPlace") = some true ∧ tabIsa [("NoPlace", true), ("NoTerm", false)] (.own "NoTerm") = some false ∧ tabIsa [("NoPlace", false), ("NoTerm", true)] (.own "NoTerm") = some true := by decide
theorem xf4 (y : D) : xfO ["NoPlace"] ⟨.own "NoPlace", [("place", y)]⟩ "place" = some y := rfl
theorem add_zk (k : Nat) (p : Pl) (h : p.length ≤ 900) : addD (.tuple [.int (k : Nat)]) (plD p) = some (plD (k :: p)) := by
  unfold plD
  rw [add_t (by rw [List.length_map]; simp; omega)]
  rfl
theorem enum_in (t : Tm) : enumA (.tuple ((innerT t).map tmD)) = some ((innerT t).zipIdx.map enT) := by rw [← enum_tm]; rfl
theorem part_le {α β : Type} (f : α → List β) : ∀ {l : List α} {a : α}, a ∈ l → (f a).length ≤ (l.flatMap f).length
  | b :: l, a, h => by
    rw [List.flatMap_cons, List.length_append]
    rcases List.mem_cons.mp h with rfl | h
    · omega
    · have := part_le f h; omega
end ST
end
section
set_option maxRecDepth 100000
set_option maxHeartbeats 0
set_option exponentiation.threshold 3000
namespace ST
open PySem PySem.Spec PyProof.Rows L2 DL SH SU SV SW
theorem cut_z (q : List Int) (lo hi : Option Int) : ∃ r : List Int, r.length ≤ q.length ∧ slD (zD q) lo hi = some (zD r) := by
  refine ⟨(q.drop (HT.sIx (q.map PyData.int).length 0 lo)).take (HT.sIx (q.map PyData.int).length (q.map PyData.int).length hi - HT.sIx (q.map PyData.int).length 0 lo), ?_, ?_⟩
  · rw [List.length_take, List.length_drop]; omega
  · have u : slD (zD q) lo hi = some (.tuple (DL.cutD (q.map .int) lo hi)) := rfl
    rw [u]
    unfold DL.cutD zD
    rw [List.map_take, List.map_drop]
theorem add_z (a b : List Int) (h : a.length + b.length ≤ 1000) : addD (zD a) (zD b) = some (zD (a ++ b)) := by
  unfold zD
  rw [add_t (by rw [List.length_map, List.length_map]; exact h), List.map_append]
theorem ints_at {l : List Int} {r : Int} (h0 : 0 ≤ r) (h1 : r < l.length) : ∃ i, ixD (.list (l.map .int)) (.int r) = some (.int i) := by
  obtain ⟨x, ex, hx⟩ := atI_nat (xs := l.map PyData.int) (i := r) h0 (by rw [List.length_map]; exact h1)
  rw [List.getElem?_map] at hx
  obtain ⟨b, hb, rfl⟩ := Option.map_eq_some_iff.mp hx
  exact ⟨b, ex⟩
theorem intz_at {l : List Int} {r : Int} (h0 : 0 ≤ r) (h1 : r < l.length) : ∃ i, ixD (zD l) (.int r) = some (.int i) := by
  obtain ⟨x, ex, hx⟩ := atI_nat (xs := l.map PyData.int) (i := r) h0 (by rw [List.length_map]; exact h1)
  rw [List.getElem?_map] at hx
  obtain ⟨b, hb, rfl⟩ := Option.map_eq_some_iff.mp hx
  exact ⟨b, ex⟩
theorem gone_ok {B : Nat} (hB : B < 2 ^ 46) {p : List D} (hp : Pile B p) (q : List Int) (hq : q.length ≤ 100) (t : Tm) : ∃ (g : List Int) (p' : List D), Pile (B + 4) p' ∧ SW.f__law_gone [.lst p, .d (zD q), .d (tmD t)] = .ok (.d (zD g)) [some (.lst p'), some (.d (zD q)), some (.d (tmD t))] := by
  obtain ⟨k, p1, k0, k1, hp1, e1⟩ := take_ok (by omega) hp 3 (by omega) (by omega)
  have hi := law_in_ok t
  have fz : OV.frz (.lst ((innerT t).map tmD)) = some (.list ((innerT t).map tmD)) := rfl
  have ln : lenD (.list ((innerT t).map tmD)) = some (.int ((innerT t).length : Nat)) := by rw [← List.length_map (as := innerT t) (f := tmD)]; rfl
  obtain ⟨r, p2, r0, r1, hp2, e2⟩ := take_ok (by omega) hp1 5 (by omega) (by omega)
  obtain ⟨far, ef⟩ := ints_at (l := [-1, ((innerT t).length : Nat), 9, 10 ^ 19, -2]) r0 (by simpa using r1)
  have ef : ixD (.list [.int (-1), .int ((innerT t).length : Nat), .int 9, .int (10 ^ 19), .int (-2)]) (.int r) = some (.int far) := ef
  have n1 : negD (.int 1) = some (.int (-1)) := rfl
  have n2 : negD (.int 2) = some (.int (-2)) := rfl
  have n6 : negD (.int 6) = some (.int (-6)) := rfl
  have pw : powD (.int 10) (.int 19) = some (.int (10 ^ 19)) := rfl
  have a1 : addD (zD q) (.tuple [.int far]) = some (zD (q ++ [far])) := add_z q [far] (by simp; omega)
  have eqk := eq_i k 0
  have eqq : eqD (zD q) (.tuple []) = some (.bool (decide (q = []))) := eq_z q []
  by_cases hk : k = 0 ∨ q = []
  · refine ⟨q ++ [far], p2, hp2.up (by omega), ?_⟩
    rw [eq__law_gone]
    have h1 : h1__law_gone (zD q) (.int k) = .ok true := by
      rcases hk with hk | hk
      · rw [decide_eq_true hk] at eqk
        simp [h1__law_gone, eqk]
      · rw [decide_eq_true hk] at eqq
        by_cases h0 : k = 0
        · rw [decide_eq_true h0] at eqk
          simp [h1__law_gone, eqk]
        · rw [decide_eq_false h0] at eqk
          simp [h1__law_gone, eqk, eqq]
    clear hk
    generalize (10 : Int) ^ 19 = y6 at *
    generalize zD q = y1 at *
    generalize tmD t = y2 at *
    generalize (innerT t).map tmD = y3 at *
    generalize (((innerT t).length : Nat) : Int) = y4 at *
    simp [e1, n1, hi, fz, ln, pw, n2, e2, ef, h1, a1]
  · have hk0 : ¬ k = 0 := fun z => hk (.inl z)
    have hq0 : ¬ q = [] := fun z => hk (.inr z)
    have ql : 0 < q.length := List.length_pos_iff.mpr hq0
    rw [decide_eq_false hk0] at eqk
    rw [decide_eq_false hq0] at eqq
    have lq : lenD (zD q) = some (.int (q.length : Nat)) := by
      rw [← List.length_map (as := q) (f := PyData.int)]; rfl
    obtain ⟨at_, p3, a0, a1', hp3, e3⟩ := take_ok (by omega) hp2 (q.length : Nat) (by omega) (by omega)
    obtain ⟨x, ex⟩ := intz_at a0 a1'
    obtain ⟨m, p4, m0, m1, hp4, e4⟩ := take_ok (by omega) hp3 5 (by omega) (by omega)
    have sb : subD (.int (-1)) (.int x) = some (.int (-1 - x)) := rfl
    obtain ⟨num, en⟩ := ints_at (l := [-1 - x, 7, 10 ^ 19, -1, -6]) m0 (by simpa using m1)
    have en : ixD (.list [.int (-1 - x), .int 7, .int (10 ^ 19), .int (-1), .int (-6)]) (.int m) = some (.int num) := en
    obtain ⟨c1, l1, s1⟩ := cut_z q none (some at_)
    obtain ⟨c2, l2, s2⟩ := cut_z q (some (at_ + 1)) none
    have b1 : addD (zD c1) (.tuple [.int num]) = some (zD (c1 ++ [num])) := add_z c1 [num] (by simp; omega)
    have b2 : addD (zD (c1 ++ [num])) (zD c2) = some (zD (c1 ++ [num] ++ c2)) := add_z _ c2 (by simp; omega)
    have ad : addD (.int at_) (.int 1) = some (.int (at_ + 1)) := rfl
    have h1 : h1__law_gone (zD q) (.int k) = .ok false := by simp [h1__law_gone, eqk, eqq]
    refine ⟨c1 ++ [num] ++ c2, p4, hp4, ?_⟩
    rw [eq__law_gone]
    clear hk hk0 hq0 ql l1 l2 hq
    generalize (10 : Int) ^ 19 = y6 at *
    generalize zD q = y1 at *
    generalize tmD t = y2 at *
    generalize (innerT t).map tmD = y3 at *
    generalize (((innerT t).length : Nat) : Int) = y4 at *
    generalize ((q.length : Nat) : Int) = y5 at *
    generalize at_ + 1 = y7 at *
    generalize -1 - x = y8 at *
    simp [e1, n1, hi, fz, ln, pw, n2, n6, e2, ef, h1, lq, e3, ex, sb, e4, en, s1, b1, ad, s2, b2]
end ST
end
section
set_option maxRecDepth 100000
set_option maxHeartbeats 0
set_option exponentiation.threshold 3000
namespace ST
open PySem PySem.Spec PyProof.Rows L2 DL SH SU SV SW
def putT (u : Tm) : Pl → Tm → Tm
  | [], _ => u
  | _ :: p, .shut a b => .shut a (putT u p b)
  | k :: p, .sign a ts => .sign a (ts.set k (putT u p (ts.getD k (.nm ""))))
  | _ :: _, t => t
theorem at_cons (t : Tm) (k : Nat) (p : Pl) : atT t (pI (k :: p)) = match (innerT t)[k]? with
    | some b => atT b (pI p)
    | none => none := by
  show atT t ((k : Int) :: pI p) = _
  rw [atT, if_neg (by omega), Int.toNat_natCast]
  first
    | done
    | (cases (innerT t)[k]? <;> rfl)
theorem at_down {t v : Tm} {k : Nat} {p : Pl} (h : atT t (pI (k :: p)) = some v) : (∃ a b, t = .shut a b ∧ k = 0 ∧ atT b (pI p) = some v) ∨ ∃ a ts, ∃ hk : k < ts.length, t = .sign a ts ∧ atT ts[k] (pI p) = some v := by
  rw [at_cons] at h
  cases t with
  | nm s => simp [innerT] at h
  | hole u x => simp [innerT] at h
  | shut a b =>
    cases k with
    | zero => exact .inl ⟨a, b, rfl, rfl, h⟩
    | succ k => simp [innerT] at h
  | sign a ts =>
    by_cases hk : k < ts.length
    · refine .inr ⟨a, ts, hk, rfl, ?_⟩
      have e : (innerT (.sign a ts))[k]? = some ts[k] := List.getElem?_eq_getElem hk
      rw [e] at h
      exact h
    · have e : (innerT (.sign a ts))[k]? = none := List.getElem?_eq_none (by show ts.length ≤ k; omega)
      rw [e] at h
      cases h
theorem put_sign {u : Tm} {a : Str} {ts : List Tm} {k : Nat} (hk : k < ts.length) (p : Pl) : putT u (k :: p) (.sign a ts) = .sign a (ts.set k (putT u p ts[k])) := by
  rw [putT, List.getD_eq_getElem?_getD, List.getElem?_eq_getElem hk]
  rfl
theorem put_shut {u b : Tm} {a : Str} (k : Nat) (p : Pl) : putT u (k :: p) (.shut a b) = .shut a (putT u p b) := by rw [putT]
theorem at_put {u : Tm} : ∀ {p : Pl} {t v : Tm}, atT t (pI p) = some v → atT (putT u p t) (pI p) = some u
  | [], t, v, _ => by rw [putT]; rfl
  | k :: p, t, v, h => by
    rcases at_down h with ⟨a, b, rfl, rfl, g⟩ | ⟨a, ts, hk, rfl, g⟩
    · rw [put_shut, at_cons]
      exact at_put g
    · rw [put_sign hk, at_cons]
      have e : (innerT (.sign a (ts.set k (putT u p ts[k]))))[k]? = some (putT u p ts[k]) := List.getElem?_set_self hk
      rw [e]
      exact at_put g
theorem put_put {u : Tm} : ∀ {p : Pl} {t v : Tm}, atT t (pI p) = some v → putT v p (putT u p t) = t
  | [], t, v, h => by cases h; rw [putT]
  | k :: p, t, v, h => by
    rcases at_down h with ⟨a, b, rfl, rfl, g⟩ | ⟨a, ts, hk, rfl, g⟩
    · rw [put_shut, put_shut, put_put g]
    · rw [put_sign hk, put_sign (by rw [List.length_set]; exact hk), List.getElem_set_self, put_put g, List.set_set, List.set_getElem_self]
theorem OkT.put {m : Nat} {u : Tm} (hu : OkT m u) : ∀ {n : Nat} {p : Pl} {t v : Tm}, OkT n t → atT t (pI p) = some v → OkT (n + m) (putT u p t)
  | n, [], t, v, _, _ => by
    rw [putT, Nat.add_comm]
    exact OkT.lift hu n
  | 0, k :: p, t, v, h, _ => h.elim
  | n + 1, k :: p, t, v, h, e => by
    rw [Nat.add_right_comm]
    rcases at_down e with ⟨a, b, rfl, rfl, g⟩ | ⟨a, ts, hk, rfl, g⟩
    · rw [put_shut]
      exact ⟨h.1, OkT.put hu h.2 g⟩
    · rw [put_sign hk]
      refine ⟨h.1, by rw [List.length_set]; exact h.2.1, fun b hb => ?_⟩
      rcases List.mem_or_eq_of_mem_set hb with hb | hb
      · exact OkT.lift (h.2.2 b hb) m
      · rw [hb]; exact OkT.put hu (h.2.2 _ (List.getElem_mem hk)) g
theorem set_le2 {u : Tm} {m k : Nat} : ∀ {ts : List Tm} {r : Nat} (hr : r < ts.length), (everyP m u).length ≤ (everyP m ts[r]).length + k → ((ts.set r u).flatMap (everyP m)).length ≤ (ts.flatMap (everyP m)).length + k
  | [], r, hr, _ => by simp at hr
  | t :: ts, 0, _, h => by
    simp only [List.set_cons_zero, List.flatMap_cons, List.length_append]
    simp only [List.getElem_cons_zero] at h
    omega
  | t :: ts, r + 1, hr, h => by
    simp only [List.set_cons_succ, List.flatMap_cons, List.length_append]
    have := set_le2 (u := u) (m := m) (ts := ts) (r := r) (by simpa using hr) (by simpa using h)
    omega
theorem put_few {j : Nat} {u : Tm} (hu : Few j u) : ∀ {p : Pl} {t v : Tm}, atT t (pI p) = some v → ∀ m, (everyP m (putT u p t)).length ≤ (everyP m t).length + j
  | [], t, v, _, m => by rw [putT]; have := hu m; omega
  | k :: p, t, v, e, m => by
    cases m with
    | zero => exact Nat.zero_le _
    | succ m =>
      rcases at_down e with ⟨a, b, rfl, rfl, g⟩ | ⟨a, ts, hk, rfl, g⟩
      · rw [put_shut]
        have := put_few hu g m
        show (_ :: [putT u p b].flatMap (everyP m)).length ≤ (_ :: [b].flatMap (everyP m)).length + j
        simp only [List.flatMap_singleton, List.length_cons]
        omega
      · rw [put_sign hk]
        have := set_le2 hk (put_few hu g m)
        show (_ :: (ts.set k (putT u p ts[k])).flatMap (everyP m)).length ≤ (_ :: ts.flatMap (everyP m)).length + j
        rw [List.length_cons, List.length_cons]
        omega
theorem zD_cons (k : Nat) (p : Pl) : plD (k :: p) = .tuple (.int (k : Nat) :: (pI p).map .int) := by
  rw [plD_z]; rfl
theorem pl_star (k : Nat) (p : Pl) : starO 1 (plD (k :: p)) = some [.int (k : Nat), .list ((pI p).map .int)] := by
  rw [zD_cons]
  have u : ∀ xs : List D, starO 1 (.tuple xs) = if 1 ≤ xs.length then some (xs.take 1 ++ [.list (xs.drop 1)]) else none := fun _ => rfl
  rw [u, if_pos (by simp)]
  rfl
theorem pl_tup (p : Pl) : tupD (.list ((pI p).map .int)) = some (plD p) := by
  rw [plD_z]; rfl
theorem pl_ne (k : Nat) (p : Pl) : eqD (plD (k :: p)) (.tuple []) = some (.bool false) := by
  rw [plD_z]
  exact eq_z (pI (k :: p)) []
theorem pl_nil : eqD (plD []) (.tuple []) = some (.bool true) := by
  rw [plD_z]
  exact eq_z [] []
theorem pl_ix (k : Nat) (p : Pl) : ixD (plD (k :: p)) (.int 0) = some (.int (k : Nat)) := by
  rw [zD_cons]
  obtain ⟨x, ex, hx⟩ := atI_nat (xs := PyData.int (k : Nat) :: (pI p).map PyData.int) (i := 0) (by omega) (by rw [List.length_cons]; omega)
  cases hx
  exact ex
theorem pl_sl (k : Nat) (p : Pl) : slD (plD (k :: p)) (some 1) none = some (plD p) := by
  rw [zD_cons, plD_z]
  have u : ∀ xs : List D, slD (.tuple xs) (some 1) none = some (.tuple (DL.cutD xs (some 1) none)) := fun _ => rfl
  rw [u]
  unfold DL.cutD
  rw [show (some (1 : Int)) = some ((1 : Nat) : Int) from rfl, HT.sIx_nat, HT.sIx_none, List.length_cons, show min 1 (((pI p).map PyData.int).length + 1) = 1 by omega]
  rw [show ((pI p).map PyData.int).length + 1 - 1 = ((pI p).map PyData.int).length by omega, List.drop_succ_cons, List.drop_zero, List.take_length]
  rfl
theorem ix_tm {ts : List Tm} {k : Nat} (hk : k < ts.length) : ixD (.list (ts.map tmD)) (.int (k : Nat)) = some (tmD ts[k]) := by
  obtain ⟨x, ex, hx⟩ := atI_nat (xs := ts.map tmD) (i := (k : Nat)) (by omega) (by rw [List.length_map]; omega)
  rw [Int.toNat_natCast, List.getElem?_map, List.getElem?_eq_getElem hk] at hx
  cases hx
  exact ex
theorem ixn_nat {n k : Nat} (hk : k < n) : ixN n (k : Int) = some k := by
  unfold ixN
  simp
  omega
theorem with_shut {a : Str} {b : Tm} (x : D) : f_with_inner [.d (tmD (.shut a b)), .d (.list [x])] = .ok (.d (.tuple [.str "shut", .str a, x])) [some (.d (tmD (.shut a b))), some (.d (.list [x]))] := by
  have k := kind_is (.shut a b)
  have w : wordT (.shut a b) = "shut" := rfl
  rw [w] at k
  have i1 : ixD (tmD (.shut a b)) (.int 1) = some (.str a) := by rw [tmD]; rfl
  have i0 : ixD (.list [x]) (.int 0) = some x := rfl
  rw [eq_with_inner]
  generalize tmD (.shut a b) = y at *
  simp [k, eq_s, i1, i0]
theorem with_part_ok {u : Tm} : ∀ (p : Pl) (n : Nat) {t v : Tm}, p.length < n → atT t (pI p) = some v → f_with_part n [.d (tmD t), .d (plD p), .d (tmD u)] = .ok (.d (tmD (putT u p t))) [some (.d (tmD t)), some (.d (plD p)), some (.d (tmD u))]
  | _, 0, _, _, h, _ => absurd h (Nat.not_lt_zero _)
  | [], n + 1, t, v, _, _ => by
    rw [eq_with_part, putT]
    have e := pl_nil
    generalize plD [] = y1 at *
    simp [e]
  | k :: p, n + 1, t, v, hn, h => by
    have e0 := pl_ne k p
    have st := pl_star k p
    have tp := pl_tup p
    have hi := inner_ok t
    rw [eq_with_part]
    have io : iO (.int (k : Nat)) = some (k : Int) := rfl
    rcases at_down h with ⟨a, b, rfl, rfl, g⟩ | ⟨a, ts, hk, rfl, g⟩
    · have ih := with_part_ok p n (u := u) (by simp at hn; omega) g
      have l1 : listD (.tuple ((innerT (.shut a b)).map tmD)) = some [tmD b] := rfl
      have ix : ixD (.list [tmD b]) (.int ((0 : Nat) : Int)) = some (tmD b) := rfl
      have w := with_shut (a := a) (b := b) (tmD (putT u p b))
      have xn : ixN 1 ((0 : Nat) : Int) = some 0 := rfl
      rw [put_shut, show tmD (.shut a (putT u p b)) = .tuple [.str "shut", .str a, tmD (putT u p b)] by rw [tmD]]
      generalize (innerT (.shut a b)).map tmD = y0 at *
      generalize plD (0 :: p) = y1 at *
      generalize plD p = y2 at *
      generalize tmD (putT u p b) = y3 at *
      generalize tmD (.shut a b) = y4 at *
      generalize tmD b = y5 at *
      generalize tmD u = y6 at *
      generalize (pI p).map PyData.int = y7 at *
      generalize ((0 : Nat) : Int) = y8 at *
      simp [e0, st, hi, l1, ix, tp, ih, io, xn, w]
    · have ih := with_part_ok p n (u := u) (by simp at hn; omega) g
      have l1 : listD (.tuple ((innerT (.sign a ts)).map tmD)) = some (ts.map tmD) := rfl
      have ix := ix_tm hk
      have w := with_sign (a := a) (ts := ts) ((ts.map tmD).set k (tmD (putT u p ts[k])))
      have xn : ixN (ts.map tmD).length (k : Int) = some k := ixn_nat (by rw [List.length_map]; exact hk)
      rw [put_sign hk, show tmD (.sign a (ts.set k (putT u p ts[k]))) = .tuple [.str "sign", .str a, .tuple ((ts.map tmD).set k (tmD (putT u p ts[k])))] by rw [tmD, tmDs_map, map_set']]
      generalize (innerT (.sign a ts)).map tmD = y0 at *
      generalize plD (k :: p) = y1 at *
      generalize plD p = y2 at *
      generalize tmD (putT u p ts[k]) = y3 at *
      generalize tmD (.sign a ts) = y4 at *
      generalize tmD ts[k] = y5 at *
      generalize tmD u = y6 at *
      generalize (pI p).map PyData.int = y7 at *
      generalize ((k : Nat) : Int) = y8 at *
      generalize ts.map tmD = y9 at *
      simp [e0, st, hi, l1, ix, tp, ih, io, w]
      simp [xn, w]
theorem law_put_ok {u : Tm} : ∀ (p : Pl) (n : Nat) {t v : Tm}, p.length < n → atT t (pI p) = some v → SW.f__law_put n [.d (tmD t), .d (plD p), .d (tmD u)] = .ok (.d (tmD (putT u p t))) [some (.d (tmD t)), some (.d (plD p)), some (.d (tmD u))]
  | _, 0, _, _, h, _ => absurd h (Nat.not_lt_zero _)
  | [], n + 1, t, v, _, _ => by
    rw [eq__law_put, putT]
    have e := pl_nil
    generalize plD [] = y1 at *
    simp [e]
  | k :: p, n + 1, t, v, hn, h => by
    have e0 := pl_ne k p
    have sl := pl_sl k p
    have px := pl_ix k p
    have hi := law_in_ok t
    have kd := kind_is t
    have i1 : iO (.int 1) = some (1 : Int) := rfl
    rw [eq__law_put]
    have io : iO (.int (k : Nat)) = some (k : Int) := rfl
    rcases at_down h with ⟨a, b, rfl, rfl, g⟩ | ⟨a, ts, hk, rfl, g⟩
    · have ih := law_put_ok p n (u := u) (by simp at hn; omega) g
      have l1 : (innerT (.shut a b)).map tmD = [tmD b] := rfl
      rw [l1] at hi
      have ix : ixD (.list [tmD b]) (.int ((0 : Nat) : Int)) = some (tmD b) := rfl
      have w : wordT (.shut a b) = "shut" := rfl
      have j1 : ixD (tmD (.shut a b)) (.int 1) = some (.str a) := by rw [tmD]; rfl
      have j0 : ixD (.list [tmD (putT u p b)]) (.int 0) = some (tmD (putT u p b)) := rfl
      have lk1 : lk (some (.lst [tmD b])) = some (.list [tmD b]) := rfl
      have lk2 : lk (some (.lst [tmD (putT u p b)])) = some (.list [tmD (putT u p b)]) := rfl
      have xn : ixN 1 ((0 : Nat) : Int) = some 0 := rfl
      rw [w] at kd
      rw [put_shut, show tmD (.shut a (putT u p b)) = .tuple [.str "shut", .str a, tmD (putT u p b)] by rw [tmD]]
      clear l1
      generalize plD (0 :: p) = y1 at *
      generalize plD p = y2 at *
      generalize tmD (putT u p b) = y3 at *
      generalize tmD (.shut a b) = y4 at *
      generalize tmD b = y5 at *
      generalize tmD u = y6 at *
      generalize ((0 : Nat) : Int) = y8 at *
      simp [e0, hi, lk1, px, ix, i1, sl, ih, io, xn, kd, eq_s, j1, lk2, j0]
    · have ih := law_put_ok p n (u := u) (by simp at hn; omega) g
      have l1 : (innerT (.sign a ts)).map tmD = ts.map tmD := rfl
      rw [l1] at hi
      have ix := ix_tm hk
      have w : wordT (.sign a ts) = "sign" := rfl
      have j1 : ixD (tmD (.sign a ts)) (.int 1) = some (.str a) := by rw [tmD]; rfl
      have lk1 : lk (some (.lst (ts.map tmD))) = some (.list (ts.map tmD)) := rfl
      have lk2 : lk (some (.lst ((ts.map tmD).set k (tmD (putT u p ts[k]))))) = some (.list ((ts.map tmD).set k (tmD (putT u p ts[k])))) := rfl
      have tp : tupD (.list ((ts.map tmD).set k (tmD (putT u p ts[k])))) = some (.tuple ((ts.map tmD).set k (tmD (putT u p ts[k])))) := rfl
      have xn : ixN (ts.map tmD).length (k : Int) = some k := ixn_nat (by rw [List.length_map]; exact hk)
      rw [w] at kd
      rw [put_sign hk, show tmD (.sign a (ts.set k (putT u p ts[k]))) = .tuple [.str "sign", .str a, .tuple ((ts.map tmD).set k (tmD (putT u p ts[k])))] by rw [tmD, tmDs_map, map_set']]
      clear l1
      generalize plD (k :: p) = y1 at *
      generalize plD p = y2 at *
      generalize tmD (putT u p ts[k]) = y3 at *
      generalize tmD (.sign a ts) = y4 at *
      generalize tmD ts[k] = y5 at *
      generalize tmD u = y6 at *
      generalize ((k : Nat) : Int) = y8 at *
      generalize ts.map tmD = y9 at *
      simp [e0, hi, lk1, px, ix, i1, sl, ih, io, kd, eq_s, j1, word_ne]
      simp [xn, lk2, tp, kd, eq_s, word_ne, j1]
end ST
end
section
set_option maxRecDepth 100000
set_option maxHeartbeats 0
set_option exponentiation.threshold 3000
namespace ST
open PySem PySem.Spec PyProof.Rows L2 DL SH SU SV SW
theorem sure2_yes {x y : D} (hx : FitT 40 x) (tx : termN 40 x = true) (hy : FitT 40 y) (ty : termN 40 y = true) : f_sure_terms [.d (.list [x, y])] = .ok (.d .none) [some (.d (.list [x, y]))] := by
  have e := is_term_ok 40 x hx
  have g := is_term_ok 40 y hy
  rw [tx] at e
  rw [ty] at g
  have it : itemsD (.list [x, y]) = some [x, y] := rfl
  simp [f_sure_terms, m_sure_terms, fnOf, it, forGo_cons, e, g, outsOf]
theorem sure2_1 {x y : D} (hx : FitT 40 x) (tx : termN 40 x = false) : f_sure_terms [.d (.list [x, y])] = .ex ⟨.own "NoTerm", []⟩ := by
  have e := is_term_ok 40 x hx
  rw [tx] at e
  have it : itemsD (.list [x, y]) = some [x, y] := rfl
  simp [f_sure_terms, m_sure_terms, fnOf, it, forGo_cons, e]
theorem sure2_2 {x y : D} (hx : FitT 40 x) (tx : termN 40 x = true) (hy : FitT 40 y) (ty : termN 40 y = false) : f_sure_terms [.d (.list [x, y])] = .ex ⟨.own "NoTerm", []⟩ := by
  have e := is_term_ok 40 x hx
  have g := is_term_ok 40 y hy
  rw [tx] at e
  rw [ty] at g
  have it : itemsD (.list [x, y]) = some [x, y] := rfl
  simp [f_sure_terms, m_sure_terms, fnOf, it, forGo_cons, e, g]
theorem Term28.fit {t : Tm} (h : Term28 t) : FitT 40 (tmD t) := OkT.fit h.ok (by omega) 12
theorem Term28.is {t : Tm} (h : Term28 t) : termN 40 (tmD t) = true := h.ok40.term
theorem put_yes {t u v : Tm} (h : Term28 t) (hu : Term28 u) {p : Pl} (hp : p.length < 40) (e : atT t (pI p) = some v) : f_put_at [.d (tmD t), .d (plD p), .d (tmD u)] = .ok (.d (tmD (putT u p t))) [some (.d (tmD t)), some (.d (plD p)), some (.d (tmD u))] := by
  have a := sure2_yes h.fit h.is hu.fit hu.is
  have b := at_yes h.ok e
  rw [← plD_z] at b
  have c := is_none_tm v
  have w := with_part_ok (u := u) p 40 hp e
  rw [eq_put_at]
  generalize plD p = y1 at *
  generalize tmD (putT u p t) = y2 at *
  generalize tmD t = y3 at *
  generalize tmD u = y4 at *
  generalize tmD v = y5 at *
  simp [a, b, c, w]
theorem put_no {t u : Tm} (h : Term28 t) (hu : Term28 u) {q : List Int} (e : atT t q = none) : f_put_at [.d (tmD t), .d (zD q), .d (tmD u)] = .ex ⟨.own "NoPlace", [("place", zD q)]⟩ := by
  have a := sure2_yes h.fit h.is hu.fit hu.is
  have b := at_no h.ok e
  have c : isD .none .none = some (.bool true) := rfl
  rw [eq_put_at]
  generalize zD q = y1 at *
  generalize tmD t = y2 at *
  generalize tmD u = y4 at *
  simp [a, b, c]
theorem put_bad1 {x y z : D} (hx : FitT 40 x) (tx : termN 40 x = false) : f_put_at [.d x, .d z, .d y] = .ex ⟨.own "NoTerm", []⟩ := by
  have a := sure2_1 (y := y) hx tx
  rw [eq_put_at]
  simp [a]
theorem put_bad2 {x y z : D} (hx : FitT 40 x) (tx : termN 40 x = true) (hy : FitT 40 y) (ty : termN 40 y = false) : f_put_at [.d x, .d z, .d y] = .ex ⟨.own "NoTerm", []⟩ := by
  have a := sure2_2 hx tx hy ty
  rw [eq_put_at]
  simp [a]
theorem said5_no {t u : Tm} (h : Term28 t) (hu : Term28 u) {q : List Int} (e : atT t q = none) : f__law_said_5 [.d (tmD t), .d (zD q), .d (tmD u)] = .ok (.d (.tuple [.str "no place", zD q])) [some (.d (tmD t)), some (.d (zD q)), some (.d (tmD u))] := by
  have a := put_no h hu e
  have b := xf4 (zD q)
  have c := tab4.1
  rw [eq__law_said_5]
  generalize zD q = y1 at *
  generalize tmD t = y2 at *
  generalize tmD u = y4 at *
  simp [a, b, c]
theorem said5_ex {x y z : D} (a : f_put_at [.d x, .d z, .d y] = .ex ⟨.own "NoTerm", []⟩) : f__law_said_5 [.d x, .d z, .d y] = .ok (.d (.tuple [.str "no term", .tuple []])) [some (.d x), some (.d z), some (.d y)] := by
  have c := tab4.2.1
  have d := tab4.2.2
  rw [eq__law_said_5]
  simp [a, c, d]
theorem at_neg : ∀ {t : Tm} {q : List Int} {i : Int}, i ∈ q → i < 0 → atT t q = none
  | t, j :: q, i, h, hi => by
    rw [atT]
    by_cases hj : j < 0
    · rw [if_pos hj]
    · rw [if_neg hj]
      rcases List.mem_cons.mp h with rfl | h
      · exact absurd hi hj
      · cases (innerT t)[j.toNat]? with
        | none => rfl
        | some b => exact at_neg h hi
theorem law_places_ok : ∀ (n : Nat) (t : Tm), n ≤ 40 → OkT n t → (everyK n t).length ≤ 500 → SW.f__law_places n [.d (tmD t)] = .ok (.d (.list ((everyK n t).map plD))) [some (.d (tmD t))]
  | 0, _, _, h, _ => h.elim
  | n + 1, t, hn, h, hl => by
    have hi := law_in_ok t
    have en : enumA (.list ((innerT t).map tmD)) = some ((innerT t).zipIdx.map enT) := enum_in t
    have hl : ((innerT t).zipIdx.flatMap fun q => (everyK n q.1).map fun p => q.2 :: p).length + 1 ≤ 500 := hl
    obtain ⟨s', f, rfl⟩ := forS_map (b := q1__law_places (SW.f__law_places n)) (f := enT) (l := (innerT t).zipIdx) (s := .list [.tuple []]) (fun pre s => s = .list (([] :: pre.flatMap fun q => (everyK n q.1).map fun p => q.2 :: p).map plD)) rfl fun pre q post s e hs => by
      subst hs
      have hq : q ∈ (innerT t).zipIdx := by rw [e]; simp
      have ll : (pre.flatMap fun q => (everyK n q.1).map fun p => q.2 :: p).length + (everyK n q.1).length ≤ 499 := by
        rw [e, List.flatMap_append, List.flatMap_cons, List.length_append, List.length_append, List.length_map] at hl
        omega
      have ih := law_places_ok n q.1 (by omega) (h.inner q.1 (List.fst_mem_of_mem_zipIdx hq)) (by omega)
      have g : lcP (c2__law_places (.int (q.2 : Nat))) ((everyK n q.1).map plD) = .ok (((everyK n q.1).map fun p => q.2 :: p).map plD) := by
        rw [List.map_map]
        exact lcP_map (pe := c2__law_places (.int (q.2 : Nat))) (f := plD) (g := fun p => plD (q.2 :: p)) (l := everyK n q.1) fun p hp => by
          have ad := add_zk q.2 p (by have := everyK_len n q.1 p hp; omega)
          generalize plD (q.2 :: p) = z1 at *
          generalize plD p = z2 at *
          generalize ((q.2 : Nat) : Int) = z3 at *
          simp [c2__law_places, ad]
      have al := add_l (a := ([] :: pre.flatMap fun q => (everyK n q.1).map fun p => q.2 :: p).map plD) (b := ((everyK n q.1).map fun p => q.2 :: p).map plD) (by rw [List.length_map, List.length_map, List.length_map, List.length_cons]; omega)
      refine ⟨.list (([] :: pre.flatMap fun q => (everyK n q.1).map fun p => q.2 :: p).map plD ++ ((everyK n q.1).map fun p => q.2 :: p).map plD), ?_, ?_⟩
      · unfold enT
        have it : itemsD (.list ((everyK n q.1).map plD)) = some ((everyK n q.1).map plD) := rfl
        clear ll
        generalize ((everyK n q.1).map fun p => q.2 :: p).map plD = y1 at *
        generalize (everyK n q.1).map plD = y2 at *
        generalize ([] :: pre.flatMap fun q => (everyK n q.1).map fun p => q.2 :: p).map plD = y3 at *
        generalize tmD q.1 = y4 at *
        generalize ((q.2 : Nat) : Int) = y5 at *
        simp [q1__law_places, tupO, ih, it, g, al]
      · rw [List.flatMap_append, List.flatMap_singleton, ← List.map_append]
        rfl
    have fz : OV.frz (.lst ((innerT t).map tmD)) = some (.list ((innerT t).map tmD)) := rfl
    rw [eq__law_places, everyK]
    generalize ([] :: (innerT t).zipIdx.flatMap fun q => (everyK n q.1).map fun p => q.2 :: p).map plD = y1 at *
    generalize (innerT t).zipIdx.map enT = y3 at *
    generalize (innerT t).map tmD = y4 at *
    generalize tmD t = y5 at *
    simp [hi, fz, en, f]
theorem OkT.at {v : Tm} : ∀ {n : Nat} {t : Tm} (q : List Int), OkT n t → atT t q = some v → ∃ m, m ≤ n ∧ OkT m v
  | n, t, [], h, e => by cases e; exact ⟨n, Nat.le_refl _, h⟩
  | 0, _, _ :: _, h, _ => h.elim
  | n + 1, t, i :: q, h, e => by
    rw [atT] at e
    split at e
    · cases e
    · split at e
      · rename_i b hb
        obtain ⟨m, h1, h2⟩ := OkT.at q (h.inner b (List.mem_of_getElem? hb)) e
        exact ⟨m, by omega, h2⟩
      · cases e
theorem at_few {v : Tm} : ∀ {t : Tm} (q : List Int), atT t q = some v → ∀ m, ∃ k, (everyP m v).length ≤ (everyP (m + k) t).length
  | t, [], e, m => by cases e; exact ⟨0, Nat.le_refl _⟩
  | t, i :: q, e, m => by
    rw [atT] at e
    split at e
    · cases e
    · split at e
      · rename_i b hb
        obtain ⟨k, h⟩ := at_few q e m
        refine ⟨k + 1, Nat.le_trans h ?_⟩
        have := part_le (everyP (m + k)) (List.mem_of_getElem? hb)
        show _ ≤ (t :: (innerT t).flatMap (everyP (m + k))).length
        rw [List.length_cons]; omega
      · cases e
theorem Few.at {j : Nat} {t v : Tm} (h : Few j t) {q : List Int} (e : atT t q = some v) : Few j v := fun m => by
  obtain ⟨k, h1⟩ := at_few q e m
  exact Nat.le_trans h1 (h _)
theorem mem_at {n : Nat} {t : Tm} {p : Pl} (h : p ∈ everyK n t) : ∃ v, atT t (pI p) = some v := by
  rw [← allT_fst] at h
  obtain ⟨z, hz, rfl⟩ := List.mem_map.mp h
  exact ⟨z.2, at_all n t hz⟩
theorem Few.put {j k : Nat} {t u v : Tm} (h : Few j t) (hu : Few k u) {p : Pl} (e : atT t (pI p) = some v) : Few (j + k) (putT u p t) := fun m => by
  have := put_few hu e m
  have := h m
  omega
end ST
end
section
set_option maxRecDepth 100000
set_option maxHeartbeats 0
namespace K13
open PySem PySem.Spec PyProof.Rows L2 DL
abbrev P : Program := PySem.Challenge.pw_shutnames_k13_parts_put_in
def top (i : Nat) : Stmt := P.main.body.getD i (.Pass ⟨0, 0, 0, 0⟩)
abbrev s_is_called : Stmt := top 8
abbrev s_is_name : Stmt := top 9
abbrev s_is_turn : Stmt := top 10
abbrev s_is_hole : Stmt := top 13
abbrev s_is_term : Stmt := top 14
abbrev s_sure_terms : Stmt := top 15
abbrev s_inner : Stmt := top 16
abbrev s_with_inner : Stmt := top 17
abbrev s_at_place : Stmt := top 18
abbrev s_with_part : Stmt := top 19
abbrev s_part_at : Stmt := top 20
abbrev s_put_at : Stmt := top 21
abbrev s__law_mixed : Stmt := top 23
abbrev s__law_pile : Stmt := top 24
abbrev s__law_take : Stmt := top 25
abbrev s__law_name : Stmt := top 26
abbrev s__law_names : Stmt := top 27
abbrev s__law_order : Stmt := top 28
abbrev s__law_turn : Stmt := top 29
abbrev s__law_holes : Stmt := top 30
abbrev s__law_sign : Stmt := top 31
abbrev s__law_term : Stmt := top 32
abbrev s__law_any : Stmt := top 33
abbrev s__law_in : Stmt := top 34
abbrev s__law_parts : Stmt := top 35
abbrev s__law_strange : Stmt := top 36
abbrev s__law_places : Stmt := top 37
abbrev s__law_put : Stmt := top 38
abbrev s__law_said : Stmt := top 39
abbrev s_law : Stmt := top 40
abbrev si_NoPlace : Stmt := meth (top 3) 0
theorem sc_is_called : FnScope ["thing", "letters", "sign"] ["thing", "letters"] (defScope s_is_called) := ⟨rfl, rfl, rfl, by decide +kernel, rfl, by decide +kernel, by decide +kernel⟩
theorem sc_is_name : FnScope ["thing"] ["thing"] (defScope s_is_name) := ⟨rfl, rfl, rfl, by decide +kernel, rfl, by decide +kernel, by decide +kernel⟩
theorem sc_is_turn : FnScope ["thing", "pair", "name", "to", "names"] ["thing"] (defScope s_is_turn) := ⟨rfl, rfl, rfl, by decide +kernel, rfl, by decide +kernel, by decide +kernel⟩
theorem sc_is_hole : FnScope ["thing"] ["thing"] (defScope s_is_hole) := ⟨rfl, rfl, rfl, by decide +kernel, rfl, by decide +kernel, by decide +kernel⟩
theorem sc_is_term : FnScope ["thing", "kind", "one", "other", "part"] ["thing"] (defScope s_is_term) := ⟨rfl, rfl, rfl, by decide +kernel, rfl, by decide +kernel, by decide +kernel⟩
theorem sc_sure_terms : FnScope ["terms", "term"] ["terms"] (defScope s_sure_terms) := ⟨rfl, rfl, rfl, by decide +kernel, rfl, by decide +kernel, by decide +kernel⟩
theorem sc_inner : FnScope ["term"] ["term"] (defScope s_inner) := ⟨rfl, rfl, rfl, by decide +kernel, rfl, by decide +kernel, by decide +kernel⟩
theorem sc_with_inner : FnScope ["term", "parts"] ["term", "parts"] (defScope s_with_inner) := ⟨rfl, rfl, rfl, by decide +kernel, rfl, by decide +kernel, by decide +kernel⟩
theorem sc_at_place : FnScope ["term", "place", "number", "parts"] ["term", "place"] (defScope s_at_place) := ⟨rfl, rfl, rfl, by decide +kernel, rfl, by decide +kernel, by decide +kernel⟩
theorem sc_with_part : FnScope ["term", "place", "part", "first", "rest", "parts"] ["term", "place", "part"] (defScope s_with_part) := ⟨rfl, rfl, rfl, by decide +kernel, rfl, by decide +kernel, by decide +kernel⟩
theorem sc_part_at : FnScope ["term", "place", "found"] ["term", "place"] (defScope s_part_at) := ⟨rfl, rfl, rfl, by decide +kernel, rfl, by decide +kernel, by decide +kernel⟩
theorem sc_put_at : FnScope ["term", "place", "part"] ["term", "place", "part"] (defScope s_put_at) := ⟨rfl, rfl, rfl, by decide +kernel, rfl, by decide +kernel, by decide +kernel⟩
theorem sc__law_mixed : FnScope ["_law_cell", "_law_k", "_law_number"] ["_law_cell", "_law_k"] (defScope s__law_mixed) := ⟨rfl, rfl, rfl, by decide +kernel, rfl, by decide +kernel, by decide +kernel⟩
theorem sc__law_pile : FnScope ["_law_script", "_law_k", "_law_cell", "_law_digits"] ["_law_script", "_law_k"] (defScope s__law_pile) := ⟨rfl, rfl, rfl, by decide +kernel, rfl, by decide +kernel, by decide +kernel⟩
theorem sc__law_take : FnScope ["_law_pile_here", "_law_many", "_law_digit"] ["_law_pile_here", "_law_many"] (defScope s__law_take) := ⟨rfl, rfl, rfl, by decide +kernel, rfl, by decide +kernel, by decide +kernel⟩
theorem sc__law_name : FnScope ["_law_pile_here", "_law_kind", "_law_letters", "_law_name_here", "_law_k"] ["_law_pile_here"] (defScope s__law_name) := ⟨rfl, rfl, rfl, by decide +kernel, rfl, by decide +kernel, by decide +kernel⟩
theorem sc__law_names : FnScope ["_law_pile_here", "_law_many", "_law_found", "_law_k", "_law_name_here", "_law_one"] ["_law_pile_here", "_law_many"] (defScope s__law_names) := ⟨rfl, rfl, rfl, by decide +kernel, rfl, by decide +kernel, by decide +kernel⟩
theorem sc__law_order : FnScope ["_law_pile_here", "_law_some", "_law_left", "_law_found"] ["_law_pile_here", "_law_some"] (defScope s__law_order) := ⟨rfl, rfl, rfl, by decide +kernel, rfl, by decide +kernel, by decide +kernel⟩
theorem sc__law_turn : FnScope ["_law_pile_here", "_law_names_here", "_law_kind", "_law_others", "_law_one", "_law_two", "_law_last_one", "_law_name_here", "_law_to"] ["_law_pile_here", "_law_names_here"] (defScope s__law_turn) := ⟨rfl, rfl, rfl, by decide +kernel, rfl, by decide +kernel, by decide +kernel⟩
theorem sc__law_holes : FnScope ["_law_pile_here", "_law_many", "_law_letters", "_law_found", "_law_k", "_law_hole", "_law_j", "_law_one"] ["_law_pile_here", "_law_many"] (defScope s__law_holes) := ⟨rfl, rfl, rfl, by decide +kernel, rfl, by decide +kernel, by decide +kernel⟩
theorem sc__law_sign : FnScope ["_law_pile_here", "_law_names_here"] ["_law_pile_here", "_law_names_here"] (defScope s__law_sign) := ⟨rfl, rfl, rfl, by decide +kernel, rfl, by decide +kernel, by decide +kernel⟩
theorem sc__law_term : FnScope ["_law_pile_here", "_law_names_here", "_law_some", "_law_depth", "_law_kind", "_law_leaf", "_law_many", "_law_parts_here", "_law_k"] ["_law_pile_here", "_law_names_here", "_law_some", "_law_depth"] (defScope s__law_term) := ⟨rfl, rfl, rfl, by decide +kernel, rfl, by decide +kernel, by decide +kernel⟩
theorem sc__law_any : FnScope ["_law_pile_here", "_law_names_here", "_law_some", "_law_kind", "_law_term_here", "_law_k", "_law_parts_here"] ["_law_pile_here", "_law_names_here", "_law_some"] (defScope s__law_any) := ⟨rfl, rfl, rfl, by decide +kernel, rfl, by decide +kernel, by decide +kernel⟩
theorem sc__law_in : FnScope ["_law_term_here"] ["_law_term_here"] (defScope s__law_in) := ⟨rfl, rfl, rfl, by decide +kernel, rfl, by decide +kernel, by decide +kernel⟩
theorem sc__law_strange : FnScope ["_law_pile_here", "_law_words", "_law_others"] ["_law_pile_here"] (defScope s__law_strange) := ⟨rfl, rfl, rfl, by decide +kernel, rfl, by decide +kernel, by decide +kernel⟩
theorem sc__law_places : FnScope ["_law_term_here", "_law_found", "_law_k", "_law_part", "_law_place"] ["_law_term_here"] (defScope s__law_places) := ⟨rfl, rfl, rfl, by decide +kernel, rfl, by decide +kernel, by decide +kernel⟩
theorem sc__law_put : FnScope ["_law_term_here", "_law_place", "_law_part", "_law_parts_here"] ["_law_term_here", "_law_place", "_law_part"] (defScope s__law_put) := ⟨rfl, rfl, rfl, by decide +kernel, rfl, by decide +kernel, by decide +kernel⟩
theorem sc__law_said : FnScope ["_law_term_here", "_law_place", "_law_part", "e"] ["_law_term_here", "_law_place", "_law_part"] (defScope s__law_said) := ⟨rfl, rfl, rfl, by decide +kernel, rfl, by decide +kernel, by decide +kernel⟩
theorem sc_law : FnScope ["_law_script", "_law_k", "_law_pile_here", "_law_names_here", "_law_some", "_law_term_here", "_law_further", "_law_place", "_law_told", "_law_strange_here", "_law_far"] ["_law_script"] (defScope s_law) := ⟨rfl, rfl, rfl, by decide +kernel, rfl, by decide +kernel, by decide +kernel⟩
theorem sci_NoPlace : FnScope ["self", "place"] ["self", "place"] (defScope si_NoPlace) := ⟨rfl, rfl, rfl, by decide +kernel, rfl, by decide +kernel, by decide +kernel⟩
noncomputable def g1_law : M Bool := (mOr (mB (mBin neD (mVar 8) (mFrz (mCall (SW.f__law_put 40) (gD (mVar 5) (gD (mVar 7) (gD (mVar 6) gNil))))))) (mB (mBin neD (mFrz (mCall SW.f_part_at (gD (mVar 8) (gD (mVar 7) gNil)))) (mVar 6))))
noncomputable abbrev b2_law : M Fl := (sK [7, 8] (sSeq (sSet 8 (mFrz (mCall SW.f_put_at (gD (mVar 5) (gD (mVar 7) (gD (mVar 6) gNil)))))) (sSeq (mIf g1_law (sRet (mD (mC (.bool false)))) sNil) (mIf (mB (mBin neD (mFrz (mCall SW.f_put_at (gD (mVar 8) (gD (mVar 7) (gD (mFrz (mCall SW.f_part_at (gD (mVar 5) (gD (mVar 7) gNil)))) gNil))))) (mVar 5))) (sRet (mD (mC (.bool false)))) sNil))))
noncomputable def g3_law : M Bool := (mOr (mB (mBin neD (mFrz (mCall SW.f__law_said_5 (gD (mVar 5) (gD (mVar 10) (gD (mVar 6) gNil))))) (mTup (mCons (mC (.str "no place")) (mCons (mVar 10) mNil))))) (mB (mBin neD (mFrz (mCall SW.f__law_said_5 (gD (mVar 5) (gD (mTup (mCons (mF1 negD (mC (.int 1))) mNil)) (gD (mVar 6) gNil))))) (mTup (mCons (mC (.str "no place")) (mCons (mTup (mCons (mF1 negD (mC (.int 1))) mNil)) mNil))))))
noncomputable abbrev b4_law : M Fl := (sK [1, 2, 3, 4, 5, 6, 7, 8, 9, 10] (sSeq (sSetO 2 (mCall SH.f__law_pile (gD (mVar 0) (gD (mVar 1) gNil)))) (sSeq (sSet 3 (mFrz (mCall SH.f__law_names (gO 2 (gD (mBin addD (mC (.int 1)) (mFrz (mCall SH.f__law_take (gO 2 (gD (mC (.int 6)) gNil))))) gNil))))) (sSeq (sSet 4 (mFrz (mCall ST.f__law_holes (gO 2 (gD (mFrz (mCall SH.f__law_take (gO 2 (gD (mC (.int 7)) gNil)))) gNil))))) (sSeq (sSet 5 (mFrz (mCallT SU.f__law_any (gOt 2 (gDt (mVar 3) (gT (mLst (mBinN mulL (mVar 4) (mC (.int 2)))))))))) (sSeq (sSet 6 (mFrz (mCallX (SU.f__law_term 40) [] (wO 2 (wD (mVar 3) (wN (mLst (mFN listD (mVar 4))) (wD (mC (.int 2)) wNil))))))) (sSeq (sKb [7, 8] (sFor (mItems (mFrz (mCall (SW.f__law_places 40) (gD (mVar 5) gNil)))) (tName 7) b2_law)) (sSeq (sSet 9 (mTup (mCons (mC (.str "sign")) (mCons (mC (.str "f")) (mCons (mTup (mCons (mFrz (mCall SH.f__law_strange (gO 2 gNil))) mNil)) mNil))))) (sSeq (sSet 10 (mTup (mCons (mC (.int 0)) (mCons (mC (.int 1)) (mCons (mC (.int 2)) (mCons (mC (.int 3)) (mCons (mBin subD (mF1 negD (mC (.int 1))) (mFrz (mCall SH.f__law_take (gO 2 (gD (mC (.int 3)) gNil))))) mNil))))))) (sSeq (mIf g3_law (sRet (mD (mC (.bool false)))) sNil) (sSeq (mIf (mB (mBin neD (mLstF (mCons (mBin ixD (mFrz (mCall SW.f__law_said_5 (gD (mVar 5) (gD (mVar 10) (gD (mVar 9) gNil))))) (mC (.int 0))) (mCons (mBin ixD (mFrz (mCall SW.f__law_said_5 (gD (mVar 9) (gD (mVar 10) (gD (mVar 5) gNil))))) (mC (.int 0))) mNil))) (mLstF (mCons (mC (.str "no term")) (mCons (mC (.str "no term")) mNil))))) (sRet (mD (mC (.bool false)))) sNil) (mIf (mB (mBin neD (mBin ixD (mFrz (mCall SW.f__law_said_5 (gD (mVar 5) (gD (mTup mNil) (gD (mVar 9) gNil))))) (mC (.int 0))) (mC (.str "no term")))) (sRet (mD (mC (.bool false)))) sNil))))))))))))
noncomputable def m_law : M Fl := (sSeq (sKb [1, 2, 3, 4, 5, 6, 7, 8, 9, 10] (sFor (mRange1 (mC (.int 20))) (tName 1) b4_law)) (sRet (mD (mC (.bool true)))))
noncomputable def f_law : Fn := fnOf 11 1 [] m_law
noncomputable def h3_law (a5 : D) (a6 : D) (a7 : D) (a8 : D) : Pr Bool :=
 cB ((SW.f__law_put 40) [.d a5, .d a7, .d a6]) fun v37 w38 =>
 oB (OV.frz v37) fun v39 =>
 oB (neD a8 v39) fun v40 =>
 oB (bO v40) fun v41 =>
 pB (if v41 = true then
 .ok true else
 cB (SW.f_part_at [.d a8, .d a7]) fun v42 w43 =>
 oB (OV.frz v42) fun v44 =>
 oB (neD v44 a6) fun v45 =>
 oB (bO v45) fun v46 =>
 .ok v46) fun v47 =>
 .ok v47
theorem r3_law {T : Type} [Tg T] (a0 : Option OV) (a1 : Option OV) (a2 : Option OV) (a3 : Option OV) (a4 : Option OV) (a5 : D) (a6 : D) (a7 : D) (a8 : D) (u9 : Option OV) (u10 : Option OV) (k : Bool → DL.Env → T) : rB (g1_law [a0, a1, a2, a3, a4, some (.d a5), some (.d a6), some (.d a7), some (.d a8), u9, u10]) k hE = pB (h3_law a5 a6 a7 a8) fun z => k z [a0, a1, a2, a3, a4, some (.d a5), some (.d a6), some (.d a7), some (.d a8), u9, u10] := by
  simp (maxSteps := 2000000) only [g1_law, h3_law, RB, RBY, Nat.reduceAdd, Nat.reduceBEq]
noncomputable def q2_law (a5 : D) (a6 : D) (x : D) (s : Unit) : Pr (Fo Unit) :=
 cB (SW.f_put_at [.d a5, .d x, .d a6]) fun v34 w35 =>
 oB (OV.frz v34) fun v36 =>
 pB (h3_law a5 a6 x v36) fun v48 =>
 if v48 = true then
  .ok (.rt (.d (.bool false)) ()) else
 cB (SW.f_part_at [.d a5, .d x]) fun v49 w50 =>
 oB (OV.frz v49) fun v51 =>
 cB (SW.f_put_at [.d v36, .d x, .d v51]) fun v52 w53 =>
 oB (OV.frz v52) fun v54 =>
 oB (neD v54 a5) fun v55 =>
 oB (bO v55) fun v56 =>
 if v56 = true then
  .ok (.rt (.d (.bool false)) ()) else
 .ok (.nx ())
theorem r2_law {T : Type} [Tg T] (a0 : Option OV) (a1 : Option OV) (a2 : Option OV) (a3 : Option OV) (a4 : Option OV) (a5 : D) (a6 : D) (u9 : Option OV) (u10 : Option OV) (xs : List D) (k : Fl → DL.Env → T) : rB (forGo (tName 7) b2_law xs [a0, a1, a2, a3, a4, some (.d a5), some (.d a6), none, none, u9, u10]) k hE = lF (forF (q2_law a5 a6) xs ()) (fun o s => k (.rt o) [a0, a1, a2, a3, a4, some (.d a5), some (.d a6), none, none, u9, u10]) fun s => k .nx [a0, a1, a2, a3, a4, some (.d a5), some (.d a6), none, none, u9, u10] :=
  for_rBF (E := fun (s : Unit) => [a0, a1, a2, a3, a4, some (.d a5), some (.d a6), none, none, u9, u10]) (pb := (q2_law a5 a6)) (fun x s => by unfold stp; simp (maxSteps := 2000000) only [b2_law, q2_law, RB, RBY, Nat.reduceAdd, Nat.reduceBEq, r3_law]) k xs ()
noncomputable def h4_law (a5 : D) (a6 : D) (a10 : D) : Pr Bool :=
 cB (SW.f__law_said_5 [.d a5, .d a10, .d a6]) fun v69 w70 =>
 oB (OV.frz v69) fun v71 =>
 oB (neD v71 (.tuple [(.str "no place"), a10])) fun v72 =>
 oB (bO v72) fun v73 =>
 pB (if v73 = true then
 .ok true else
 oB (negD (.int 1)) fun v74 =>
 cB (SW.f__law_said_5 [.d a5, .d (.tuple [v74]), .d a6]) fun v75 w76 =>
 oB (OV.frz v75) fun v77 =>
 oB (negD (.int 1)) fun v78 =>
 oB (neD v77 (.tuple [(.str "no place"), (.tuple [v78])])) fun v79 =>
 oB (bO v79) fun v80 =>
 .ok v80) fun v81 =>
 .ok v81
theorem r4_law {T : Type} [Tg T] (a0 : Option OV) (a1 : Option OV) (a2 : Option OV) (a3 : Option OV) (a4 : Option OV) (a5 : D) (a6 : D) (u7 : Option OV) (u8 : Option OV) (a9 : Option OV) (a10 : D) (k : Bool → DL.Env → T) : rB (g3_law [a0, a1, a2, a3, a4, some (.d a5), some (.d a6), u7, u8, a9, some (.d a10)]) k hE = pB (h4_law a5 a6 a10) fun z => k z [a0, a1, a2, a3, a4, some (.d a5), some (.d a6), u7, u8, a9, some (.d a10)] := by
  simp (maxSteps := 2000000) only [g3_law, h4_law, RB, RBY, Nat.reduceAdd, Nat.reduceBEq, r3_law, r2_law]
noncomputable def q1_law (a0 : D) (x : D) (s : Unit) : Pr (Fo Unit) :=
 cB (SH.f__law_pile [.d a0, .d x]) fun v2 w3 =>
 cB (SH.f__law_take [v2, .d (.int 6)]) fun v4 w5 =>
 oB (OV.frz v4) fun v6 =>
 oB (addD (.int 1) v6) fun v7 =>
 oB (gt w5 0) fun v8 =>
 cB (SH.f__law_names [v8, .d v7]) fun v9 w10 =>
 oB (OV.frz v9) fun v11 =>
 oB (gt w10 0) fun _ =>
 oB (gt w10 0) fun _ =>
 oB (gt w10 0) fun v12 =>
 cB (SH.f__law_take [v12, .d (.int 7)]) fun v13 w14 =>
 oB (OV.frz v13) fun v15 =>
 oB (gt w14 0) fun v16 =>
 cB (ST.f__law_holes [v16, .d v15]) fun v17 w18 =>
 oB (OV.frz v17) fun v19 =>
 oB (gt w18 0) fun _ =>
 oB (mulL v19 (.int 2)) fun v20 =>
 oB (gt w18 0) fun v21 =>
 cB (SU.f__law_any [v21, .d v11, (.lst v20)]) fun v22 w23 =>
 oB (OV.frz v22) fun v24 =>
 oB (gt w23 0) fun _ =>
 oB (listD v19) fun v25 =>
 oB (gt w23 0) fun v26 =>
 cB ((SU.f__law_term 40) [v26, .d v11, (.lst v25), .d (.int 2)]) fun v27 w28 =>
 oB (OV.frz v27) fun v29 =>
 cB ((SW.f__law_places 40) [.d v24]) fun v30 w31 =>
 oB (OV.frz v30) fun v32 =>
 oB (itemsD v32) fun v33 =>
 lF (forF (q2_law v24 v29) v33 ()) (fun v58 s57 => .ok (.rt v58 ())) fun s57 =>
 oB (gt w28 0) fun _ =>
 oB (gt w28 0) fun v59 =>
 cB (SH.f__law_strange [v59]) fun v60 w61 =>
 oB (OV.frz v60) fun v62 =>
 oB (negD (.int 1)) fun v63 =>
 oB (gt w61 0) fun _ =>
 oB (gt w61 0) fun v64 =>
 cB (SH.f__law_take [v64, .d (.int 3)]) fun v65 w66 =>
 oB (OV.frz v65) fun v67 =>
 oB (subD v63 v67) fun v68 =>
 pB (h4_law v24 v29 (.tuple [(.int 0), (.int 1), (.int 2), (.int 3), v68])) fun v82 =>
 if v82 = true then
  .ok (.rt (.d (.bool false)) ()) else
 cB (SW.f__law_said_5 [.d v24, .d (.tuple [(.int 0), (.int 1), (.int 2), (.int 3), v68]), .d (.tuple [(.str "sign"), (.str "f"), (.tuple [v62])])]) fun v83 w84 =>
 oB (OV.frz v83) fun v85 =>
 oB (ixD v85 (.int 0)) fun v86 =>
 cB (SW.f__law_said_5 [.d (.tuple [(.str "sign"), (.str "f"), (.tuple [v62])]), .d (.tuple [(.int 0), (.int 1), (.int 2), (.int 3), v68]), .d v24]) fun v87 w88 =>
 oB (OV.frz v87) fun v89 =>
 oB (ixD v89 (.int 0)) fun v90 =>
 oB (neD (.list [v86, v90]) (.list [(.str "no term"), (.str "no term")])) fun v91 =>
 oB (bO v91) fun v92 =>
 if v92 = true then
  .ok (.rt (.d (.bool false)) ()) else
 cB (SW.f__law_said_5 [.d v24, .d (.tuple []), .d (.tuple [(.str "sign"), (.str "f"), (.tuple [v62])])]) fun v93 w94 =>
 oB (OV.frz v93) fun v95 =>
 oB (ixD v95 (.int 0)) fun v96 =>
 oB (neD v96 (.str "no term")) fun v97 =>
 oB (bO v97) fun v98 =>
 if v98 = true then
  .ok (.rt (.d (.bool false)) ()) else
 .ok (.nx ())
theorem r1_law {T : Type} [Tg T] (a0 : D) (xs : List D) (k : Fl → DL.Env → T) : rB (forGo (tName 1) b4_law xs [some (.d a0), none, none, none, none, none, none, none, none, none, none]) k hE = lF (forF (q1_law a0) xs ()) (fun o s => k (.rt o) [some (.d a0), none, none, none, none, none, none, none, none, none, none]) fun s => k .nx [some (.d a0), none, none, none, none, none, none, none, none, none, none] :=
  for_rBF (E := fun (s : Unit) => [some (.d a0), none, none, none, none, none, none, none, none, none, none]) (pb := (q1_law a0)) (fun x s => by unfold stp; simp (maxSteps := 2000000) only [b4_law, q1_law, RB, RBY, Nat.reduceAdd, Nat.reduceBEq, r3_law, r2_law, r4_law]) k xs ()
theorem eq_law (x0 : D) : f_law [.d x0] =
 oB (range1 (.int 20)) fun v1 =>
 lF (forF (q1_law x0) v1 ()) (fun v100 s99 => .ok v100 [some (.d x0)]) fun s99 =>
 .ok (.d (.bool true)) [some (.d x0)] := by
  refine (fn_eq (m := m_law) (ρ := [some (.d x0), none, none, none, none, none, none, none, none, none, none]) rfl rfl).trans ?_
  have oe : ∀ ρ : DL.Env, outsOf [] ρ 0 [.d x0] = [some (.d x0)] := fun _ => rfl
  simp (maxSteps := 2000000) only [m_law, RB, RBY, Nat.reduceAdd, Nat.reduceBEq, r3_law, r2_law, r4_law, r1_law, oe]
structure Wd (K : Frag) (mg : Str → Option Value) where
  b_abs : mg "abs" = none
  b_all : mg "all" = none
  b_enumerate : mg "enumerate" = none
  b_int : mg "int" = none
  b_isinstance : mg "isinstance" = none
  b_len : mg "len" = none
  b_list : mg "list" = none
  b_range : mg "range" = none
  b_set : mg "set" = none
  b_sorted : mg "sorted" = none
  b_str : mg "str" = none
  b_tuple : mg "tuple" = none
  b_zip : mg "zip" = none
  c_FIGURES : ∃ t, mg "FIGURES" = some (.str "0123456789" t)
  c_GREAT : ∃ t, mg "GREAT" = some (.str "ABCDEFGHIJKLMNOPQRSTUVWXYZ" t)
  c_LONGEST : ∃ t, mg "LONGEST" = some (.int 8 t)
  c_SMALL : ∃ t, mg "SMALL" = some (.str "abcdefghijklmnopqrstuvwxyz" t)
  n_NoPlace : mg "NoPlace" = some (.ref (He.ga K "NoPlace"))
  n_NoTerm : mg "NoTerm" = some (.ref (He.ga K "NoTerm"))
  n_ShutError : mg "ShutError" = some (.ref (He.ga K "ShutError"))
  x_NoTerm : PySem.W.excIn K (He.ga K "NoTerm") [.type "ValueError", .type "Exception", .type "BaseException", .type "object"] "ValueError.__new__" = true ∧ PySem.W.keepIn K (.ref (He.ga K "NoTerm")) = true ∧ PySem.W.subIn K (.ref (He.ga K "NoTerm")) (.type "BaseException") = some true ∧ PySem.W.typeIn K (.ref (He.ga K "NoTerm")) = some (.type "type")
  e_NoPlace_NoPlace : PySem.W.exmOne K (.ref (He.ga K "NoPlace")) (.ref (He.ga K "NoPlace")) = some true
  e_NoPlace_NoTerm : PySem.W.exmOne K (.ref (He.ga K "NoPlace")) (.ref (He.ga K "NoTerm")) = some false
  e_NoTerm_NoPlace : PySem.W.exmOne K (.ref (He.ga K "NoTerm")) (.ref (He.ga K "NoPlace")) = some false
  e_NoTerm_NoTerm : PySem.W.exmOne K (.ref (He.ga K "NoTerm")) (.ref (He.ga K "NoTerm")) = some true
  na_NoPlace_place : PySem.W.findIn K (.ref (He.ga K "NoPlace")) "place" = some none
  B_ShutError : XbC K (He.ga K "ShutError")
  xf_NoPlace : XfC K (He.ga K "NoPlace")
  ai_NoPlace : Addr
  di_NoPlace : FuncData
  Fi_NoPlace : FunD K "__init__" "NoPlace.__init__" (defArgs si_NoPlace) (defBody si_NoPlace) (defScope si_NoPlace) [] [] ai_NoPlace di_NoPlace
  X_NoPlace : XnC K (He.ga K "NoPlace") ai_NoPlace
  a_is_called : Addr
  d_is_called : FuncData
  F_is_called : FunD K "is_called" "is_called" (defArgs s_is_called) (defBody s_is_called) (defScope s_is_called) [] [] a_is_called d_is_called
  m_is_called : mg "is_called" = some (.ref a_is_called)
  a_is_name : Addr
  d_is_name : FuncData
  F_is_name : FunD K "is_name" "is_name" (defArgs s_is_name) (defBody s_is_name) (defScope s_is_name) [] [] a_is_name d_is_name
  m_is_name : mg "is_name" = some (.ref a_is_name)
  a_is_turn : Addr
  d_is_turn : FuncData
  F_is_turn : FunD K "is_turn" "is_turn" (defArgs s_is_turn) (defBody s_is_turn) (defScope s_is_turn) [] [] a_is_turn d_is_turn
  m_is_turn : mg "is_turn" = some (.ref a_is_turn)
  a_is_hole : Addr
  d_is_hole : FuncData
  F_is_hole : FunD K "is_hole" "is_hole" (defArgs s_is_hole) (defBody s_is_hole) (defScope s_is_hole) [] [] a_is_hole d_is_hole
  m_is_hole : mg "is_hole" = some (.ref a_is_hole)
  a_is_term : Addr
  d_is_term : FuncData
  F_is_term : FunD K "is_term" "is_term" (defArgs s_is_term) (defBody s_is_term) (defScope s_is_term) [] [] a_is_term d_is_term
  m_is_term : mg "is_term" = some (.ref a_is_term)
  a_sure_terms : Addr
  d_sure_terms : FuncData
  F_sure_terms : FunD K "sure_terms" "sure_terms" (defArgs s_sure_terms) (defBody s_sure_terms) (defScope s_sure_terms) [] [] a_sure_terms d_sure_terms
  m_sure_terms : mg "sure_terms" = some (.ref a_sure_terms)
  a_inner : Addr
  d_inner : FuncData
  F_inner : FunD K "inner" "inner" (defArgs s_inner) (defBody s_inner) (defScope s_inner) [] [] a_inner d_inner
  m_inner : mg "inner" = some (.ref a_inner)
  a_with_inner : Addr
  d_with_inner : FuncData
  F_with_inner : FunD K "with_inner" "with_inner" (defArgs s_with_inner) (defBody s_with_inner) (defScope s_with_inner) [] [] a_with_inner d_with_inner
  m_with_inner : mg "with_inner" = some (.ref a_with_inner)
  a_at_place : Addr
  d_at_place : FuncData
  F_at_place : FunD K "at_place" "at_place" (defArgs s_at_place) (defBody s_at_place) (defScope s_at_place) [] [] a_at_place d_at_place
  m_at_place : mg "at_place" = some (.ref a_at_place)
  a_with_part : Addr
  d_with_part : FuncData
  F_with_part : FunD K "with_part" "with_part" (defArgs s_with_part) (defBody s_with_part) (defScope s_with_part) [] [] a_with_part d_with_part
  m_with_part : mg "with_part" = some (.ref a_with_part)
  a_part_at : Addr
  d_part_at : FuncData
  F_part_at : FunD K "part_at" "part_at" (defArgs s_part_at) (defBody s_part_at) (defScope s_part_at) [] [] a_part_at d_part_at
  m_part_at : mg "part_at" = some (.ref a_part_at)
  a_put_at : Addr
  d_put_at : FuncData
  F_put_at : FunD K "put_at" "put_at" (defArgs s_put_at) (defBody s_put_at) (defScope s_put_at) [] [] a_put_at d_put_at
  m_put_at : mg "put_at" = some (.ref a_put_at)
  a__law_mixed : Addr
  d__law_mixed : FuncData
  F__law_mixed : FunD K "_law_mixed" "_law_mixed" (defArgs s__law_mixed) (defBody s__law_mixed) (defScope s__law_mixed) [] [] a__law_mixed d__law_mixed
  m__law_mixed : mg "_law_mixed" = some (.ref a__law_mixed)
  a__law_pile : Addr
  d__law_pile : FuncData
  F__law_pile : FunD K "_law_pile" "_law_pile" (defArgs s__law_pile) (defBody s__law_pile) (defScope s__law_pile) [] [] a__law_pile d__law_pile
  m__law_pile : mg "_law_pile" = some (.ref a__law_pile)
  a__law_take : Addr
  d__law_take : FuncData
  F__law_take : FunD K "_law_take" "_law_take" (defArgs s__law_take) (defBody s__law_take) (defScope s__law_take) [] [] a__law_take d__law_take
  m__law_take : mg "_law_take" = some (.ref a__law_take)
  a__law_name : Addr
  d__law_name : FuncData
  F__law_name : FunD K "_law_name" "_law_name" (defArgs s__law_name) (defBody s__law_name) (defScope s__law_name) [] [] a__law_name d__law_name
  m__law_name : mg "_law_name" = some (.ref a__law_name)
  a__law_names : Addr
  d__law_names : FuncData
  F__law_names : FunD K "_law_names" "_law_names" (defArgs s__law_names) (defBody s__law_names) (defScope s__law_names) [] [] a__law_names d__law_names
  m__law_names : mg "_law_names" = some (.ref a__law_names)
  a__law_order : Addr
  d__law_order : FuncData
  F__law_order : FunD K "_law_order" "_law_order" (defArgs s__law_order) (defBody s__law_order) (defScope s__law_order) [] [] a__law_order d__law_order
  m__law_order : mg "_law_order" = some (.ref a__law_order)
  a__law_turn : Addr
  d__law_turn : FuncData
  F__law_turn : FunD K "_law_turn" "_law_turn" (defArgs s__law_turn) (defBody s__law_turn) (defScope s__law_turn) [] [] a__law_turn d__law_turn
  m__law_turn : mg "_law_turn" = some (.ref a__law_turn)
  a__law_holes : Addr
  d__law_holes : FuncData
  F__law_holes : FunD K "_law_holes" "_law_holes" (defArgs s__law_holes) (defBody s__law_holes) (defScope s__law_holes) [] [] a__law_holes d__law_holes
  m__law_holes : mg "_law_holes" = some (.ref a__law_holes)
  a__law_sign : Addr
  d__law_sign : FuncData
  F__law_sign : FunD K "_law_sign" "_law_sign" (defArgs s__law_sign) (defBody s__law_sign) (defScope s__law_sign) [] [] a__law_sign d__law_sign
  m__law_sign : mg "_law_sign" = some (.ref a__law_sign)
  a__law_term : Addr
  d__law_term : FuncData
  F__law_term : FunD K "_law_term" "_law_term" (defArgs s__law_term) (defBody s__law_term) (defScope s__law_term) [] [] a__law_term d__law_term
  m__law_term : mg "_law_term" = some (.ref a__law_term)
  a__law_any : Addr
  d__law_any : FuncData
  F__law_any : FunD K "_law_any" "_law_any" (defArgs s__law_any) (defBody s__law_any) (defScope s__law_any) [] [] a__law_any d__law_any
  m__law_any : mg "_law_any" = some (.ref a__law_any)
  a__law_in : Addr
  d__law_in : FuncData
  F__law_in : FunD K "_law_in" "_law_in" (defArgs s__law_in) (defBody s__law_in) (defScope s__law_in) [] [] a__law_in d__law_in
  m__law_in : mg "_law_in" = some (.ref a__law_in)
  a__law_parts : Addr
  d__law_parts : FuncData
  F__law_parts : FunD K "_law_parts" "_law_parts" (defArgs s__law_parts) (defBody s__law_parts) (defScope s__law_parts) [] [] a__law_parts d__law_parts
  m__law_parts : mg "_law_parts" = some (.ref a__law_parts)
  a__law_strange : Addr
  d__law_strange : FuncData
  F__law_strange : FunD K "_law_strange" "_law_strange" (defArgs s__law_strange) (defBody s__law_strange) (defScope s__law_strange) [] [] a__law_strange d__law_strange
  m__law_strange : mg "_law_strange" = some (.ref a__law_strange)
  a__law_places : Addr
  d__law_places : FuncData
  F__law_places : FunD K "_law_places" "_law_places" (defArgs s__law_places) (defBody s__law_places) (defScope s__law_places) [] [] a__law_places d__law_places
  m__law_places : mg "_law_places" = some (.ref a__law_places)
  a__law_put : Addr
  d__law_put : FuncData
  F__law_put : FunD K "_law_put" "_law_put" (defArgs s__law_put) (defBody s__law_put) (defScope s__law_put) [] [] a__law_put d__law_put
  m__law_put : mg "_law_put" = some (.ref a__law_put)
  a__law_said : Addr
  d__law_said : FuncData
  F__law_said : FunD K "_law_said" "_law_said" (defArgs s__law_said) (defBody s__law_said) (defScope s__law_said) [] [] a__law_said d__law_said
  m__law_said : mg "_law_said" = some (.ref a__law_said)
  a_law : Addr
  d_law : FuncData
  F_law : FunD K "law" "law" (defArgs s_law) (defBody s_law) (defScope s_law) [] [] a_law d_law
  m_law : mg "law" = some (.ref a_law)
section
variable {w : World} {K : Frag} {mg : Str → Option Value} {base : Heap}
theorem bni_NoPlace (W : Wd K mg) : Binds K W.di_NoPlace ["self", "place"] [] := W.Fi_NoPlace.bindsN fun _ _ _ _ _ _ us hl => match us, hl with | [_, _], _ => rfl
theorem oki_NoPlace (W : Wd K mg) : FnOk P w K mg base (L2.CX P w) 1 W.ai_NoPlace W.di_NoPlace ["self", "place"] (spI (He.ga K "NoPlace") ["place"]) :=
  fn_init1 (k := 0) (m := .str "no place") W.Fi_NoPlace sci_NoPlace W.X_NoPlace.T W.na_NoPlace_place fun cdv A outer s H E => (pss_cons (ps_expr (pe_oinit W.B_ShutError (gl_of (by kernel_rfl)) W.n_ShutError (by kernel_rfl) (pa_cons (pe_var (i := 0) rfl (vis_of (by kernel_rfl)) (by kernel_rfl) (by kernel_rfl)) (pa_cons pe_str pa_nil)))) (pss_one (ps_ost (pe_var (i := 0) rfl (vis_of (by kernel_rfl)) (by kernel_rfl) (by kernel_rfl)) (pe_var (i := 1) rfl (vis_of (by kernel_rfl)) (by kernel_rfl) (by kernel_rfl)))))
theorem bn_is_called (W : Wd K mg) : Binds K W.d_is_called ["thing", "letters"] [] := W.F_is_called.bindsN fun _ _ _ _ _ _ us hl => match us, hl with | [_, _], _ => rfl
theorem bn_is_name (W : Wd K mg) : Binds K W.d_is_name ["thing"] [] := W.F_is_name.bindsN fun _ _ _ _ _ _ us hl => match us, hl with | [_], _ => rfl
theorem bn_is_turn (W : Wd K mg) : Binds K W.d_is_turn ["thing"] [] := W.F_is_turn.bindsN fun _ _ _ _ _ _ us hl => match us, hl with | [_], _ => rfl
theorem bn_is_hole (W : Wd K mg) : Binds K W.d_is_hole ["thing"] [] := W.F_is_hole.bindsN fun _ _ _ _ _ _ us hl => match us, hl with | [_], _ => rfl
theorem bn_is_term (W : Wd K mg) : Binds K W.d_is_term ["thing"] [] := W.F_is_term.bindsN fun _ _ _ _ _ _ us hl => match us, hl with | [_], _ => rfl
theorem bn_sure_terms (W : Wd K mg) : KBn K W.d_sure_terms ["terms"] 0 ["terms"] (fun us ws => gSnd us ws) (fun vs zs => gSnd vs zs) := kb_of W.F_sure_terms (g := fun us ws => gSnd us ws) (fun _ r => r) fun _ _ _ _ _ _ us ws h1 h2 => match us, h1, ws, h2 with | [], _, [_], _ => rfl
theorem bn_inner (W : Wd K mg) : Binds K W.d_inner ["term"] [] := W.F_inner.bindsN fun _ _ _ _ _ _ us hl => match us, hl with | [_], _ => rfl
theorem bn_with_inner (W : Wd K mg) : Binds K W.d_with_inner ["term", "parts"] [] := W.F_with_inner.bindsN fun _ _ _ _ _ _ us hl => match us, hl with | [_, _], _ => rfl
theorem bn_at_place (W : Wd K mg) : Binds K W.d_at_place ["term", "place"] [] := W.F_at_place.bindsN fun _ _ _ _ _ _ us hl => match us, hl with | [_, _], _ => rfl
theorem bn_with_part (W : Wd K mg) : Binds K W.d_with_part ["term", "place", "part"] [] := W.F_with_part.bindsN fun _ _ _ _ _ _ us hl => match us, hl with | [_, _, _], _ => rfl
theorem bn_part_at (W : Wd K mg) : Binds K W.d_part_at ["term", "place"] [] := W.F_part_at.bindsN fun _ _ _ _ _ _ us hl => match us, hl with | [_, _], _ => rfl
theorem bn_put_at (W : Wd K mg) : Binds K W.d_put_at ["term", "place", "part"] [] := W.F_put_at.bindsN fun _ _ _ _ _ _ us hl => match us, hl with | [_, _, _], _ => rfl
theorem bn__law_mixed (W : Wd K mg) : Binds K W.d__law_mixed ["_law_cell", "_law_k"] [] := W.F__law_mixed.bindsN fun _ _ _ _ _ _ us hl => match us, hl with | [_, _], _ => rfl
theorem bn__law_pile (W : Wd K mg) : Binds K W.d__law_pile ["_law_script", "_law_k"] [] := W.F__law_pile.bindsN fun _ _ _ _ _ _ us hl => match us, hl with | [_, _], _ => rfl
theorem bn__law_take (W : Wd K mg) : Binds K W.d__law_take ["_law_pile_here", "_law_many"] [] := W.F__law_take.bindsN fun _ _ _ _ _ _ us hl => match us, hl with | [_, _], _ => rfl
theorem bn__law_name (W : Wd K mg) : Binds K W.d__law_name ["_law_pile_here"] [] := W.F__law_name.bindsN fun _ _ _ _ _ _ us hl => match us, hl with | [_], _ => rfl
theorem bn__law_names (W : Wd K mg) : Binds K W.d__law_names ["_law_pile_here", "_law_many"] [] := W.F__law_names.bindsN fun _ _ _ _ _ _ us hl => match us, hl with | [_, _], _ => rfl
theorem bn__law_order (W : Wd K mg) : Binds K W.d__law_order ["_law_pile_here", "_law_some"] [] := W.F__law_order.bindsN fun _ _ _ _ _ _ us hl => match us, hl with | [_, _], _ => rfl
theorem bn__law_turn (W : Wd K mg) : Binds K W.d__law_turn ["_law_pile_here", "_law_names_here"] [] := W.F__law_turn.bindsN fun _ _ _ _ _ _ us hl => match us, hl with | [_, _], _ => rfl
theorem bn__law_holes (W : Wd K mg) : Binds K W.d__law_holes ["_law_pile_here", "_law_many"] [] := W.F__law_holes.bindsN fun _ _ _ _ _ _ us hl => match us, hl with | [_, _], _ => rfl
theorem bn__law_sign (W : Wd K mg) : Binds K W.d__law_sign ["_law_pile_here", "_law_names_here"] [] := W.F__law_sign.bindsN fun _ _ _ _ _ _ us hl => match us, hl with | [_, _], _ => rfl
theorem bn__law_term (W : Wd K mg) : Binds K W.d__law_term ["_law_pile_here", "_law_names_here", "_law_some", "_law_depth"] [] := W.F__law_term.bindsN fun _ _ _ _ _ _ us hl => match us, hl with | [_, _, _, _], _ => rfl
theorem bn__law_any (W : Wd K mg) : Binds K W.d__law_any ["_law_pile_here", "_law_names_here", "_law_some"] [] := W.F__law_any.bindsN fun _ _ _ _ _ _ us hl => match us, hl with | [_, _, _], _ => rfl
theorem bn__law_in (W : Wd K mg) : Binds K W.d__law_in ["_law_term_here"] [] := W.F__law_in.bindsN fun _ _ _ _ _ _ us hl => match us, hl with | [_], _ => rfl
theorem bn__law_strange (W : Wd K mg) : Binds K W.d__law_strange ["_law_pile_here"] [] := W.F__law_strange.bindsN fun _ _ _ _ _ _ us hl => match us, hl with | [_], _ => rfl
theorem bn__law_places (W : Wd K mg) : Binds K W.d__law_places ["_law_term_here"] [] := W.F__law_places.bindsN fun _ _ _ _ _ _ us hl => match us, hl with | [_], _ => rfl
theorem bn__law_put (W : Wd K mg) : Binds K W.d__law_put ["_law_term_here", "_law_place", "_law_part"] [] := W.F__law_put.bindsN fun _ _ _ _ _ _ us hl => match us, hl with | [_, _, _], _ => rfl
theorem bn__law_said (W : Wd K mg) : Binds K W.d__law_said ["_law_term_here", "_law_place", "_law_part"] [] := W.F__law_said.bindsN fun _ _ _ _ _ _ us hl => match us, hl with | [_, _, _], _ => rfl
theorem ok_is_called (W : Wd K mg) : FnOk P w K mg base (L2.CX P w) 1 W.a_is_called W.d_is_called ["thing", "letters"] (spF K (He.ga K) SH.f_is_called) := by
    refine fn_rule (k := 0) [] W.F_is_called sc_is_called fun cdv A outer s H E F O σ hr tk => ?_
    have hu := u64 hr
    have hw := u65 hr
    have hv := u66 hr
    have NN := sc_is_called.nd
    exact (ss_cons (sv_if (PW.pt (st_or (st_not (st_val (se_isi .str W.b_isinstance W.b_str (se_var 0 rfl (vis_of (by kernel_rfl)) (by kernel_rfl) (by kernel_rfl))))) (st_or (st_not (st_chain od_le od_le se_int (se_b1 cd_len W.b_len (se_var 0 rfl (vis_of (by kernel_rfl)) (by kernel_rfl) (by kernel_rfl))) (se_gint W.c_LONGEST (gl_of (by kernel_rfl)) (by kernel_rfl)))) (st_or1 (st_cmp (od_nin hw) (se_ix (se_var 0 rfl (vis_of (by kernel_rfl)) (by kernel_rfl) (by kernel_rfl)) se_int) (se_var 1 rfl (vis_of (by kernel_rfl)) (by kernel_rfl) (by kernel_rfl))))))) (ss_one (sv_ret (so_d se_bl))) ss_nil)
       (ss_one (sv_ret (so_d (se_b1 (cd_all rfl) W.b_all (se_n (n_lc (own := [("sign", 2)]) (fb := [0, 1]) rfl NN (si_val (se_var 0 rfl (vis_of (by kernel_rfl)) (by kernel_rfl) (by kernel_rfl))) (blkOk_by (by kernel_rfl)) (fun F1 H1 O1 σ1 s1 Hb C cl fp => (tg_name (i := 2) NN rfl (loc_of (by kernel_rfl)))) (fun F1 H1 O1 σ1 s1 Hb C cl fp => st_yes) (fun F1 H1 O1 σ1 s1 Hb C cl fp => (se_or (se_cmp (od_in hw) (se_var 2 rfl (vis_of (by kernel_rfl)) (by kernel_rfl) (by kernel_rfl)) (se_var 1 rfl (vis_of (by kernel_rfl)) (by kernel_rfl) (by kernel_rfl))) (se_one (se_cmp (od_in hw) (se_var 2 rfl (vis_of (by kernel_rfl)) (by kernel_rfl) (by kernel_rfl)) (se_gstr W.c_FIGURES (gl_of (by kernel_rfl)) (by kernel_rfl)))))))))))))
theorem ok_is_name (W : Wd K mg) : FnOk P w K mg base (L2.CX P w) 2 W.a_is_name W.d_is_name ["thing"] (spF K (He.ga K) SH.f_is_name) := by
    refine fn_rule (k := 1) [] W.F_is_name sc_is_name fun cdv A outer s H E F O σ hr tk => ?_
    have hu := u64 hr
    have hw := u65 hr
    have hv := u66 hr
    have NN := sc_is_name.nd
    exact (ss_one (sv_ret (so_call (ok_is_called W) (hr.mono (by omega)) W.m_is_called W.F_is_called.kp (bn_is_called W) tk (sg_d (se_var 0 rfl (vis_of (by kernel_rfl)) (by kernel_rfl) (by kernel_rfl)) (sg_d (se_gstr W.c_SMALL (gl_of (by kernel_rfl)) (by kernel_rfl)) sg_nil)) (gl_of (by kernel_rfl)) (by kernel_rfl))))
theorem ok_is_turn (W : Wd K mg) : FnOk P w K mg base (L2.CX P w) 3 W.a_is_turn W.d_is_turn ["thing"] (spF K (He.ga K) SH.f_is_turn) := by
    refine fn_rule (k := 2) [] W.F_is_turn sc_is_turn fun cdv A outer s H E F O σ hr tk => ?_
    have hu := u64 hr
    have hw := u65 hr
    have hv := u66 hr
    have NN := sc_is_turn.nd
    exact (ss_cons (sv_if (PW.pt (st_or (st_not (st_val (se_isi .tup W.b_isinstance W.b_tuple (se_var 0 rfl (vis_of (by kernel_rfl)) (by kernel_rfl) (by kernel_rfl))))) (st_or1 (st_not (st_val (se_b1 (cd_all rfl) W.b_all (se_n (n_lc (own := [("pair", 1)]) (fb := [0, 2, 3, 4]) rfl NN (si_val (se_var 0 rfl (vis_of (by kernel_rfl)) (by kernel_rfl) (by kernel_rfl))) (blkOk_by (by kernel_rfl)) (fun F1 H1 O1 σ1 s1 Hb C cl fp => (tg_name (i := 1) NN rfl (loc_of (by kernel_rfl)))) (fun F1 H1 O1 σ1 s1 Hb C cl fp => st_yes) (fun F1 H1 O1 σ1 s1 Hb C cl fp => (se_and (se_isi .tup W.b_isinstance W.b_tuple (se_var 1 rfl (vis_of (by kernel_rfl)) (by kernel_rfl) (by kernel_rfl))) (se_one (se_cmp (od_eq hu) (se_b1 cd_len W.b_len (se_var 1 rfl (vis_of (by kernel_rfl)) (by kernel_rfl) (by kernel_rfl))) se_int)))))))))))) (ss_one (sv_ret (so_d se_bl))) ss_nil)
       (ss_cons (sv_if (st_not (st_val (se_b1 (cd_all rfl) W.b_all (se_n (n_lc (own := [("name", 2), ("to", 3)]) (fb := [0, 1, 4]) rfl NN (si_val (se_var 0 rfl (vis_of (by kernel_rfl)) (by kernel_rfl) (by kernel_rfl))) (blkOk_by (by kernel_rfl)) (fun F1 H1 O1 σ1 s1 Hb C cl fp => (tg_tup (n := 2) rfl (tg_cons (tg_name (i := 2) NN rfl (loc_of (by kernel_rfl))) (tg_cons (tg_name (i := 3) NN rfl (loc_of (by kernel_rfl))) tg_nil)))) (fun F1 H1 O1 σ1 s1 Hb C cl fp => st_yes) (fun F1 H1 O1 σ1 s1 Hb C cl fp => (se_and (se_frz (so_call (ok_is_name W) (hr.mono (by omega)) W.m_is_name W.F_is_name.kp (bn_is_name W) takes0 (sg_d (se_var 2 rfl (vis_of (by kernel_rfl)) (by kernel_rfl) (by kernel_rfl)) sg_nil) (gl_of (by kernel_rfl)) (by kernel_rfl))) (se_and (se_frz (so_call (ok_is_name W) (hr.mono (by omega)) W.m_is_name W.F_is_name.kp (bn_is_name W) takes0 (sg_d (se_var 3 rfl (vis_of (by kernel_rfl)) (by kernel_rfl) (by kernel_rfl)) sg_nil) (gl_of (by kernel_rfl)) (by kernel_rfl))) (se_one (se_cmp (od_ne hu) (se_var 2 rfl (vis_of (by kernel_rfl)) (by kernel_rfl) (by kernel_rfl)) (se_var 3 rfl (vis_of (by kernel_rfl)) (by kernel_rfl) (by kernel_rfl)))))))))))) (ss_one (sv_ret (so_d se_bl))) ss_nil)
       (ss_cons (sv_setLc (i := 4) (own := [("name", 2), ("to", 3)]) (fb := [0, 1, 4]) rfl NN (si_val (se_var 0 rfl (vis_of (by kernel_rfl)) (by kernel_rfl) (by kernel_rfl))) (blkOk_by (by kernel_rfl)) (fun F1 H1 O1 σ1 s1 Hb C cl fp => (tg_tup (n := 2) rfl (tg_cons (tg_name (i := 2) NN rfl (loc_of (by kernel_rfl))) (tg_cons (tg_name (i := 3) NN rfl (loc_of (by kernel_rfl))) tg_nil)))) (fun F1 H1 O1 σ1 s1 Hb C cl fp => st_yes) (fun F1 H1 O1 σ1 s1 Hb C cl fp => (se_var 2 rfl (vis_of (by kernel_rfl)) (by kernel_rfl) (by kernel_rfl))) rfl (by kernel_rfl))
       (ss_one (sv_ret (so_d (se_and (se_cmp (od_eq hu) (se_var 4 rfl (vis_of (by kernel_rfl)) (by kernel_rfl) (by kernel_rfl)) (se_n (n_sortK rfl hv W.b_sorted (sk_set rfl W.b_set (se_var 4 rfl (vis_of (by kernel_rfl)) (by kernel_rfl) (by kernel_rfl)))))) (se_one (se_cmp (od_eq hu) (se_n (n_b1 (cd_sorted hv) W.b_sorted (se_n (n_lc (own := [("name", 2), ("to", 3)]) (fb := [0, 1, 4]) rfl NN (si_val (se_var 0 rfl (vis_of (by kernel_rfl)) (by kernel_rfl) (by kernel_rfl))) (blkOk_by (by kernel_rfl)) (fun F1 H1 O1 σ1 s1 Hb C cl fp => (tg_tup (n := 2) rfl (tg_cons (tg_name (i := 2) NN rfl (loc_of (by kernel_rfl))) (tg_cons (tg_name (i := 3) NN rfl (loc_of (by kernel_rfl))) tg_nil)))) (fun F1 H1 O1 σ1 s1 Hb C cl fp => st_yes) (fun F1 H1 O1 σ1 s1 Hb C cl fp => (se_var 3 rfl (vis_of (by kernel_rfl)) (by kernel_rfl) (by kernel_rfl))))))) (se_var 4 rfl (vis_of (by kernel_rfl)) (by kernel_rfl) (by kernel_rfl)))))))))))
theorem ok_is_hole (W : Wd K mg) : FnOk P w K mg base (L2.CX P w) 2 W.a_is_hole W.d_is_hole ["thing"] (spF K (He.ga K) ST.f_is_hole) := by
    refine fn_rule (k := 1) [] W.F_is_hole sc_is_hole fun cdv A outer s H E F O σ hr tk => ?_
    have hu := u64 hr
    have hw := u65 hr
    have hv := u66 hr
    have NN := sc_is_hole.nd
    exact (ss_one (sv_ret (so_call (ok_is_called W) (hr.mono (by omega)) W.m_is_called W.F_is_called.kp (bn_is_called W) tk (sg_d (se_var 0 rfl (vis_of (by kernel_rfl)) (by kernel_rfl) (by kernel_rfl)) (sg_d (se_gstr W.c_GREAT (gl_of (by kernel_rfl)) (by kernel_rfl)) sg_nil)) (gl_of (by kernel_rfl)) (by kernel_rfl))))
theorem ok_is_term (W : Wd K mg) : ∀ n : Nat, FnOk P w K mg base (L2.CX P w) (3 + n) W.a_is_term W.d_is_term ["thing"] (spF K (He.ga K) (ST.f_is_term n))
  | 0 => ⟨fun vs H Q E z => by obtain ⟨_, _, _, _, _, _, _, z⟩ := z; exact z.elim, fun A outer s H args us vs Q E _ _ _ _ z => by obtain ⟨_, _, _, _, _, _, _, z⟩ := z; exact z.elim⟩
  | n + 1 => by
    have ih := ok_is_term W n
    refine fn_rule (k := 3 + n) [] W.F_is_term sc_is_term fun cdv A outer s H E F O σ hr tk => ?_
    have hu := u64 hr
    have hw := u65 hr
    have hv := u66 hr
    have NN := sc_is_term.nd
    exact (ss_cons (sv_if (PW.pt (st_or (st_not (st_val (se_isi .tup W.b_isinstance W.b_tuple (se_var 0 rfl (vis_of (by kernel_rfl)) (by kernel_rfl) (by kernel_rfl))))) (st_or (st_cmp (od_nin hw) (se_b1 cd_len W.b_len (se_var 0 rfl (vis_of (by kernel_rfl)) (by kernel_rfl) (by kernel_rfl))) (se_tup (sa_cons se_int (sa_cons se_int sa_nil)))) (st_or1 (st_not (st_val (se_isi .str W.b_isinstance W.b_str (se_ix (se_var 0 rfl (vis_of (by kernel_rfl)) (by kernel_rfl) (by kernel_rfl)) se_int)))))))) (ss_one (sv_ret (so_d se_bl))) ss_nil)
       (ss_cons (sv_if (st_cmp (od_eq hu) (se_b1 cd_len W.b_len (se_var 0 rfl (vis_of (by kernel_rfl)) (by kernel_rfl) (by kernel_rfl))) se_int) (ss_one (sv_ret (so_d (se_and (se_cmp (od_eq hu) (se_ix (se_var 0 rfl (vis_of (by kernel_rfl)) (by kernel_rfl) (by kernel_rfl)) se_int) se_str) (se_one (se_frz (so_call (ok_is_name W) (hr.mono (by omega)) W.m_is_name W.F_is_name.kp (bn_is_name W) tk (sg_d (se_ix (se_var 0 rfl (vis_of (by kernel_rfl)) (by kernel_rfl) (by kernel_rfl)) se_int) sg_nil) (gl_of (by kernel_rfl)) (by kernel_rfl)))))))) ss_nil)
       (ss_cons (sv_tgt (se_var 0 rfl (vis_of (by kernel_rfl)) (by kernel_rfl) (by kernel_rfl)) (tg_tup (n := 3) rfl (tg_cons (tg_name (i := 1) NN rfl (loc_of (by kernel_rfl))) (tg_cons (tg_name (i := 2) NN rfl (loc_of (by kernel_rfl))) (tg_cons (tg_name (i := 3) NN rfl (loc_of (by kernel_rfl))) tg_nil)))))
       (ss_cons (sv_if (st_cmp (od_eq hu) (se_var 1 rfl (vis_of (by kernel_rfl)) (by kernel_rfl) (by kernel_rfl)) se_str) (ss_one (sv_ret (so_d (se_and (se_frz (so_call (ok_is_turn W) (hr.mono (by omega)) W.m_is_turn W.F_is_turn.kp (bn_is_turn W) tk (sg_d (se_var 2 rfl (vis_of (by kernel_rfl)) (by kernel_rfl) (by kernel_rfl)) sg_nil) (gl_of (by kernel_rfl)) (by kernel_rfl))) (se_one (se_frz (so_call (ok_is_hole W) (hr.mono (by omega)) W.m_is_hole W.F_is_hole.kp (bn_is_hole W) tk (sg_d (se_var 3 rfl (vis_of (by kernel_rfl)) (by kernel_rfl) (by kernel_rfl)) sg_nil) (gl_of (by kernel_rfl)) (by kernel_rfl)))))))) ss_nil)
       (ss_cons (sv_if (st_cmp (od_eq hu) (se_var 1 rfl (vis_of (by kernel_rfl)) (by kernel_rfl) (by kernel_rfl)) se_str) (ss_one (sv_ret (so_d (se_and (se_frz (so_call (ok_is_name W) (hr.mono (by omega)) W.m_is_name W.F_is_name.kp (bn_is_name W) tk (sg_d (se_var 2 rfl (vis_of (by kernel_rfl)) (by kernel_rfl) (by kernel_rfl)) sg_nil) (gl_of (by kernel_rfl)) (by kernel_rfl))) (se_one (se_frz (so_call ih (hr.mono (Nat.le_refl _)) W.m_is_term W.F_is_term.kp (bn_is_term W) tk (sg_d (se_var 3 rfl (vis_of (by kernel_rfl)) (by kernel_rfl) (by kernel_rfl)) sg_nil) (gl_of (by kernel_rfl)) (by kernel_rfl)))))))) ss_nil)
       (ss_one (sv_ret (so_d (se_and (se_cmp (od_eq hu) (se_var 1 rfl (vis_of (by kernel_rfl)) (by kernel_rfl) (by kernel_rfl)) se_str) (se_and (se_frz (so_call (ok_is_name W) (hr.mono (by omega)) W.m_is_name W.F_is_name.kp (bn_is_name W) tk (sg_d (se_var 2 rfl (vis_of (by kernel_rfl)) (by kernel_rfl) (by kernel_rfl)) sg_nil) (gl_of (by kernel_rfl)) (by kernel_rfl))) (se_and (se_isi .tup W.b_isinstance W.b_tuple (se_var 3 rfl (vis_of (by kernel_rfl)) (by kernel_rfl) (by kernel_rfl))) (se_one (se_b1 (cd_all rfl) W.b_all (se_n (n_lc (own := [("part", 4)]) (fb := [0, 1, 2, 3]) rfl NN (si_val (se_var 3 rfl (vis_of (by kernel_rfl)) (by kernel_rfl) (by kernel_rfl))) (blkOk_by (by kernel_rfl)) (fun F1 H1 O1 σ1 s1 Hb C cl fp => (tg_name (i := 4) NN rfl (loc_of (by kernel_rfl)))) (fun F1 H1 O1 σ1 s1 Hb C cl fp => st_yes) (fun F1 H1 O1 σ1 s1 Hb C cl fp => (se_frz (so_call ih (hr.mono (Nat.le_refl _)) W.m_is_term W.F_is_term.kp (bn_is_term W) takes0 (sg_d (se_var 4 rfl (vis_of (by kernel_rfl)) (by kernel_rfl) (by kernel_rfl)) sg_nil) (gl_of (by kernel_rfl)) (by kernel_rfl)))))))))))))))))))
theorem ok_sure_terms (W : Wd K mg) : FnOk P w K mg base (L2.CX P w) 45 W.a_sure_terms W.d_sure_terms ["terms"] (spF K (He.ga K) ST.f_sure_terms) := by
    refine fn_rule (k := 44) [] W.F_sure_terms sc_sure_terms fun cdv A outer s H E F O σ hr tk => ?_
    have hu := u64 hr
    have hw := u65 hr
    have hv := u66 hr
    have NN := sc_sure_terms.nd
    exact (ss_one (sv_for (passes_of rfl) rfl (si_val (se_var 0 rfl (vis_of (by kernel_rfl)) (by kernel_rfl) (by kernel_rfl))) (fun F1 H1 O1 σ1 => (tg_name (i := 1) NN rfl (loc_of (by kernel_rfl)))) (fun F1 H1 O1 σ1 => (ss_one (sv_if (st_not (st_val (se_frz (so_call (ok_is_term W 40) (hr.mono (by omega)) W.m_is_term W.F_is_term.kp (bn_is_term W) tk (sg_d (se_var 1 rfl (vis_of (by kernel_rfl)) (by kernel_rfl) (by kernel_rfl)) sg_nil) (gl_of (by kernel_rfl)) (by kernel_rfl))))) (ss_one (sv_raise (y := "NoTerm") rfl tk PySem.F.excBase_ValueError W.x_NoTerm.1 W.n_NoTerm W.x_NoTerm.2.1 (raises_own W.x_NoTerm.2.2.1 W.x_NoTerm.2.2.2) rfl (gl_of (by kernel_rfl)) (by kernel_rfl))) ss_nil)))))
theorem ok_inner (W : Wd K mg) : FnOk P w K mg base (L2.CX P w) 1 W.a_inner W.d_inner ["term"] (spF K (He.ga K) ST.f_inner) := by
    refine fn_rule (k := 0) [] W.F_inner sc_inner fun cdv A outer s H E F O σ hr tk => ?_
    have hu := u64 hr
    have hw := u65 hr
    have hv := u66 hr
    have NN := sc_inner.nd
    exact (ss_cons (sv_if (st_cmp (od_eq hu) (se_ix (se_var 0 rfl (vis_of (by kernel_rfl)) (by kernel_rfl) (by kernel_rfl)) se_int) se_str) (ss_one (sv_ret (so_d (se_tup (sa_cons (se_ix (se_var 0 rfl (vis_of (by kernel_rfl)) (by kernel_rfl) (by kernel_rfl)) se_int) sa_nil))))) ss_nil)
       (ss_cons (sv_if (st_cmp (od_eq hu) (se_ix (se_var 0 rfl (vis_of (by kernel_rfl)) (by kernel_rfl) (by kernel_rfl)) se_int) se_str) (ss_one (sv_ret (so_d (se_ix (se_var 0 rfl (vis_of (by kernel_rfl)) (by kernel_rfl) (by kernel_rfl)) se_int)))) ss_nil)
       (ss_one (sv_ret (so_d (se_tup sa_nil))))))
theorem ok_with_inner (W : Wd K mg) : FnOk P w K mg base (L2.CX P w) 1 W.a_with_inner W.d_with_inner ["term", "parts"] (spF K (He.ga K) SV.f_with_inner) := by
    refine fn_rule (k := 0) [] W.F_with_inner sc_with_inner fun cdv A outer s H E F O σ hr tk => ?_
    have hu := u64 hr
    have hw := u65 hr
    have hv := u66 hr
    have NN := sc_with_inner.nd
    exact (ss_cons (sv_if (st_cmp (od_eq hu) (se_ix (se_var 0 rfl (vis_of (by kernel_rfl)) (by kernel_rfl) (by kernel_rfl)) se_int) se_str) (ss_one (sv_ret (so_d (se_tup (sa_cons se_str (sa_cons (se_ix (se_var 0 rfl (vis_of (by kernel_rfl)) (by kernel_rfl) (by kernel_rfl)) se_int) (sa_cons (se_ix (se_var 1 rfl (vis_of (by kernel_rfl)) (by kernel_rfl) (by kernel_rfl)) se_int) sa_nil))))))) ss_nil)
       (ss_cons (sv_if (st_cmp (od_eq hu) (se_ix (se_var 0 rfl (vis_of (by kernel_rfl)) (by kernel_rfl) (by kernel_rfl)) se_int) se_str) (ss_one (sv_ret (so_d (se_tup (sa_cons se_str (sa_cons (se_ix (se_var 0 rfl (vis_of (by kernel_rfl)) (by kernel_rfl) (by kernel_rfl)) se_int) (sa_cons (se_t1 cd_tup W.b_tuple (se_var 1 rfl (vis_of (by kernel_rfl)) (by kernel_rfl) (by kernel_rfl))) sa_nil))))))) ss_nil)
       (ss_one (sv_ret (so_d (se_var 0 rfl (vis_of (by kernel_rfl)) (by kernel_rfl) (by kernel_rfl)))))))
theorem ok_at_place (W : Wd K mg) : FnOk P w K mg base (L2.CX P w) 2 W.a_at_place W.d_at_place ["term", "place"] (spF K (He.ga K) SW.f_at_place) := by
    refine fn_rule (k := 1) [] W.F_at_place sc_at_place fun cdv A outer s H E F O σ hr tk => ?_
    have hu := u64 hr
    have hw := u65 hr
    have hv := u66 hr
    have NN := sc_at_place.nd
    exact (ss_cons (sv_killB [2, 3] (sv_for (passes_of rfl) rfl (si_val (se_var 1 rfl (vis_of (by kernel_rfl)) (by kernel_rfl) (by kernel_rfl))) (fun F1 H1 O1 σ1 => (tg_name (i := 2) NN rfl (loc_of (by kernel_rfl)))) (fun F1 H1 O1 σ1 => (ss_kill [2, 3] (ss_cons (sv_set (i := 3) NN (se_frz (so_call (ok_inner W) (hr.mono (by omega)) W.m_inner W.F_inner.kp (bn_inner W) tk (sg_d (se_var 0 rfl (vis_of (by kernel_rfl)) (by kernel_rfl) (by kernel_rfl)) sg_nil) (gl_of (by kernel_rfl)) (by kernel_rfl))) rfl (loc_of (by kernel_rfl)))
       (ss_cons (sv_if (PW.pt (st_or (st_cmp od_lt (se_var 2 rfl (vis_of (by kernel_rfl)) (by kernel_rfl) (by kernel_rfl)) se_int) (st_or1 (st_cmp od_ge (se_var 2 rfl (vis_of (by kernel_rfl)) (by kernel_rfl) (by kernel_rfl)) (se_b1 cd_len W.b_len (se_var 3 rfl (vis_of (by kernel_rfl)) (by kernel_rfl) (by kernel_rfl))))))) (ss_one (sv_ret (so_d se_non))) ss_nil)
       (ss_one (sv_set (i := 0) NN (se_ix (se_var 3 rfl (vis_of (by kernel_rfl)) (by kernel_rfl) (by kernel_rfl)) (se_var 2 rfl (vis_of (by kernel_rfl)) (by kernel_rfl) (by kernel_rfl))) rfl (loc_of (by kernel_rfl))))))))))
       (ss_one (sv_ret (so_d (se_var 0 rfl (vis_of (by kernel_rfl)) (by kernel_rfl) (by kernel_rfl))))))
theorem ok_with_part (W : Wd K mg) : ∀ n : Nat, FnOk P w K mg base (L2.CX P w) (1 + n) W.a_with_part W.d_with_part ["term", "place", "part"] (spF K (He.ga K) (SW.f_with_part n))
  | 0 => ⟨fun vs H Q E z => by obtain ⟨_, _, _, _, _, _, _, z⟩ := z; exact z.elim, fun A outer s H args us vs Q E _ _ _ _ z => by obtain ⟨_, _, _, _, _, _, _, z⟩ := z; exact z.elim⟩
  | n + 1 => by
    have ih := ok_with_part W n
    refine fn_rule (k := 1 + n) [] W.F_with_part sc_with_part fun cdv A outer s H E F O σ hr tk => ?_
    have hu := u64 hr
    have hw := u65 hr
    have hv := u66 hr
    have NN := sc_with_part.nd
    exact (ss_cons (sv_if (st_cmp (od_eq hu) (se_var 1 rfl (vis_of (by kernel_rfl)) (by kernel_rfl) (by kernel_rfl)) (se_tup sa_nil)) (ss_one (sv_ret (so_d (se_var 2 rfl (vis_of (by kernel_rfl)) (by kernel_rfl) (by kernel_rfl))))) ss_nil)
       (ss_cons (sv_tgt (se_var 1 rfl (vis_of (by kernel_rfl)) (by kernel_rfl) (by kernel_rfl)) (tg_star (k := 1) rfl (tg_cons (tg_name (i := 3) NN rfl (loc_of (by kernel_rfl))) (tg_cons (tg_name (i := 4) NN rfl (loc_of (by kernel_rfl))) tg_nil))))
       (ss_cons (sv_setO (i := 5) NN (so_n (n_t1 cd_list W.b_list (se_frz (so_call (ok_inner W) (hr.mono (by omega)) W.m_inner W.F_inner.kp (bn_inner W) tk (sg_d (se_var 0 rfl (vis_of (by kernel_rfl)) (by kernel_rfl) (by kernel_rfl)) sg_nil) (gl_of (by kernel_rfl)) (by kernel_rfl))))) rfl (loc_of (by kernel_rfl)))
       (ss_cons (sv_put 5 rfl (se_var 3 rfl (vis_of (by kernel_rfl)) (by kernel_rfl) (by kernel_rfl)) (se_frz (so_call ih (hr.mono (Nat.le_refl _)) W.m_with_part W.F_with_part.kp (bn_with_part W) tk (sg_d (se_ix (se_look 5 rfl (vis_of (by kernel_rfl)) (by kernel_rfl) (by kernel_rfl)) (se_var 3 rfl (vis_of (by kernel_rfl)) (by kernel_rfl) (by kernel_rfl))) (sg_d (se_t1 cd_tup W.b_tuple (se_var 4 rfl (vis_of (by kernel_rfl)) (by kernel_rfl) (by kernel_rfl))) (sg_d (se_var 2 rfl (vis_of (by kernel_rfl)) (by kernel_rfl) (by kernel_rfl)) sg_nil))) (gl_of (by kernel_rfl)) (by kernel_rfl))) (vis_of (by kernel_rfl)) (by kernel_rfl) (by kernel_rfl))
       (ss_one (sv_ret (so_call (ok_with_inner W) (hr.mono (by omega)) W.m_with_inner W.F_with_inner.kp (bn_with_inner W) tk (sg_d (se_var 0 rfl (vis_of (by kernel_rfl)) (by kernel_rfl) (by kernel_rfl)) (sg_d (se_frzv 5 rfl (vis_of (by kernel_rfl)) (by kernel_rfl) (by kernel_rfl)) sg_nil)) (gl_of (by kernel_rfl)) (by kernel_rfl))))))))
theorem ok_part_at (W : Wd K mg) : FnOk P w K mg base (L2.CX P w) 46 W.a_part_at W.d_part_at ["term", "place"] (spF K (He.ga K) SW.f_part_at) := by
    refine fn_rule (k := 45) [] W.F_part_at sc_part_at fun cdv A outer s H E F O σ hr tk => ?_
    have hu := u64 hr
    have hw := u65 hr
    have hv := u66 hr
    have NN := sc_part_at.nd
    exact (ss_cons (sv_expr (so_callK0 (ok_sure_terms W) (hr.mono (by omega)) W.m_sure_terms W.F_sure_terms.kp (bn_sure_terms W) tk (gD_len gNil_len) (sk_d (se_n (n_lst (sa_cons (se_var 0 rfl (vis_of (by kernel_rfl)) (by kernel_rfl) (by kernel_rfl)) sa_nil))) sk_nil) (gl_of (by kernel_rfl)) (by kernel_rfl)))
       (ss_cons (sv_set (i := 2) NN (se_frz (so_call (ok_at_place W) (hr.mono (by omega)) W.m_at_place W.F_at_place.kp (bn_at_place W) tk (sg_d (se_var 0 rfl (vis_of (by kernel_rfl)) (by kernel_rfl) (by kernel_rfl)) (sg_d (se_var 1 rfl (vis_of (by kernel_rfl)) (by kernel_rfl) (by kernel_rfl)) sg_nil)) (gl_of (by kernel_rfl)) (by kernel_rfl))) rfl (loc_of (by kernel_rfl)))
       (ss_cons (sv_if (st_cmp od_is (se_var 2 rfl (vis_of (by kernel_rfl)) (by kernel_rfl) (by kernel_rfl)) se_non) (ss_one (sv_raiseX (y := "NoPlace") rfl tk W.X_NoPlace (oki_NoPlace W) (hr.mono (by omega)) (bni_NoPlace W) (passes_call tk fun _ _ _ _ z => z.elim) W.n_NoPlace rfl (by decide) (sg_d (se_var 1 rfl (vis_of (by kernel_rfl)) (by kernel_rfl) (by kernel_rfl)) sg_nil) (gl_of (by kernel_rfl)) (by kernel_rfl))) ss_nil)
       (ss_one (sv_ret (so_d (se_var 2 rfl (vis_of (by kernel_rfl)) (by kernel_rfl) (by kernel_rfl))))))))
theorem ok_put_at (W : Wd K mg) : FnOk P w K mg base (L2.CX P w) 46 W.a_put_at W.d_put_at ["term", "place", "part"] (spF K (He.ga K) SW.f_put_at) := by
    refine fn_rule (k := 45) [] W.F_put_at sc_put_at fun cdv A outer s H E F O σ hr tk => ?_
    have hu := u64 hr
    have hw := u65 hr
    have hv := u66 hr
    have NN := sc_put_at.nd
    exact (ss_cons (sv_expr (so_callK0 (ok_sure_terms W) (hr.mono (by omega)) W.m_sure_terms W.F_sure_terms.kp (bn_sure_terms W) tk (gD_len gNil_len) (sk_d (se_n (n_lst (sa_cons (se_var 0 rfl (vis_of (by kernel_rfl)) (by kernel_rfl) (by kernel_rfl)) (sa_cons (se_var 2 rfl (vis_of (by kernel_rfl)) (by kernel_rfl) (by kernel_rfl)) sa_nil)))) sk_nil) (gl_of (by kernel_rfl)) (by kernel_rfl)))
       (ss_cons (sv_if (st_cmp od_is (se_frz (so_call (ok_at_place W) (hr.mono (by omega)) W.m_at_place W.F_at_place.kp (bn_at_place W) tk (sg_d (se_var 0 rfl (vis_of (by kernel_rfl)) (by kernel_rfl) (by kernel_rfl)) (sg_d (se_var 1 rfl (vis_of (by kernel_rfl)) (by kernel_rfl) (by kernel_rfl)) sg_nil)) (gl_of (by kernel_rfl)) (by kernel_rfl))) se_non) (ss_one (sv_raiseX (y := "NoPlace") rfl tk W.X_NoPlace (oki_NoPlace W) (hr.mono (by omega)) (bni_NoPlace W) (passes_call tk fun _ _ _ _ z => z.elim) W.n_NoPlace rfl (by decide) (sg_d (se_var 1 rfl (vis_of (by kernel_rfl)) (by kernel_rfl) (by kernel_rfl)) sg_nil) (gl_of (by kernel_rfl)) (by kernel_rfl))) ss_nil)
       (ss_one (sv_ret (so_call (ok_with_part W 40) (hr.mono (by omega)) W.m_with_part W.F_with_part.kp (bn_with_part W) tk (sg_d (se_var 0 rfl (vis_of (by kernel_rfl)) (by kernel_rfl) (by kernel_rfl)) (sg_d (se_var 1 rfl (vis_of (by kernel_rfl)) (by kernel_rfl) (by kernel_rfl)) (sg_d (se_var 2 rfl (vis_of (by kernel_rfl)) (by kernel_rfl) (by kernel_rfl)) sg_nil))) (gl_of (by kernel_rfl)) (by kernel_rfl))))))
theorem ok__law_mixed (W : Wd K mg) : FnOk P w K mg base (L2.CX P w) 1 W.a__law_mixed W.d__law_mixed ["_law_cell", "_law_k"] (spF K (He.ga K) SH.f__law_mixed) := by
    refine fn_rule (k := 0) [] W.F__law_mixed sc__law_mixed fun cdv A outer s H E F O σ hr tk => ?_
    have hu := u64 hr
    have hw := u65 hr
    have hv := u66 hr
    have NN := sc__law_mixed.nd
    exact (ss_cons (sv_set (i := 2) NN (se_bin od_mod (se_bin od_add (se_bin od_add (se_bin od_mul (se_var 0 rfl (vis_of (by kernel_rfl)) (by kernel_rfl) (by kernel_rfl)) se_int) (se_bin od_mul (se_var 1 rfl (vis_of (by kernel_rfl)) (by kernel_rfl) (by kernel_rfl)) se_int)) se_int) se_int) rfl (loc_of (by kernel_rfl)))
       (ss_cons (sv_set (i := 2) NN (se_bin od_mod (se_bin od_mul (se_var 2 rfl (vis_of (by kernel_rfl)) (by kernel_rfl) (by kernel_rfl)) (se_var 2 rfl (vis_of (by kernel_rfl)) (by kernel_rfl) (by kernel_rfl))) se_int) rfl (loc_of (by kernel_rfl)))
       (ss_one (sv_ret (so_d (se_bin od_div (se_bin od_mod (se_bin od_mul (se_var 2 rfl (vis_of (by kernel_rfl)) (by kernel_rfl) (by kernel_rfl)) (se_var 2 rfl (vis_of (by kernel_rfl)) (by kernel_rfl) (by kernel_rfl))) se_int) se_int))))))
theorem ok__law_pile (W : Wd K mg) : FnOk P w K mg base (L2.CX P w) 1 W.a__law_pile W.d__law_pile ["_law_script", "_law_k"] (spF K (He.ga K) SH.f__law_pile) := by
    refine fn_rule (k := 0) [] W.F__law_pile sc__law_pile fun cdv A outer s H E F O σ hr tk => ?_
    have hu := u64 hr
    have hw := u65 hr
    have hv := u66 hr
    have NN := sc__law_pile.nd
    exact (ss_cons (sv_set (i := 2) NN se_int rfl (loc_of (by kernel_rfl)))
       (ss_cons (sv_if (st_cmp od_lt (se_var 1 rfl (vis_of (by kernel_rfl)) (by kernel_rfl) (by kernel_rfl)) (se_b1 cd_len W.b_len (se_var 0 rfl (vis_of (by kernel_rfl)) (by kernel_rfl) (by kernel_rfl)))) (ss_one (sv_set (i := 2) NN (se_ix (se_var 0 rfl (vis_of (by kernel_rfl)) (by kernel_rfl) (by kernel_rfl)) (se_var 1 rfl (vis_of (by kernel_rfl)) (by kernel_rfl) (by kernel_rfl))) rfl (loc_of (by kernel_rfl)))) ss_nil)
       (ss_cons (sv_set (i := 3) NN (se_bin od_mod (se_var 2 rfl (vis_of (by kernel_rfl)) (by kernel_rfl) (by kernel_rfl)) (se_bin od_mul (se_bin od_mul (se_bin od_pow se_int se_int) (se_bin od_pow se_int se_int)) (se_bin od_pow se_int se_int))) rfl (loc_of (by kernel_rfl)))
       (ss_one (sv_ret (so_n (n_lst (sa_cons (se_bin od_mul (se_var 3 rfl (vis_of (by kernel_rfl)) (by kernel_rfl) (by kernel_rfl)) (se_t1 cd_int W.b_int (se_cmp od_ge (se_b1 cd_abs W.b_abs (se_var 2 rfl (vis_of (by kernel_rfl)) (by kernel_rfl) (by kernel_rfl))) (se_bin od_pow se_int se_int)))) (sa_cons (se_bin od_mod (se_var 2 rfl (vis_of (by kernel_rfl)) (by kernel_rfl) (by kernel_rfl)) se_int) (sa_cons (se_bin od_mul se_int (se_var 1 rfl (vis_of (by kernel_rfl)) (by kernel_rfl) (by kernel_rfl))) sa_nil))))))))))
theorem ok__law_take (W : Wd K mg) : FnOk P w K mg base (L2.CX P w) 2 W.a__law_take W.d__law_take ["_law_pile_here", "_law_many"] (spF K (He.ga K) SH.f__law_take) := by
    refine fn_rule (k := 1) [0] W.F__law_take sc__law_take fun cdv A outer s H E F O σ hr tk => ?_
    have hu := u64 hr
    have hw := u65 hr
    have hv := u66 hr
    have NN := sc__law_take.nd
    exact (ss_cons (sv_if (st_cmp (od_eq hu) (se_ix (se_look 0 rfl (vis_of (by kernel_rfl)) (by kernel_rfl) (by kernel_rfl)) se_int) se_int) (ss_cons (sv_put 0 rfl se_int (se_bin od_add (se_ix (se_look 0 rfl (vis_of (by kernel_rfl)) (by kernel_rfl) (by kernel_rfl)) se_int) se_int) (vis_of (by kernel_rfl)) (by kernel_rfl) (by kernel_rfl))
       (ss_one (sv_ret (so_d (se_bin od_mod (se_frz (so_call (ok__law_mixed W) (hr.mono (by omega)) W.m__law_mixed W.F__law_mixed.kp (bn__law_mixed W) tk (sg_d (se_ix (se_look 0 rfl (vis_of (by kernel_rfl)) (by kernel_rfl) (by kernel_rfl)) se_int) (sg_d (se_ix (se_look 0 rfl (vis_of (by kernel_rfl)) (by kernel_rfl) (by kernel_rfl)) se_int) sg_nil)) (gl_of (by kernel_rfl)) (by kernel_rfl))) (se_var 1 rfl (vis_of (by kernel_rfl)) (by kernel_rfl) (by kernel_rfl))))))) ss_nil)
       (ss_cons (sv_set (i := 2) NN (se_bin od_mod (se_ix (se_look 0 rfl (vis_of (by kernel_rfl)) (by kernel_rfl) (by kernel_rfl)) se_int) (se_var 1 rfl (vis_of (by kernel_rfl)) (by kernel_rfl) (by kernel_rfl))) rfl (loc_of (by kernel_rfl)))
       (ss_cons (sv_put 0 rfl se_int (se_bin od_div (se_ix (se_look 0 rfl (vis_of (by kernel_rfl)) (by kernel_rfl) (by kernel_rfl)) se_int) (se_var 1 rfl (vis_of (by kernel_rfl)) (by kernel_rfl) (by kernel_rfl))) (vis_of (by kernel_rfl)) (by kernel_rfl) (by kernel_rfl))
       (ss_one (sv_ret (so_d (se_var 2 rfl (vis_of (by kernel_rfl)) (by kernel_rfl) (by kernel_rfl))))))))
theorem ok__law_name (W : Wd K mg) : FnOk P w K mg base (L2.CX P w) 3 W.a__law_name W.d__law_name ["_law_pile_here"] (spF K (He.ga K) SH.f__law_name) := by
    refine fn_rule (k := 2) [0] W.F__law_name sc__law_name fun cdv A outer s H E F O σ hr tk => ?_
    have hu := u64 hr
    have hw := u65 hr
    have hv := u66 hr
    have NN := sc__law_name.nd
    exact (ss_cons (sv_set (i := 1) NN (se_frz (so_call (ok__law_take W) (hr.mono (by omega)) W.m__law_take W.F__law_take.kp (bn__law_take W) tk (sg_o 0 (sg_d se_int sg_nil) rfl (vis_of (by kernel_rfl)) (by kernel_rfl) (by kernel_rfl)) (gl_of (by kernel_rfl)) (by kernel_rfl))) rfl (loc_of (by kernel_rfl)))
       (ss_cons (sv_set (i := 2) NN se_str rfl (loc_of (by kernel_rfl)))
       (ss_cons (sv_set (i := 3) NN (se_ix (se_var 2 rfl (vis_of (by kernel_rfl)) (by kernel_rfl) (by kernel_rfl)) (se_frz (so_call (ok__law_take W) (hr.mono (by omega)) W.m__law_take W.F__law_take.kp (bn__law_take W) tk (sg_o 0 (sg_d (se_ix (se_n (n_lst (sa_cons se_int (sa_cons se_int sa_nil)))) (se_t1 cd_int W.b_int (se_cmp od_gt (se_var 1 rfl (vis_of (by kernel_rfl)) (by kernel_rfl) (by kernel_rfl)) se_int))) sg_nil) rfl (vis_of (by kernel_rfl)) (by kernel_rfl) (by kernel_rfl)) (gl_of (by kernel_rfl)) (by kernel_rfl)))) rfl (loc_of (by kernel_rfl)))
       (ss_cons (sv_if (st_cmp (od_eq hu) (se_var 1 rfl (vis_of (by kernel_rfl)) (by kernel_rfl) (by kernel_rfl)) se_int) (ss_one (sv_set (i := 3) NN (se_bin od_add (se_var 3 rfl (vis_of (by kernel_rfl)) (by kernel_rfl) (by kernel_rfl)) (se_t1 cd_str W.b_str (se_frz (so_call (ok__law_take W) (hr.mono (by omega)) W.m__law_take W.F__law_take.kp (bn__law_take W) tk (sg_o 0 (sg_d se_int sg_nil) rfl (vis_of (by kernel_rfl)) (by kernel_rfl) (by kernel_rfl)) (gl_of (by kernel_rfl)) (by kernel_rfl))))) rfl (loc_of (by kernel_rfl)))) ss_nil)
       (ss_cons (sv_if (st_cmp (od_eq hu) (se_var 1 rfl (vis_of (by kernel_rfl)) (by kernel_rfl) (by kernel_rfl)) se_int) (ss_one (sv_for (passes_of rfl) rfl (si_range1 W.b_range (se_bin od_add se_int (se_frz (so_call (ok__law_take W) (hr.mono (by omega)) W.m__law_take W.F__law_take.kp (bn__law_take W) tk (sg_o 0 (sg_d se_int sg_nil) rfl (vis_of (by kernel_rfl)) (by kernel_rfl) (by kernel_rfl)) (gl_of (by kernel_rfl)) (by kernel_rfl))))) (fun F1 H1 O1 σ1 => (tg_name (i := 4) NN rfl (loc_of (by kernel_rfl)))) (fun F1 H1 O1 σ1 => (ss_one (sv_set (i := 3) NN (se_bin od_add (se_var 3 rfl (vis_of (by kernel_rfl)) (by kernel_rfl) (by kernel_rfl)) (se_ix (se_bin od_add (se_var 2 rfl (vis_of (by kernel_rfl)) (by kernel_rfl) (by kernel_rfl)) se_str) (se_frz (so_call (ok__law_take W) (hr.mono (by omega)) W.m__law_take W.F__law_take.kp (bn__law_take W) tk (sg_o 0 (sg_d se_int sg_nil) rfl (vis_of (by kernel_rfl)) (by kernel_rfl) (by kernel_rfl)) (gl_of (by kernel_rfl)) (by kernel_rfl))))) rfl (loc_of (by kernel_rfl))))))) ss_nil)
       (ss_one (sv_ret (so_d (se_var 3 rfl (vis_of (by kernel_rfl)) (by kernel_rfl) (by kernel_rfl))))))))))
theorem ok__law_names (W : Wd K mg) : FnOk P w K mg base (L2.CX P w) 4 W.a__law_names W.d__law_names ["_law_pile_here", "_law_many"] (spF K (He.ga K) SH.f__law_names) := by
    refine fn_rule (k := 3) [0] W.F__law_names sc__law_names fun cdv A outer s H E F O σ hr tk => ?_
    have hu := u64 hr
    have hw := u65 hr
    have hv := u66 hr
    have NN := sc__law_names.nd
    exact (ss_cons (sv_setO (i := 2) NN (so_n (n_lst sa_nil)) rfl (loc_of (by kernel_rfl)))
       (ss_cons (sv_for (passes_of rfl) rfl (si_range1 W.b_range (se_var 1 rfl (vis_of (by kernel_rfl)) (by kernel_rfl) (by kernel_rfl))) (fun F1 H1 O1 σ1 => (tg_name (i := 3) NN rfl (loc_of (by kernel_rfl)))) (fun F1 H1 O1 σ1 => (ss_cons (sv_set (i := 4) NN (se_frz (so_call (ok__law_name W) (hr.mono (by omega)) W.m__law_name W.F__law_name.kp (bn__law_name W) tk (sg_o 0 sg_nil rfl (vis_of (by kernel_rfl)) (by kernel_rfl) (by kernel_rfl)) (gl_of (by kernel_rfl)) (by kernel_rfl))) rfl (loc_of (by kernel_rfl)))
       (ss_cons (sv_if (st_cmp (od_in hw) (se_var 4 rfl (vis_of (by kernel_rfl)) (by kernel_rfl) (by kernel_rfl)) (se_look 2 rfl (vis_of (by kernel_rfl)) (by kernel_rfl) (by kernel_rfl))) (ss_one (sv_set (i := 4) NN (se_ix (se_n (n_lc (own := [("_law_one", 5)]) (fb := [0, 1, 2, 3, 4]) rfl NN (si_val (se_n (n_lst (sa_cons se_str (sa_cons se_str (sa_cons se_str (sa_cons se_str (sa_cons se_str (sa_cons se_str (sa_cons se_str (sa_cons se_str sa_nil))))))))))) (blkOk_by (by kernel_rfl)) (fun F1 H1 O1 σ1 s1 Hb C cl fp => (tg_name (i := 5) NN rfl (loc_of (by kernel_rfl)))) (fun F1 H1 O1 σ1 s1 Hb C cl fp => (pts_one (st_cmp (od_nin hw) (se_var 5 rfl (vis_of (by kernel_rfl)) (by kernel_rfl) (by kernel_rfl)) (se_look 2 rfl (vis_of (by kernel_rfl)) (by kernel_rfl) (by kernel_rfl))))) (fun F1 H1 O1 σ1 s1 Hb C cl fp => (se_var 5 rfl (vis_of (by kernel_rfl)) (by kernel_rfl) (by kernel_rfl))))) se_int) rfl (loc_of (by kernel_rfl)))) ss_nil)
       (ss_one (sv_expr (so_d (se_lm 2 PySem.F.slot_list_append PySem.F.type_list_append md_append (sa_cons (se_var 4 rfl (vis_of (by kernel_rfl)) (by kernel_rfl) (by kernel_rfl)) sa_nil) rfl (vis_of (by kernel_rfl)) (by kernel_rfl) (by kernel_rfl)))))))))
       (ss_one (sv_ret (so_move 2 rfl (vis_of (by kernel_rfl)) (by kernel_rfl) (by kernel_rfl))))))
theorem ok__law_order (W : Wd K mg) : FnOk P w K mg base (L2.CX P w) 3 W.a__law_order W.d__law_order ["_law_pile_here", "_law_some"] (spF K (He.ga K) SH.f__law_order) := by
    refine fn_rule (k := 2) [0] W.F__law_order sc__law_order fun cdv A outer s H E F O σ hr tk => ?_
    have hu := u64 hr
    have hw := u65 hr
    have hv := u66 hr
    have NN := sc__law_order.nd
    exact (ss_cons (sv_setO (i := 2) NN (so_n (n_t1 cd_list W.b_list (se_var 1 rfl (vis_of (by kernel_rfl)) (by kernel_rfl) (by kernel_rfl)))) rfl (loc_of (by kernel_rfl)))
       (ss_cons (sv_setO (i := 3) NN (so_n (n_lst sa_nil)) rfl (loc_of (by kernel_rfl)))
       (ss_cons (sv_while (passes_of rfl) (st_cmp (od_ne hu) (se_look 2 rfl (vis_of (by kernel_rfl)) (by kernel_rfl) (by kernel_rfl)) (se_n (n_lst sa_nil))) (ss_one (sv_expr (so_d (se_lm 3 PySem.F.slot_list_append PySem.F.type_list_append md_append (sa_cons (se_lm 2 PySem.F.slot_list_pop PySem.F.type_list_pop md_pop (sa_cons (se_frz (so_call (ok__law_take W) (hr.mono (by omega)) W.m__law_take W.F__law_take.kp (bn__law_take W) tk (sg_o 0 (sg_d (se_b1 cd_len W.b_len (se_look 2 rfl (vis_of (by kernel_rfl)) (by kernel_rfl) (by kernel_rfl))) sg_nil) rfl (vis_of (by kernel_rfl)) (by kernel_rfl) (by kernel_rfl)) (gl_of (by kernel_rfl)) (by kernel_rfl))) sa_nil) rfl (vis_of (by kernel_rfl)) (by kernel_rfl) (by kernel_rfl)) sa_nil) rfl (vis_of (by kernel_rfl)) (by kernel_rfl) (by kernel_rfl))))))
       (ss_one (sv_ret (so_move 3 rfl (vis_of (by kernel_rfl)) (by kernel_rfl) (by kernel_rfl)))))))
theorem ok__law_turn (W : Wd K mg) : FnOk P w K mg base (L2.CX P w) 4 W.a__law_turn W.d__law_turn ["_law_pile_here", "_law_names_here"] (spF K (He.ga K) SH.f__law_turn) := by
    refine fn_rule (k := 3) [0] W.F__law_turn sc__law_turn fun cdv A outer s H E F O σ hr tk => ?_
    have hu := u64 hr
    have hw := u65 hr
    have hv := u66 hr
    have NN := sc__law_turn.nd
    exact (ss_cons (sv_set (i := 2) NN (se_frz (so_call (ok__law_take W) (hr.mono (by omega)) W.m__law_take W.F__law_take.kp (bn__law_take W) tk (sg_o 0 (sg_d se_int sg_nil) rfl (vis_of (by kernel_rfl)) (by kernel_rfl) (by kernel_rfl)) (gl_of (by kernel_rfl)) (by kernel_rfl))) rfl (loc_of (by kernel_rfl)))
       (ss_cons (sv_setO (i := 3) NN (so_n (n_t1 cd_list W.b_list (se_var 1 rfl (vis_of (by kernel_rfl)) (by kernel_rfl) (by kernel_rfl)))) rfl (loc_of (by kernel_rfl)))
       (ss_cons (sv_if (st_cmp (od_eq hu) (se_var 2 rfl (vis_of (by kernel_rfl)) (by kernel_rfl) (by kernel_rfl)) se_int) (ss_cons (sv_par (i := 4) (j := 5) rfl NN (sa_cons (se_frz (so_call (ok__law_take W) (hr.mono (by omega)) W.m__law_take W.F__law_take.kp (bn__law_take W) tk (sg_o 0 (sg_d (se_b1 cd_len W.b_len (se_var 1 rfl (vis_of (by kernel_rfl)) (by kernel_rfl) (by kernel_rfl))) sg_nil) rfl (vis_of (by kernel_rfl)) (by kernel_rfl) (by kernel_rfl)) (gl_of (by kernel_rfl)) (by kernel_rfl))) (sa_cons (se_frz (so_call (ok__law_take W) (hr.mono (by omega)) W.m__law_take W.F__law_take.kp (bn__law_take W) tk (sg_o 0 (sg_d (se_b1 cd_len W.b_len (se_var 1 rfl (vis_of (by kernel_rfl)) (by kernel_rfl) (by kernel_rfl))) sg_nil) rfl (vis_of (by kernel_rfl)) (by kernel_rfl) (by kernel_rfl)) (gl_of (by kernel_rfl)) (by kernel_rfl))) sa_nil)) rfl rfl (by decide) (by kernel_rfl) (by kernel_rfl))
       (ss_cons (sv_set (i := 6) NN (se_ix (se_look 3 rfl (vis_of (by kernel_rfl)) (by kernel_rfl) (by kernel_rfl)) (se_var 4 rfl (vis_of (by kernel_rfl)) (by kernel_rfl) (by kernel_rfl))) rfl (loc_of (by kernel_rfl)))
       (ss_cons (sv_put 3 rfl (se_var 4 rfl (vis_of (by kernel_rfl)) (by kernel_rfl) (by kernel_rfl)) (se_ix (se_look 3 rfl (vis_of (by kernel_rfl)) (by kernel_rfl) (by kernel_rfl)) (se_var 5 rfl (vis_of (by kernel_rfl)) (by kernel_rfl) (by kernel_rfl))) (vis_of (by kernel_rfl)) (by kernel_rfl) (by kernel_rfl))
       (ss_one (sv_put 3 rfl (se_var 5 rfl (vis_of (by kernel_rfl)) (by kernel_rfl) (by kernel_rfl)) (se_var 6 rfl (vis_of (by kernel_rfl)) (by kernel_rfl) (by kernel_rfl)) (vis_of (by kernel_rfl)) (by kernel_rfl) (by kernel_rfl)))))) ss_nil)
       (ss_cons (sv_if (st_cmp (od_eq hu) (se_var 2 rfl (vis_of (by kernel_rfl)) (by kernel_rfl) (by kernel_rfl)) se_int) (ss_one (sv_setO (i := 3) NN (so_call (ok__law_order W) (hr.mono (by omega)) W.m__law_order W.F__law_order.kp (bn__law_order W) tk (sg_o 0 (sg_d (se_var 1 rfl (vis_of (by kernel_rfl)) (by kernel_rfl) (by kernel_rfl)) sg_nil) rfl (vis_of (by kernel_rfl)) (by kernel_rfl) (by kernel_rfl)) (gl_of (by kernel_rfl)) (by kernel_rfl)) rfl (loc_of (by kernel_rfl)))) ss_nil)
       (ss_one (sv_ret (so_d (se_t1 cd_tup W.b_tuple (se_n (n_b1 (cd_sorted hv) W.b_sorted (se_n (n_lc (own := [("_law_name_here", 7), ("_law_to", 8)]) (fb := [0, 1, 2, 3, 4, 5, 6]) rfl NN (si_zip W.b_zip (se_var 1 rfl (vis_of (by kernel_rfl)) (by kernel_rfl) (by kernel_rfl)) (se_frzv 3 rfl (vis_of (by kernel_rfl)) (by kernel_rfl) (by kernel_rfl))) (blkOk_by (by kernel_rfl)) (fun F1 H1 O1 σ1 s1 Hb C cl fp => (tg_tup (n := 2) rfl (tg_cons (tg_name (i := 7) NN rfl (loc_of (by kernel_rfl))) (tg_cons (tg_name (i := 8) NN rfl (loc_of (by kernel_rfl))) tg_nil)))) (fun F1 H1 O1 σ1 s1 Hb C cl fp => (pts_one (st_cmp (od_ne hu) (se_var 7 rfl (vis_of (by kernel_rfl)) (by kernel_rfl) (by kernel_rfl)) (se_var 8 rfl (vis_of (by kernel_rfl)) (by kernel_rfl) (by kernel_rfl))))) (fun F1 H1 O1 σ1 s1 Hb C cl fp => (se_tup (sa_cons (se_var 7 rfl (vis_of (by kernel_rfl)) (by kernel_rfl) (by kernel_rfl)) (sa_cons (se_var 8 rfl (vis_of (by kernel_rfl)) (by kernel_rfl) (by kernel_rfl)) sa_nil))))))))))))))))
theorem ok__law_holes (W : Wd K mg) : FnOk P w K mg base (L2.CX P w) 3 W.a__law_holes W.d__law_holes ["_law_pile_here", "_law_many"] (spF K (He.ga K) ST.f__law_holes) := by
    refine fn_rule (k := 2) [0] W.F__law_holes sc__law_holes fun cdv A outer s H E F O σ hr tk => ?_
    have hu := u64 hr
    have hw := u65 hr
    have hv := u66 hr
    have NN := sc__law_holes.nd
    exact (ss_cons (sv_set (i := 2) NN se_str rfl (loc_of (by kernel_rfl)))
       (ss_cons (sv_setO (i := 3) NN (so_n (n_lst sa_nil)) rfl (loc_of (by kernel_rfl)))
       (ss_cons (sv_for (passes_of rfl) rfl (si_range1 W.b_range (se_var 1 rfl (vis_of (by kernel_rfl)) (by kernel_rfl) (by kernel_rfl))) (fun F1 H1 O1 σ1 => (tg_name (i := 4) NN rfl (loc_of (by kernel_rfl)))) (fun F1 H1 O1 σ1 => (ss_cons (sv_set (i := 5) NN (se_ix (se_var 2 rfl (vis_of (by kernel_rfl)) (by kernel_rfl) (by kernel_rfl)) (se_frz (so_call (ok__law_take W) (hr.mono (by omega)) W.m__law_take W.F__law_take.kp (bn__law_take W) tk (sg_o 0 (sg_d se_int sg_nil) rfl (vis_of (by kernel_rfl)) (by kernel_rfl) (by kernel_rfl)) (gl_of (by kernel_rfl)) (by kernel_rfl)))) rfl (loc_of (by kernel_rfl)))
       (ss_cons (sv_if (st_cmp (od_eq hu) (se_frz (so_call (ok__law_take W) (hr.mono (by omega)) W.m__law_take W.F__law_take.kp (bn__law_take W) tk (sg_o 0 (sg_d se_int sg_nil) rfl (vis_of (by kernel_rfl)) (by kernel_rfl) (by kernel_rfl)) (gl_of (by kernel_rfl)) (by kernel_rfl))) se_int) (ss_one (sv_for (passes_of rfl) rfl (si_range1 W.b_range (se_frz (so_call (ok__law_take W) (hr.mono (by omega)) W.m__law_take W.F__law_take.kp (bn__law_take W) tk (sg_o 0 (sg_d se_int sg_nil) rfl (vis_of (by kernel_rfl)) (by kernel_rfl) (by kernel_rfl)) (gl_of (by kernel_rfl)) (by kernel_rfl)))) (fun F1 H1 O1 σ1 => (tg_name (i := 6) NN rfl (loc_of (by kernel_rfl)))) (fun F1 H1 O1 σ1 => (ss_one (sv_set (i := 5) NN (se_bin od_add (se_var 5 rfl (vis_of (by kernel_rfl)) (by kernel_rfl) (by kernel_rfl)) (se_ix (se_bin od_add (se_var 2 rfl (vis_of (by kernel_rfl)) (by kernel_rfl) (by kernel_rfl)) se_str) (se_frz (so_call (ok__law_take W) (hr.mono (by omega)) W.m__law_take W.F__law_take.kp (bn__law_take W) tk (sg_o 0 (sg_d se_int sg_nil) rfl (vis_of (by kernel_rfl)) (by kernel_rfl) (by kernel_rfl)) (gl_of (by kernel_rfl)) (by kernel_rfl))))) rfl (loc_of (by kernel_rfl))))))) ss_nil)
       (ss_cons (sv_if (st_cmp (od_in hw) (se_var 5 rfl (vis_of (by kernel_rfl)) (by kernel_rfl) (by kernel_rfl)) (se_look 3 rfl (vis_of (by kernel_rfl)) (by kernel_rfl) (by kernel_rfl))) (ss_one (sv_set (i := 5) NN (se_ix (se_n (n_lc (own := [("_law_one", 7)]) (fb := [0, 1, 2, 3, 4, 5, 6]) rfl NN (si_val (se_n (n_lst (sa_cons se_str (sa_cons se_str (sa_cons se_str (sa_cons se_str (sa_cons se_str (sa_cons se_str sa_nil))))))))) (blkOk_by (by kernel_rfl)) (fun F1 H1 O1 σ1 s1 Hb C cl fp => (tg_name (i := 7) NN rfl (loc_of (by kernel_rfl)))) (fun F1 H1 O1 σ1 s1 Hb C cl fp => (pts_one (st_cmp (od_nin hw) (se_var 7 rfl (vis_of (by kernel_rfl)) (by kernel_rfl) (by kernel_rfl)) (se_look 3 rfl (vis_of (by kernel_rfl)) (by kernel_rfl) (by kernel_rfl))))) (fun F1 H1 O1 σ1 s1 Hb C cl fp => (se_var 7 rfl (vis_of (by kernel_rfl)) (by kernel_rfl) (by kernel_rfl))))) se_int) rfl (loc_of (by kernel_rfl)))) ss_nil)
       (ss_one (sv_expr (so_d (se_lm 3 PySem.F.slot_list_append PySem.F.type_list_append md_append (sa_cons (se_var 5 rfl (vis_of (by kernel_rfl)) (by kernel_rfl) (by kernel_rfl)) sa_nil) rfl (vis_of (by kernel_rfl)) (by kernel_rfl) (by kernel_rfl))))))))))
       (ss_one (sv_ret (so_move 3 rfl (vis_of (by kernel_rfl)) (by kernel_rfl) (by kernel_rfl)))))))
theorem ok__law_sign (W : Wd K mg) : FnOk P w K mg base (L2.CX P w) 3 W.a__law_sign W.d__law_sign ["_law_pile_here", "_law_names_here"] (spF K (He.ga K) ST.f__law_sign) := by
    refine fn_rule (k := 2) [0] W.F__law_sign sc__law_sign fun cdv A outer s H E F O σ hr tk => ?_
    have hu := u64 hr
    have hw := u65 hr
    have hv := u66 hr
    have NN := sc__law_sign.nd
    exact (ss_one (sv_ret (so_d (se_ix (se_n (n_lst (sa_cons se_str (sa_cons se_str (sa_cons se_str (sa_cons (se_ix (se_var 1 rfl (vis_of (by kernel_rfl)) (by kernel_rfl) (by kernel_rfl)) se_int) sa_nil)))))) (se_frz (so_call (ok__law_take W) (hr.mono (by omega)) W.m__law_take W.F__law_take.kp (bn__law_take W) tk (sg_o 0 (sg_d se_int sg_nil) rfl (vis_of (by kernel_rfl)) (by kernel_rfl) (by kernel_rfl)) (gl_of (by kernel_rfl)) (by kernel_rfl)))))))
theorem ok__law_term (W : Wd K mg) : ∀ n : Nat, FnOk P w K mg base (L2.CX P w) (4 + n) W.a__law_term W.d__law_term ["_law_pile_here", "_law_names_here", "_law_some", "_law_depth"] (spF K (He.ga K) (SU.f__law_term n))
  | 0 => ⟨fun vs H Q E z => by obtain ⟨_, _, _, _, _, _, _, z⟩ := z; exact z.elim, fun A outer s H args us vs Q E _ _ _ _ z => by obtain ⟨_, _, _, _, _, _, _, z⟩ := z; exact z.elim⟩
  | n + 1 => by
    have ih := ok__law_term W n
    refine fn_rule (k := 4 + n) [0, 2] W.F__law_term sc__law_term fun cdv A outer s H E F O σ hr tk => ?_
    have hu := u64 hr
    have hw := u65 hr
    have hv := u66 hr
    have NN := sc__law_term.nd
    exact (ss_cons (sv_set (i := 4) NN (se_frz (so_call (ok__law_take W) (hr.mono (by omega)) W.m__law_take W.F__law_take.kp (bn__law_take W) tk (sg_o 0 (sg_d se_int sg_nil) rfl (vis_of (by kernel_rfl)) (by kernel_rfl) (by kernel_rfl)) (gl_of (by kernel_rfl)) (by kernel_rfl))) rfl (loc_of (by kernel_rfl)))
       (ss_cons (sv_set (i := 5) NN (se_or (se_cmp (od_eq hu) (se_var 3 rfl (vis_of (by kernel_rfl)) (by kernel_rfl) (by kernel_rfl)) se_int) (se_one (se_cmp (od_eq hu) (se_var 4 rfl (vis_of (by kernel_rfl)) (by kernel_rfl) (by kernel_rfl)) se_int))) rfl (loc_of (by kernel_rfl)))
       (ss_cons (sv_if (PW.pt (st_and (st_val (se_var 5 rfl (vis_of (by kernel_rfl)) (by kernel_rfl) (by kernel_rfl))) (st_and (st_cmp (od_ne hu) (se_look 2 rfl (vis_of (by kernel_rfl)) (by kernel_rfl) (by kernel_rfl)) (se_n (n_lst sa_nil))) (st_and1 (st_cmp od_gt (se_frz (so_call (ok__law_take W) (hr.mono (by omega)) W.m__law_take W.F__law_take.kp (bn__law_take W) tk (sg_o 0 (sg_d se_int sg_nil) rfl (vis_of (by kernel_rfl)) (by kernel_rfl) (by kernel_rfl)) (gl_of (by kernel_rfl)) (by kernel_rfl))) se_int))))) (ss_one (sv_ret (so_d (se_tup (sa_cons se_str (sa_cons (se_frz (so_call (ok__law_turn W) (hr.mono (by omega)) W.m__law_turn W.F__law_turn.kp (bn__law_turn W) tk (sg_o 0 (sg_d (se_var 1 rfl (vis_of (by kernel_rfl)) (by kernel_rfl) (by kernel_rfl)) sg_nil) rfl (vis_of (by kernel_rfl)) (by kernel_rfl) (by kernel_rfl)) (gl_of (by kernel_rfl)) (by kernel_rfl))) (sa_cons (se_lm 2 PySem.F.slot_list_pop PySem.F.type_list_pop md_pop (sa_cons (se_frz (so_call (ok__law_take W) (hr.mono (by omega)) W.m__law_take W.F__law_take.kp (bn__law_take W) tk (sg_o 0 (sg_d (se_b1 cd_len W.b_len (se_look 2 rfl (vis_of (by kernel_rfl)) (by kernel_rfl) (by kernel_rfl))) sg_nil) rfl (vis_of (by kernel_rfl)) (by kernel_rfl) (by kernel_rfl)) (gl_of (by kernel_rfl)) (by kernel_rfl))) sa_nil) rfl (vis_of (by kernel_rfl)) (by kernel_rfl) (by kernel_rfl)) sa_nil))))))) ss_nil)
       (ss_cons (sv_if (st_val (se_var 5 rfl (vis_of (by kernel_rfl)) (by kernel_rfl) (by kernel_rfl))) (ss_one (sv_ret (so_d (se_tup (sa_cons se_str (sa_cons (se_ix (se_var 1 rfl (vis_of (by kernel_rfl)) (by kernel_rfl) (by kernel_rfl)) (se_frz (so_call (ok__law_take W) (hr.mono (by omega)) W.m__law_take W.F__law_take.kp (bn__law_take W) tk (sg_o 0 (sg_d (se_b1 cd_len W.b_len (se_var 1 rfl (vis_of (by kernel_rfl)) (by kernel_rfl) (by kernel_rfl))) sg_nil) rfl (vis_of (by kernel_rfl)) (by kernel_rfl) (by kernel_rfl)) (gl_of (by kernel_rfl)) (by kernel_rfl)))) sa_nil)))))) ss_nil)
       (ss_cons (sv_if (st_cmp od_lt (se_var 4 rfl (vis_of (by kernel_rfl)) (by kernel_rfl) (by kernel_rfl)) se_int) (ss_one (sv_ret (so_d (se_tup (sa_cons se_str (sa_cons (se_ix (se_var 1 rfl (vis_of (by kernel_rfl)) (by kernel_rfl) (by kernel_rfl)) (se_frz (so_call (ok__law_take W) (hr.mono (by omega)) W.m__law_take W.F__law_take.kp (bn__law_take W) tk (sg_o 0 (sg_d (se_b1 cd_len W.b_len (se_var 1 rfl (vis_of (by kernel_rfl)) (by kernel_rfl) (by kernel_rfl))) sg_nil) rfl (vis_of (by kernel_rfl)) (by kernel_rfl) (by kernel_rfl)) (gl_of (by kernel_rfl)) (by kernel_rfl)))) (sa_cons (se_frz (so_call ih (hr.mono (Nat.le_refl _)) W.m__law_term W.F__law_term.kp (bn__law_term W) tk (sg_o 0 (sg_d (se_var 1 rfl (vis_of (by kernel_rfl)) (by kernel_rfl) (by kernel_rfl)) (sg_o 2 (sg_d (se_bin od_sub (se_var 3 rfl (vis_of (by kernel_rfl)) (by kernel_rfl) (by kernel_rfl)) se_int) sg_nil) rfl (vis_of (by kernel_rfl)) (by kernel_rfl) (by kernel_rfl))) rfl (vis_of (by kernel_rfl)) (by kernel_rfl) (by kernel_rfl)) (gl_of (by kernel_rfl)) (by kernel_rfl))) sa_nil))))))) ss_nil)
       (ss_cons (sv_set (i := 6) NN (se_ix (se_n (n_lst (sa_cons se_int (sa_cons se_int (sa_cons se_int (sa_cons se_int (sa_cons se_int (sa_cons se_int sa_nil)))))))) (se_frz (so_call (ok__law_take W) (hr.mono (by omega)) W.m__law_take W.F__law_take.kp (bn__law_take W) tk (sg_o 0 (sg_d se_int sg_nil) rfl (vis_of (by kernel_rfl)) (by kernel_rfl) (by kernel_rfl)) (gl_of (by kernel_rfl)) (by kernel_rfl)))) rfl (loc_of (by kernel_rfl)))
       (ss_cons (sv_setLc (i := 7) (own := [("_law_k", 8)]) (fb := [0, 1, 2, 3, 4, 5, 6, 7]) rfl NN (si_range1 W.b_range (se_var 6 rfl (vis_of (by kernel_rfl)) (by kernel_rfl) (by kernel_rfl))) (blkOk_by (by kernel_rfl)) (fun F1 H1 O1 σ1 s1 Hb C cl fp => (tg_name (i := 8) NN rfl (loc_of (by kernel_rfl)))) (fun F1 H1 O1 σ1 s1 Hb C cl fp => st_yes) (fun F1 H1 O1 σ1 s1 Hb C cl fp => (se_frz (so_call ih (hr.mono (Nat.le_refl _)) W.m__law_term W.F__law_term.kp (bn__law_term W) takes0 (sg_o 0 (sg_d (se_var 1 rfl (vis_of (by kernel_rfl)) (by kernel_rfl) (by kernel_rfl)) (sg_o 2 (sg_d (se_bin od_sub (se_var 3 rfl (vis_of (by kernel_rfl)) (by kernel_rfl) (by kernel_rfl)) se_int) sg_nil) rfl (vis_of (by kernel_rfl)) (by kernel_rfl) (by kernel_rfl))) rfl (vis_of (by kernel_rfl)) (by kernel_rfl) (by kernel_rfl)) (gl_of (by kernel_rfl)) (by kernel_rfl)))) rfl (by kernel_rfl))
       (ss_one (sv_ret (so_d (se_tup (sa_cons se_str (sa_cons (se_frz (so_call (ok__law_sign W) (hr.mono (by omega)) W.m__law_sign W.F__law_sign.kp (bn__law_sign W) tk (sg_o 0 (sg_d (se_var 1 rfl (vis_of (by kernel_rfl)) (by kernel_rfl) (by kernel_rfl)) sg_nil) rfl (vis_of (by kernel_rfl)) (by kernel_rfl) (by kernel_rfl)) (gl_of (by kernel_rfl)) (by kernel_rfl))) (sa_cons (se_t1 cd_tup W.b_tuple (se_var 7 rfl (vis_of (by kernel_rfl)) (by kernel_rfl) (by kernel_rfl))) sa_nil))))))))))))))
theorem ok__law_any (W : Wd K mg) : FnOk P w K mg base (L2.CX P w) 46 W.a__law_any W.d__law_any ["_law_pile_here", "_law_names_here", "_law_some"] (spF K (He.ga K) SU.f__law_any) := by
    refine fn_rule (k := 45) [0, 2] W.F__law_any sc__law_any fun cdv A outer s H E F O σ hr tk => ?_
    have hu := u64 hr
    have hw := u65 hr
    have hv := u66 hr
    have NN := sc__law_any.nd
    exact (ss_cons (sv_set (i := 3) NN (se_frz (so_call (ok__law_take W) (hr.mono (by omega)) W.m__law_take W.F__law_take.kp (bn__law_take W) tk (sg_o 0 (sg_d se_int sg_nil) rfl (vis_of (by kernel_rfl)) (by kernel_rfl) (by kernel_rfl)) (gl_of (by kernel_rfl)) (by kernel_rfl))) rfl (loc_of (by kernel_rfl)))
       (ss_cons (sv_if (st_cmp (od_eq hu) (se_var 3 rfl (vis_of (by kernel_rfl)) (by kernel_rfl) (by kernel_rfl)) se_int) (ss_cons (sv_set (i := 4) NN (se_frz (so_call (ok__law_term W 40) (hr.mono (by omega)) W.m__law_term W.F__law_term.kp (bn__law_term W) tk (sg_o 0 (sg_d (se_var 1 rfl (vis_of (by kernel_rfl)) (by kernel_rfl) (by kernel_rfl)) (sg_o 2 (sg_d se_int sg_nil) rfl (vis_of (by kernel_rfl)) (by kernel_rfl) (by kernel_rfl))) rfl (vis_of (by kernel_rfl)) (by kernel_rfl) (by kernel_rfl)) (gl_of (by kernel_rfl)) (by kernel_rfl))) rfl (loc_of (by kernel_rfl)))
       (ss_cons (sv_killB [5] (sv_for (passes_of rfl) rfl (si_range1 W.b_range (se_bin od_add se_int (se_frz (so_call (ok__law_take W) (hr.mono (by omega)) W.m__law_take W.F__law_take.kp (bn__law_take W) tk (sg_o 0 (sg_d se_int sg_nil) rfl (vis_of (by kernel_rfl)) (by kernel_rfl) (by kernel_rfl)) (gl_of (by kernel_rfl)) (by kernel_rfl))))) (fun F1 H1 O1 σ1 => (tg_name (i := 5) NN rfl (loc_of (by kernel_rfl)))) (fun F1 H1 O1 σ1 => (ss_kill [5] (ss_one (sv_kill [] (sv_if (st_cmp (od_eq hu) (se_frz (so_call (ok__law_take W) (hr.mono (by omega)) W.m__law_take W.F__law_take.kp (bn__law_take W) tk (sg_o 0 (sg_d se_int sg_nil) rfl (vis_of (by kernel_rfl)) (by kernel_rfl) (by kernel_rfl)) (gl_of (by kernel_rfl)) (by kernel_rfl))) se_int) (ss_one (sv_set (i := 4) NN (se_tup (sa_cons se_str (sa_cons (se_frz (so_call (ok__law_sign W) (hr.mono (by omega)) W.m__law_sign W.F__law_sign.kp (bn__law_sign W) tk (sg_o 0 (sg_d (se_var 1 rfl (vis_of (by kernel_rfl)) (by kernel_rfl) (by kernel_rfl)) sg_nil) rfl (vis_of (by kernel_rfl)) (by kernel_rfl) (by kernel_rfl)) (gl_of (by kernel_rfl)) (by kernel_rfl))) (sa_cons (se_tup (sa_cons (se_var 4 rfl (vis_of (by kernel_rfl)) (by kernel_rfl) (by kernel_rfl)) sa_nil)) sa_nil)))) rfl (loc_of (by kernel_rfl)))) (ss_one (sv_set (i := 4) NN (se_tup (sa_cons se_str (sa_cons (se_ix (se_var 1 rfl (vis_of (by kernel_rfl)) (by kernel_rfl) (by kernel_rfl)) (se_frz (so_call (ok__law_take W) (hr.mono (by omega)) W.m__law_take W.F__law_take.kp (bn__law_take W) tk (sg_o 0 (sg_d (se_b1 cd_len W.b_len (se_var 1 rfl (vis_of (by kernel_rfl)) (by kernel_rfl) (by kernel_rfl))) sg_nil) rfl (vis_of (by kernel_rfl)) (by kernel_rfl) (by kernel_rfl)) (gl_of (by kernel_rfl)) (by kernel_rfl)))) (sa_cons (se_var 4 rfl (vis_of (by kernel_rfl)) (by kernel_rfl) (by kernel_rfl)) sa_nil)))) rfl (loc_of (by kernel_rfl)))))))))))
       (ss_one (sv_ret (so_d (se_var 4 rfl (vis_of (by kernel_rfl)) (by kernel_rfl) (by kernel_rfl))))))) ss_nil)
       (ss_cons (sv_if (st_cmp (od_eq hu) (se_var 3 rfl (vis_of (by kernel_rfl)) (by kernel_rfl) (by kernel_rfl)) se_int) (ss_cons (sv_setLc (i := 6) (own := [("_law_k", 5)]) (fb := [0, 1, 2, 3, 4, 6]) rfl NN (si_range1 W.b_range (se_frz (so_call (ok__law_take W) (hr.mono (by omega)) W.m__law_take W.F__law_take.kp (bn__law_take W) tk (sg_o 0 (sg_d se_int sg_nil) rfl (vis_of (by kernel_rfl)) (by kernel_rfl) (by kernel_rfl)) (gl_of (by kernel_rfl)) (by kernel_rfl)))) (blkOk_by (by kernel_rfl)) (fun F1 H1 O1 σ1 s1 Hb C cl fp => (tg_name (i := 5) NN rfl (loc_of (by kernel_rfl)))) (fun F1 H1 O1 σ1 s1 Hb C cl fp => st_yes) (fun F1 H1 O1 σ1 s1 Hb C cl fp => (se_frz (so_call (ok__law_term W 40) (hr.mono (by omega)) W.m__law_term W.F__law_term.kp (bn__law_term W) takes0 (sg_o 0 (sg_d (se_var 1 rfl (vis_of (by kernel_rfl)) (by kernel_rfl) (by kernel_rfl)) (sg_o 2 (sg_d se_int sg_nil) rfl (vis_of (by kernel_rfl)) (by kernel_rfl) (by kernel_rfl))) rfl (vis_of (by kernel_rfl)) (by kernel_rfl) (by kernel_rfl)) (gl_of (by kernel_rfl)) (by kernel_rfl)))) rfl (by kernel_rfl))
       (ss_one (sv_ret (so_d (se_tup (sa_cons se_str (sa_cons (se_frz (so_call (ok__law_sign W) (hr.mono (by omega)) W.m__law_sign W.F__law_sign.kp (bn__law_sign W) tk (sg_o 0 (sg_d (se_var 1 rfl (vis_of (by kernel_rfl)) (by kernel_rfl) (by kernel_rfl)) sg_nil) rfl (vis_of (by kernel_rfl)) (by kernel_rfl) (by kernel_rfl)) (gl_of (by kernel_rfl)) (by kernel_rfl))) (sa_cons (se_t1 cd_tup W.b_tuple (se_var 6 rfl (vis_of (by kernel_rfl)) (by kernel_rfl) (by kernel_rfl))) sa_nil)))))))) ss_nil)
       (ss_one (sv_ret (so_call (ok__law_term W 40) (hr.mono (by omega)) W.m__law_term W.F__law_term.kp (bn__law_term W) tk (sg_o 0 (sg_d (se_var 1 rfl (vis_of (by kernel_rfl)) (by kernel_rfl) (by kernel_rfl)) (sg_o 2 (sg_d se_int sg_nil) rfl (vis_of (by kernel_rfl)) (by kernel_rfl) (by kernel_rfl))) rfl (vis_of (by kernel_rfl)) (by kernel_rfl) (by kernel_rfl)) (gl_of (by kernel_rfl)) (by kernel_rfl)))))))
theorem ok__law_in (W : Wd K mg) : FnOk P w K mg base (L2.CX P w) 1 W.a__law_in W.d__law_in ["_law_term_here"] (spF K (He.ga K) SU.f__law_in) := by
    refine fn_rule (k := 0) [] W.F__law_in sc__law_in fun cdv A outer s H E F O σ hr tk => ?_
    have hu := u64 hr
    have hw := u65 hr
    have hv := u66 hr
    have NN := sc__law_in.nd
    exact (ss_cons (sv_if (st_cmp (od_eq hu) (se_ix (se_var 0 rfl (vis_of (by kernel_rfl)) (by kernel_rfl) (by kernel_rfl)) se_int) se_str) (ss_one (sv_ret (so_n (n_lst (sa_cons (se_ix (se_var 0 rfl (vis_of (by kernel_rfl)) (by kernel_rfl) (by kernel_rfl)) se_int) sa_nil))))) ss_nil)
       (ss_cons (sv_if (st_cmp (od_eq hu) (se_ix (se_var 0 rfl (vis_of (by kernel_rfl)) (by kernel_rfl) (by kernel_rfl)) se_int) se_str) (ss_one (sv_ret (so_n (n_t1 cd_list W.b_list (se_ix (se_var 0 rfl (vis_of (by kernel_rfl)) (by kernel_rfl) (by kernel_rfl)) se_int))))) ss_nil)
       (ss_one (sv_ret (so_n (n_lst sa_nil))))))
theorem ok__law_strange (W : Wd K mg) : FnOk P w K mg base (L2.CX P w) 3 W.a__law_strange W.d__law_strange ["_law_pile_here"] (spF K (He.ga K) SH.f__law_strange) := by
    refine fn_rule (k := 2) [0] W.F__law_strange sc__law_strange fun cdv A outer s H E F O σ hr tk => ?_
    have hu := u64 hr
    have hw := u65 hr
    have hv := u66 hr
    have NN := sc__law_strange.nd
    exact (ss_cons (sv_set (i := 1) NN (se_n (n_lst (sa_cons se_str (sa_cons se_str (sa_cons se_str (sa_cons se_str (sa_cons se_str (sa_cons se_str (sa_cons se_str (sa_cons se_str (sa_cons se_str (sa_cons se_str (sa_cons (se_bin od_mul se_str se_int) sa_nil))))))))))))) rfl (loc_of (by kernel_rfl)))
       (ss_cons (sv_set (i := 2) NN (se_n (n_lst (sa_cons se_non (sa_cons se_bl (sa_cons se_int (sa_cons se_int (sa_cons (se_tup (sa_cons se_str sa_nil)) (sa_cons (se_n (n_lst (sa_cons se_str sa_nil))) (sa_cons (se_dict (sp_cons (fun F1 H1 O1 σ1 => se_str) (fun F1 H1 O1 σ1 => se_str) sp_nil)) (sa_cons (se_tup sa_nil) sa_nil)))))))))) rfl (loc_of (by kernel_rfl)))
       (ss_one (sv_ret (so_d (se_ix (se_bin od_add (se_var 1 rfl (vis_of (by kernel_rfl)) (by kernel_rfl) (by kernel_rfl)) (se_var 2 rfl (vis_of (by kernel_rfl)) (by kernel_rfl) (by kernel_rfl))) (se_frz (so_call (ok__law_take W) (hr.mono (by omega)) W.m__law_take W.F__law_take.kp (bn__law_take W) tk (sg_o 0 (sg_d se_int sg_nil) rfl (vis_of (by kernel_rfl)) (by kernel_rfl) (by kernel_rfl)) (gl_of (by kernel_rfl)) (by kernel_rfl)))))))))
theorem ok__law_places (W : Wd K mg) : ∀ n : Nat, FnOk P w K mg base (L2.CX P w) (1 + n) W.a__law_places W.d__law_places ["_law_term_here"] (spF K (He.ga K) (SW.f__law_places n))
  | 0 => ⟨fun vs H Q E z => by obtain ⟨_, _, _, _, _, _, _, z⟩ := z; exact z.elim, fun A outer s H args us vs Q E _ _ _ _ z => by obtain ⟨_, _, _, _, _, _, _, z⟩ := z; exact z.elim⟩
  | n + 1 => by
    have ih := ok__law_places W n
    refine fn_rule (k := 1 + n) [] W.F__law_places sc__law_places fun cdv A outer s H E F O σ hr tk => ?_
    have hu := u64 hr
    have hw := u65 hr
    have hv := u66 hr
    have NN := sc__law_places.nd
    exact (ss_cons (sv_set (i := 1) NN (se_n (n_lst (sa_cons (se_tup sa_nil) sa_nil))) rfl (loc_of (by kernel_rfl)))
       (ss_cons (sv_killB [2, 3, 4] (sv_for (passes_of rfl) rfl (si_enumA W.b_enumerate (se_frz (so_call (ok__law_in W) (hr.mono (by omega)) W.m__law_in W.F__law_in.kp (bn__law_in W) tk (sg_d (se_var 0 rfl (vis_of (by kernel_rfl)) (by kernel_rfl) (by kernel_rfl)) sg_nil) (gl_of (by kernel_rfl)) (by kernel_rfl)))) (fun F1 H1 O1 σ1 => (tg_tup (n := 2) rfl (tg_cons (tg_name (i := 2) NN rfl (loc_of (by kernel_rfl))) (tg_cons (tg_name (i := 3) NN rfl (loc_of (by kernel_rfl))) tg_nil)))) (fun F1 H1 O1 σ1 => (ss_kill [2, 3, 4] (ss_one (sv_set (i := 1) NN (se_bin od_add (se_var 1 rfl (vis_of (by kernel_rfl)) (by kernel_rfl) (by kernel_rfl)) (se_n (n_lc (own := [("_law_place", 4)]) (fb := [0, 1, 2, 3]) rfl NN (si_val (se_frz (so_call ih (hr.mono (Nat.le_refl _)) W.m__law_places W.F__law_places.kp (bn__law_places W) tk (sg_d (se_var 3 rfl (vis_of (by kernel_rfl)) (by kernel_rfl) (by kernel_rfl)) sg_nil) (gl_of (by kernel_rfl)) (by kernel_rfl)))) (blkOk_by (by kernel_rfl)) (fun F1 H1 O1 σ1 s1 Hb C cl fp => (tg_name (i := 4) NN rfl (loc_of (by kernel_rfl)))) (fun F1 H1 O1 σ1 s1 Hb C cl fp => st_yes) (fun F1 H1 O1 σ1 s1 Hb C cl fp => (se_bin od_add (se_tup (sa_cons (se_var 2 rfl (vis_of (by kernel_rfl)) (by kernel_rfl) (by kernel_rfl)) sa_nil)) (se_var 4 rfl (vis_of (by kernel_rfl)) (by kernel_rfl) (by kernel_rfl))))))) rfl (loc_of (by kernel_rfl))))))))
       (ss_one (sv_ret (so_d (se_var 1 rfl (vis_of (by kernel_rfl)) (by kernel_rfl) (by kernel_rfl)))))))
theorem ok__law_put (W : Wd K mg) : ∀ n : Nat, FnOk P w K mg base (L2.CX P w) (1 + n) W.a__law_put W.d__law_put ["_law_term_here", "_law_place", "_law_part"] (spF K (He.ga K) (SW.f__law_put n))
  | 0 => ⟨fun vs H Q E z => by obtain ⟨_, _, _, _, _, _, _, z⟩ := z; exact z.elim, fun A outer s H args us vs Q E _ _ _ _ z => by obtain ⟨_, _, _, _, _, _, _, z⟩ := z; exact z.elim⟩
  | n + 1 => by
    have ih := ok__law_put W n
    refine fn_rule (k := 1 + n) [] W.F__law_put sc__law_put fun cdv A outer s H E F O σ hr tk => ?_
    have hu := u64 hr
    have hw := u65 hr
    have hv := u66 hr
    have NN := sc__law_put.nd
    exact (ss_cons (sv_if (st_cmp (od_eq hu) (se_var 1 rfl (vis_of (by kernel_rfl)) (by kernel_rfl) (by kernel_rfl)) (se_tup sa_nil)) (ss_one (sv_ret (so_d (se_var 2 rfl (vis_of (by kernel_rfl)) (by kernel_rfl) (by kernel_rfl))))) ss_nil)
       (ss_cons (sv_setO (i := 3) NN (so_call (ok__law_in W) (hr.mono (by omega)) W.m__law_in W.F__law_in.kp (bn__law_in W) tk (sg_d (se_var 0 rfl (vis_of (by kernel_rfl)) (by kernel_rfl) (by kernel_rfl)) sg_nil) (gl_of (by kernel_rfl)) (by kernel_rfl)) rfl (loc_of (by kernel_rfl)))
       (ss_cons (sv_put 3 rfl (se_ix (se_var 1 rfl (vis_of (by kernel_rfl)) (by kernel_rfl) (by kernel_rfl)) se_int) (se_frz (so_call ih (hr.mono (Nat.le_refl _)) W.m__law_put W.F__law_put.kp (bn__law_put W) tk (sg_d (se_ix (se_look 3 rfl (vis_of (by kernel_rfl)) (by kernel_rfl) (by kernel_rfl)) (se_ix (se_var 1 rfl (vis_of (by kernel_rfl)) (by kernel_rfl) (by kernel_rfl)) se_int)) (sg_d (se_sl (se_var 1 rfl (vis_of (by kernel_rfl)) (by kernel_rfl) (by kernel_rfl)) (sb_to se_int) sb_no) (sg_d (se_var 2 rfl (vis_of (by kernel_rfl)) (by kernel_rfl) (by kernel_rfl)) sg_nil))) (gl_of (by kernel_rfl)) (by kernel_rfl))) (vis_of (by kernel_rfl)) (by kernel_rfl) (by kernel_rfl))
       (ss_cons (sv_if (st_cmp (od_eq hu) (se_ix (se_var 0 rfl (vis_of (by kernel_rfl)) (by kernel_rfl) (by kernel_rfl)) se_int) se_str) (ss_one (sv_ret (so_d (se_tup (sa_cons se_str (sa_cons (se_ix (se_var 0 rfl (vis_of (by kernel_rfl)) (by kernel_rfl) (by kernel_rfl)) se_int) (sa_cons (se_ix (se_look 3 rfl (vis_of (by kernel_rfl)) (by kernel_rfl) (by kernel_rfl)) se_int) sa_nil))))))) ss_nil)
       (ss_one (sv_ret (so_d (se_tup (sa_cons se_str (sa_cons (se_ix (se_var 0 rfl (vis_of (by kernel_rfl)) (by kernel_rfl) (by kernel_rfl)) se_int) (sa_cons (se_t1 cd_tup W.b_tuple (se_look 3 rfl (vis_of (by kernel_rfl)) (by kernel_rfl) (by kernel_rfl))) sa_nil)))))))))))
theorem ok__law_said (W : Wd K mg) : FnOk P w K mg base (L2.CX P w) 47 W.a__law_said W.d__law_said ["_law_term_here", "_law_place", "_law_part"] (spF K (He.ga K) SW.f__law_said_5) := by
    refine fn_rule (k := 46) [] W.F__law_said sc__law_said fun cdv A outer s H E F O σ hr tk => ?_
    have hu := u64 hr
    have hw := u65 hr
    have hv := u66 hr
    have NN := sc__law_said.nd
    exact (ss_cons (sv_tryX rfl rfl tk (fun W2 pn2 xe2 tk2 hp2 => (ss_one (sv_expr (so_call (ok_put_at W) (hr.mono (by omega)) W.m_put_at W.F_put_at.kp (bn_put_at W) tk2 (sg_d (se_var 0 rfl (vis_of (by kernel_rfl)) (by kernel_rfl) (by kernel_rfl)) (sg_d (se_var 1 rfl (vis_of (by kernel_rfl)) (by kernel_rfl) (by kernel_rfl)) (sg_d (se_var 2 rfl (vis_of (by kernel_rfl)) (by kernel_rfl) (by kernel_rfl)) sg_nil))) (gl_of (by kernel_rfl)) (by kernel_rfl))))) (.cons (h := ⟨.ref (He.ga K "NoPlace"), tabIsa [("NoPlace", true), ("NoTerm", false)], (some 3), fun ξ => (sRet (mD (mTup (mCons (mC (.str "no place")) (mCons (mXf ["NoPlace"] ξ "place") mNil)))))⟩) ⟨gl_of (by kernel_rfl), by kernel_rfl, .inl W.n_NoPlace⟩ (.as NN rfl (by kernel_rfl)) rfl (tab_cons W.e_NoPlace_NoPlace (tab_cons W.e_NoTerm_NoPlace tab_nil)) (fun ax oex clx dx pnx F1 H1 O1 σ1 ξ z1 z2 sf => (ss_one (sv_ret (so_d (se_tup (sa_cons se_str (sa_cons (se_xf (i := 3) (ys := ["NoPlace"]) (fun y hy => (List.mem_cons.mp hy).elim (fun e => by rw [e]; exact ⟨W.xf_NoPlace, W.na_NoPlace_place⟩) (fun hy => absurd hy (List.not_mem_nil))) z1 z2 sf rfl (vis_of (by kernel_rfl)) (by kernel_rfl) (by kernel_rfl)) sa_nil))))))) (.cons (h := ⟨.ref (He.ga K "NoTerm"), tabIsa [("NoPlace", false), ("NoTerm", true)], none, fun ξ => (sRet (mD (mTup (mCons (mC (.str "no term")) (mCons (mTup mNil) mNil)))))⟩) ⟨gl_of (by kernel_rfl), by kernel_rfl, .inl W.n_NoTerm⟩ .no rfl (tab_cons W.e_NoPlace_NoTerm (tab_cons W.e_NoTerm_NoTerm tab_nil)) (fun ax oex clx dx pnx F1 H1 O1 σ1 ξ z1 z2 sf => (ss_one (sv_ret (so_d (se_tup (sa_cons se_str (sa_cons (se_tup sa_nil) sa_nil))))))) .nil)))
       (ss_one (sv_ret (so_d (se_tup (sa_cons se_str (sa_cons (se_tup sa_nil) sa_nil)))))))
theorem ok_law (W : Wd K mg) : FnOk P w K mg base (L2.CX P w) 48 W.a_law W.d_law ["_law_script"] (spF K (He.ga K) f_law) := by
    refine fn_rule (k := 47) [] W.F_law sc_law fun cdv A outer s H E F O σ hr tk => ?_
    have hu := u64 hr
    have hw := u65 hr
    have hv := u66 hr
    have NN := sc_law.nd
    exact (ss_cons (sv_killB [1, 2, 3, 4, 5, 6, 7, 8, 9, 10] (sv_for (passes_of rfl) rfl (si_range1 W.b_range se_int) (fun F1 H1 O1 σ1 => (tg_name (i := 1) NN rfl (loc_of (by kernel_rfl)))) (fun F1 H1 O1 σ1 => (ss_kill [1, 2, 3, 4, 5, 6, 7, 8, 9, 10] (ss_cons (sv_setO (i := 2) NN (so_call (ok__law_pile W) (hr.mono (by omega)) W.m__law_pile W.F__law_pile.kp (bn__law_pile W) tk (sg_d (se_var 0 rfl (vis_of (by kernel_rfl)) (by kernel_rfl) (by kernel_rfl)) (sg_d (se_var 1 rfl (vis_of (by kernel_rfl)) (by kernel_rfl) (by kernel_rfl)) sg_nil)) (gl_of (by kernel_rfl)) (by kernel_rfl)) rfl (loc_of (by kernel_rfl)))
       (ss_cons (sv_set (i := 3) NN (se_frz (so_call (ok__law_names W) (hr.mono (by omega)) W.m__law_names W.F__law_names.kp (bn__law_names W) tk (sg_o 2 (sg_d (se_bin od_add se_int (se_frz (so_call (ok__law_take W) (hr.mono (by omega)) W.m__law_take W.F__law_take.kp (bn__law_take W) tk (sg_o 2 (sg_d se_int sg_nil) rfl (vis_of (by kernel_rfl)) (by kernel_rfl) (by kernel_rfl)) (gl_of (by kernel_rfl)) (by kernel_rfl)))) sg_nil) rfl (vis_of (by kernel_rfl)) (by kernel_rfl) (by kernel_rfl)) (gl_of (by kernel_rfl)) (by kernel_rfl))) rfl (loc_of (by kernel_rfl)))
       (ss_cons (sv_set (i := 4) NN (se_frz (so_call (ok__law_holes W) (hr.mono (by omega)) W.m__law_holes W.F__law_holes.kp (bn__law_holes W) tk (sg_o 2 (sg_d (se_frz (so_call (ok__law_take W) (hr.mono (by omega)) W.m__law_take W.F__law_take.kp (bn__law_take W) tk (sg_o 2 (sg_d se_int sg_nil) rfl (vis_of (by kernel_rfl)) (by kernel_rfl) (by kernel_rfl)) (gl_of (by kernel_rfl)) (by kernel_rfl))) sg_nil) rfl (vis_of (by kernel_rfl)) (by kernel_rfl) (by kernel_rfl)) (gl_of (by kernel_rfl)) (by kernel_rfl))) rfl (loc_of (by kernel_rfl)))
       (ss_cons (sv_set (i := 5) NN (se_frz (so_callT (ok__law_any W) (hr.mono (by omega)) W.m__law_any W.F__law_any.kp (bn__law_any W) tk (sgt_o 2 (sgt_d (se_var 3 rfl (vis_of (by kernel_rfl)) (by kernel_rfl) (by kernel_rfl)) (sgt_t (so_n (n_mul (se_var 4 rfl (vis_of (by kernel_rfl)) (by kernel_rfl) (by kernel_rfl)) se_int)))) rfl (vis_of (by kernel_rfl)) (by kernel_rfl) (by kernel_rfl)) (gl_of (by kernel_rfl)) (by kernel_rfl))) rfl (loc_of (by kernel_rfl)))
       (ss_cons (sv_set (i := 6) NN (se_frz (so_callX (ok__law_term W 40) (hr.mono (by omega)) W.m__law_term W.F__law_term.kp (bn__law_term W) .nil (fun _ => .nil) (fun _ _ _ z => fnOf_len z) tk (sgx_o 2 (sgx_d (se_var 3 rfl (vis_of (by kernel_rfl)) (by kernel_rfl) (by kernel_rfl)) (sgx_n (so_n (n_t1 cd_list W.b_list (se_var 4 rfl (vis_of (by kernel_rfl)) (by kernel_rfl) (by kernel_rfl)))) (fun F1 H1 O1 σ1 => (sgx_d se_int sgx_nil)))) rfl (vis_of (by kernel_rfl)) (by kernel_rfl) (by kernel_rfl)) (gl_of (by kernel_rfl)) (by kernel_rfl))) rfl (loc_of (by kernel_rfl)))
       (ss_cons (sv_killB [7, 8] (sv_for (passes_of rfl) rfl (si_val (se_frz (so_call (ok__law_places W 40) (hr.mono (by omega)) W.m__law_places W.F__law_places.kp (bn__law_places W) tk (sg_d (se_var 5 rfl (vis_of (by kernel_rfl)) (by kernel_rfl) (by kernel_rfl)) sg_nil) (gl_of (by kernel_rfl)) (by kernel_rfl)))) (fun F1 H1 O1 σ1 => (tg_name (i := 7) NN rfl (loc_of (by kernel_rfl)))) (fun F1 H1 O1 σ1 => (ss_kill [7, 8] (ss_cons (sv_set (i := 8) NN (se_frz (so_call (ok_put_at W) (hr.mono (by omega)) W.m_put_at W.F_put_at.kp (bn_put_at W) tk (sg_d (se_var 5 rfl (vis_of (by kernel_rfl)) (by kernel_rfl) (by kernel_rfl)) (sg_d (se_var 7 rfl (vis_of (by kernel_rfl)) (by kernel_rfl) (by kernel_rfl)) (sg_d (se_var 6 rfl (vis_of (by kernel_rfl)) (by kernel_rfl) (by kernel_rfl)) sg_nil))) (gl_of (by kernel_rfl)) (by kernel_rfl))) rfl (loc_of (by kernel_rfl)))
       (ss_cons (sv_if (PW.pt (st_or (st_cmp (od_ne hu) (se_var 8 rfl (vis_of (by kernel_rfl)) (by kernel_rfl) (by kernel_rfl)) (se_frz (so_call (ok__law_put W 40) (hr.mono (by omega)) W.m__law_put W.F__law_put.kp (bn__law_put W) tk (sg_d (se_var 5 rfl (vis_of (by kernel_rfl)) (by kernel_rfl) (by kernel_rfl)) (sg_d (se_var 7 rfl (vis_of (by kernel_rfl)) (by kernel_rfl) (by kernel_rfl)) (sg_d (se_var 6 rfl (vis_of (by kernel_rfl)) (by kernel_rfl) (by kernel_rfl)) sg_nil))) (gl_of (by kernel_rfl)) (by kernel_rfl)))) (st_or1 (st_cmp (od_ne hu) (se_frz (so_call (ok_part_at W) (hr.mono (by omega)) W.m_part_at W.F_part_at.kp (bn_part_at W) tk (sg_d (se_var 8 rfl (vis_of (by kernel_rfl)) (by kernel_rfl) (by kernel_rfl)) (sg_d (se_var 7 rfl (vis_of (by kernel_rfl)) (by kernel_rfl) (by kernel_rfl)) sg_nil)) (gl_of (by kernel_rfl)) (by kernel_rfl))) (se_var 6 rfl (vis_of (by kernel_rfl)) (by kernel_rfl) (by kernel_rfl)))))) (ss_one (sv_ret (so_d se_bl))) ss_nil)
       (ss_one (sv_if (st_cmp (od_ne hu) (se_frz (so_call (ok_put_at W) (hr.mono (by omega)) W.m_put_at W.F_put_at.kp (bn_put_at W) tk (sg_d (se_var 8 rfl (vis_of (by kernel_rfl)) (by kernel_rfl) (by kernel_rfl)) (sg_d (se_var 7 rfl (vis_of (by kernel_rfl)) (by kernel_rfl) (by kernel_rfl)) (sg_d (se_frz (so_call (ok_part_at W) (hr.mono (by omega)) W.m_part_at W.F_part_at.kp (bn_part_at W) tk (sg_d (se_var 5 rfl (vis_of (by kernel_rfl)) (by kernel_rfl) (by kernel_rfl)) (sg_d (se_var 7 rfl (vis_of (by kernel_rfl)) (by kernel_rfl) (by kernel_rfl)) sg_nil)) (gl_of (by kernel_rfl)) (by kernel_rfl))) sg_nil))) (gl_of (by kernel_rfl)) (by kernel_rfl))) (se_var 5 rfl (vis_of (by kernel_rfl)) (by kernel_rfl) (by kernel_rfl))) (ss_one (sv_ret (so_d se_bl))) ss_nil))))))))
       (ss_cons (sv_set (i := 9) NN (se_tup (sa_cons se_str (sa_cons se_str (sa_cons (se_tup (sa_cons (se_frz (so_call (ok__law_strange W) (hr.mono (by omega)) W.m__law_strange W.F__law_strange.kp (bn__law_strange W) tk (sg_o 2 sg_nil rfl (vis_of (by kernel_rfl)) (by kernel_rfl) (by kernel_rfl)) (gl_of (by kernel_rfl)) (by kernel_rfl))) sa_nil)) sa_nil)))) rfl (loc_of (by kernel_rfl)))
       (ss_cons (sv_set (i := 10) NN (se_tup (sa_cons se_int (sa_cons se_int (sa_cons se_int (sa_cons se_int (sa_cons (se_bin od_sub (se_neg se_int) (se_frz (so_call (ok__law_take W) (hr.mono (by omega)) W.m__law_take W.F__law_take.kp (bn__law_take W) tk (sg_o 2 (sg_d se_int sg_nil) rfl (vis_of (by kernel_rfl)) (by kernel_rfl) (by kernel_rfl)) (gl_of (by kernel_rfl)) (by kernel_rfl)))) sa_nil)))))) rfl (loc_of (by kernel_rfl)))
       (ss_cons (sv_if (PW.pt (st_or (st_cmp (od_ne hu) (se_frz (so_call (ok__law_said W) (hr.mono (by omega)) W.m__law_said W.F__law_said.kp (bn__law_said W) tk (sg_d (se_var 5 rfl (vis_of (by kernel_rfl)) (by kernel_rfl) (by kernel_rfl)) (sg_d (se_var 10 rfl (vis_of (by kernel_rfl)) (by kernel_rfl) (by kernel_rfl)) (sg_d (se_var 6 rfl (vis_of (by kernel_rfl)) (by kernel_rfl) (by kernel_rfl)) sg_nil))) (gl_of (by kernel_rfl)) (by kernel_rfl))) (se_tup (sa_cons se_str (sa_cons (se_var 10 rfl (vis_of (by kernel_rfl)) (by kernel_rfl) (by kernel_rfl)) sa_nil)))) (st_or1 (st_cmp (od_ne hu) (se_frz (so_call (ok__law_said W) (hr.mono (by omega)) W.m__law_said W.F__law_said.kp (bn__law_said W) tk (sg_d (se_var 5 rfl (vis_of (by kernel_rfl)) (by kernel_rfl) (by kernel_rfl)) (sg_d (se_tup (sa_cons (se_neg se_int) sa_nil)) (sg_d (se_var 6 rfl (vis_of (by kernel_rfl)) (by kernel_rfl) (by kernel_rfl)) sg_nil))) (gl_of (by kernel_rfl)) (by kernel_rfl))) (se_tup (sa_cons se_str (sa_cons (se_tup (sa_cons (se_neg se_int) sa_nil)) sa_nil))))))) (ss_one (sv_ret (so_d se_bl))) ss_nil)
       (ss_cons (sv_if (st_cmp (od_ne hu) (se_n (n_lst (sa_cons (se_ix (se_frz (so_call (ok__law_said W) (hr.mono (by omega)) W.m__law_said W.F__law_said.kp (bn__law_said W) tk (sg_d (se_var 5 rfl (vis_of (by kernel_rfl)) (by kernel_rfl) (by kernel_rfl)) (sg_d (se_var 10 rfl (vis_of (by kernel_rfl)) (by kernel_rfl) (by kernel_rfl)) (sg_d (se_var 9 rfl (vis_of (by kernel_rfl)) (by kernel_rfl) (by kernel_rfl)) sg_nil))) (gl_of (by kernel_rfl)) (by kernel_rfl))) se_int) (sa_cons (se_ix (se_frz (so_call (ok__law_said W) (hr.mono (by omega)) W.m__law_said W.F__law_said.kp (bn__law_said W) tk (sg_d (se_var 9 rfl (vis_of (by kernel_rfl)) (by kernel_rfl) (by kernel_rfl)) (sg_d (se_var 10 rfl (vis_of (by kernel_rfl)) (by kernel_rfl) (by kernel_rfl)) (sg_d (se_var 5 rfl (vis_of (by kernel_rfl)) (by kernel_rfl) (by kernel_rfl)) sg_nil))) (gl_of (by kernel_rfl)) (by kernel_rfl))) se_int) sa_nil)))) (se_n (n_lst (sa_cons se_str (sa_cons se_str sa_nil))))) (ss_one (sv_ret (so_d se_bl))) ss_nil)
       (ss_one (sv_if (st_cmp (od_ne hu) (se_ix (se_frz (so_call (ok__law_said W) (hr.mono (by omega)) W.m__law_said W.F__law_said.kp (bn__law_said W) tk (sg_d (se_var 5 rfl (vis_of (by kernel_rfl)) (by kernel_rfl) (by kernel_rfl)) (sg_d (se_tup sa_nil) (sg_d (se_var 9 rfl (vis_of (by kernel_rfl)) (by kernel_rfl) (by kernel_rfl)) sg_nil))) (gl_of (by kernel_rfl)) (by kernel_rfl))) se_int) se_str) (ss_one (sv_ret (so_d se_bl))) ss_nil))))))))))))))))
       (ss_one (sv_ret (so_d se_bl))))
end
end K13
end
section
set_option maxRecDepth 100000
set_option maxHeartbeats 0
set_option exponentiation.threshold 3000
namespace K13
open PySem PySem.Spec PyProof.Rows L2 DL SH SU SV SW ST
theorem mul_l2 {l : List Str} (h : l.length ≤ 100) : mulL (.list (l.map .str)) (.int 2) = some ((l ++ l).map .str) := by
  have e : (List.replicate (Int.toNat 2) (l.map PyData.str)).flatten = (l ++ l).map PyData.str := by
    show (l.map PyData.str) ++ ((l.map PyData.str) ++ []) = _
    simp
  have u : mulL (.list (l.map .str)) (.int 2) = if -(2 ^ 63) ≤ (2 : Int) ∧ (2 : Int) < 2 ^ 63 ∧ (l.map PyData.str).length * (2 : Int).toNat ≤ sizeLine then some (List.replicate (2 : Int).toNat (l.map PyData.str)).flatten else none := rfl
  rw [u, if_pos ⟨by decide, by decide, by
    rw [List.length_map]
    have := size_big
    show l.length * 2 ≤ sizeLine
    omega⟩, e]
structure Sm (t : ST.Tm) : Prop where
  ok : OkT 13 t
  few : Few 60 t
theorem Sm.t28 {t : ST.Tm} (h : Sm t) : Term28 t := ⟨OkT.lift h.ok 15, Nat.le_trans (h.few 40) (by omega)⟩
theorem put28 {t u v : ST.Tm} (h : Sm t) (hu : Sm u) {p : Pl} (e : ST.atT t (pI p) = some v) : Term28 (putT u p t) :=
  ⟨OkT.lift (OkT.put hu.ok h.ok e) 2, Nat.le_trans (Few.put h.few hu.few e 40) (by omega)⟩
theorem ne_tm {t : ST.Tm} (h : Term28 t) : neD (tmD t) (tmD t) = some (.bool false) := (ne_same h.ok.ly (by omega)).1
theorem q2_ok {t u : ST.Tm} (h : Sm t) (hu : Sm u) {p : Pl} (hp : p ∈ everyK 40 t) : q2_law (tmD t) (tmD u) (plD p) () = .ok (.nx ()) := by
  obtain ⟨v, e⟩ := mem_at hp
  have pl : p.length < 40 := by
    have h1 : p ∈ everyK 13 t ∨ True := .inr trivial
    have key : ∀ (n : Nat) {t v : ST.Tm} (p : Pl), OkT n t → ST.atT t (pI p) = some v → p.length < n := by
      intro n
      induction n with
      | zero => intro t v p h; exact h.elim
      | succ n ih =>
        intro t v p h e
        cases p with
        | nil => exact Nat.succ_pos _
        | cons k p =>
          rcases at_down e with ⟨a, b, rfl, rfl, g⟩ | ⟨a, ts, hk, rfl, g⟩
          · have := ih p h.2 g
            rw [List.length_cons]; omega
          · have := ih p (h.2.2 _ (List.getElem_mem hk)) g
            rw [List.length_cons]; omega
    have := key 13 p h.ok e
    omega
  have V : Term28 v := by
    obtain ⟨m, h1, h2⟩ := OkT.at _ h.ok e
    have := OkT.lift h2 (28 - m)
    rw [show m + (28 - m) = 28 by omega] at this
    exact ⟨this, Nat.le_trans (Few.at h.few e 40) (by omega)⟩
  have P := put28 h hu e
  have a1 := put_yes h.t28 hu.t28 pl e
  have a2 := law_put_ok (u := u) p 40 pl e
  have n1 := ne_tm P
  have ep := at_put (u := u) e
  have a3 := part_yes P ep
  rw [← plD_z] at a3
  have n2 := ne_tm hu.t28
  have a4 := part_yes h.t28 e
  rw [← plD_z] at a4
  have a5 := put_yes P V pl ep
  rw [put_put e] at a5
  have n3 := ne_tm h.t28
  generalize plD p = y1 at *
  generalize tmD (putT u p t) = y2 at *
  generalize tmD t = y3 at *
  generalize tmD u = y4 at *
  generalize tmD v = y5 at *
  simp [q2_law, h3_law, a1, a2, n1, a3, n2, a4, a5, n3]
theorem body_ok (ns : List Int) (i : Nat) (hi : i < 20) : q1_law (.dict [(.none, .list (ns.map .int))]) (.int (i : Nat)) () = .ok (.nx ()) := by
  have big := size_big
  obtain ⟨p0, hp0, e0⟩ := pile_ok ns i (by omega)
  obtain ⟨m, p1, m0, m1, hp1, e1⟩ := take_ok (by omega) hp0 6 (by omega) (by omega)
  obtain ⟨l, p2, l1, l2, l3, hp2, e2⟩ := names_ok (by omega) hp1 (m.toNat + 1) (by omega)
  have hcast : (1 + m : Int) = ((m.toNat + 1 : Nat) : Int) := by omega
  rw [← hcast] at e2
  obtain ⟨j, p3, j0, j1, hp3, e3⟩ := take_ok (by omega) hp2 7 (by omega) (by omega)
  obtain ⟨hs, p4, g1, g2, g3, hp4, e4⟩ := holes_ok (by omega) hp3 j.toNat (by omega)
  rw [Int.toNat_of_nonneg j0] at e4
  have nl : Names 6 l := ⟨by omega, l2, l3⟩
  have hh : ∀ s ∈ hs ++ hs, HlS s := fun s h => g3 s (by simpa using h)
  obtain ⟨t, p5, hs', q, e5⟩ := any_ok (by omega) hp4 nl (by omega) (hs := hs ++ hs) (by simp; omega) hh
  have ml := mul_l2 (l := hs) (by omega)
  obtain ⟨u, p6, hs2, q2, e6⟩ := term_ok 2 (by omega) 40 (by omega) (by have := q.pile; show _ + 40 * 13 < _; omega) q.pile nl (by omega) (hs := hs) (by omega) g3
  have e6 : f__law_term 40 [.lst p5, .d (.list (l.map .str)), .lst (hs.map .str), .d (.int 2)] = .ok (.d (tmD u)) [some (.lst p6), some (.d (.list (l.map .str))), some (.lst (hs2.map .str)), some (.d (.int 2))] := e6
  have ld : listD (.list (hs.map .str)) = some (hs.map .str) := rfl
  have S : Sm t := ⟨OkT.lift (OfT.ok l3 hh q.of) 1, Few.up q.few (by omega)⟩
  have U : Sm u := ⟨OkT.lift (OfT.ok l3 g3 q2.of) 10, Few.up q2.few (by show 13 ≤ 60; omega)⟩
  have T := S.t28
  have al := law_places_ok 40 t (by omega) T.ok40 (by rw [everyK_P]; exact T.few)
  have it : itemsD (.list ((everyK 40 t).map plD)) = some ((everyK 40 t).map plD) := rfl
  obtain ⟨s', f2, _⟩ := forF_all (b := q2_law (tmD t) (tmD u)) (xs := (everyK 40 t).map plD) (s := ()) (fun _ _ => True) trivial fun k x s hx _ => by
    rw [List.getElem?_map] at hx
    obtain ⟨p, hp, rfl⟩ := Option.map_eq_some_iff.mp hx
    exact ⟨(), q2_ok S U (List.mem_of_getElem? hp), trivial⟩
  obtain ⟨B6, hB6, hp6⟩ : ∃ B, B < 2 ^ 45 ∧ Pile B p6 := ⟨_, by show _ + 40 * 13 < _; omega, q2.pile⟩
  obtain ⟨x, p7, hx, hp7, e7⟩ := strange_in (by omega) hp6
  obtain ⟨r, p8, r0, r1, hp8, e8⟩ := take_ok (by omega) hp7 3 (by omega) (by omega)
  have n1 : negD (.int 1) = some (.int (-1)) := rfl
  have sb : subD (.int (-1)) (.int r) = some (.int (-1 - r)) := rfl
  have od := odd_of hx
  have fp : FitT 38 (.tuple [x]) := fitT_of (n := 37) (by simp) (fun y hy => by
    rw [List.mem_singleton.mp hy]; exact od.m) fun w b c e => by cases e
  have fx : FitT 40 (.tuple [.str "sign", .str "f", .tuple [x]]) := fitT_of (n := 39) (by simp) (fun y hy => by
    simp at hy
    rcases hy with rfl | rfl | rfl
    · exact fitS_of (by decide +kernel)
    · exact fitS_of (by decide +kernel)
    · exact FitT.m fp) fun w b c e => by
      injection e with e1 e
      injection e with e2 e
      injection e with e3 _
      injection e1 with e1
      subst e1 e2 e3
      exact ⟨fun z => absurd z (by decide), fun z => absurd z (by decide), fun _ => ⟨by simp [partsT], fun y hy => by
        have hy : y ∈ [x] := hy
        rw [List.mem_singleton.mp hy]; exact od.t 38⟩⟩
  have tx : termN 40 (.tuple [.str "sign", .str "f", .tuple [x]]) = false := by
    rw [term3, if_neg dsh.2.1, if_neg dsh.2.2.1]
    simp [odd_term hx]
  have an : ST.atT t [0, 1, 2, 3, -1 - r] = none := at_neg (i := -1 - r) (by simp) (by omega)
  have an1 : ST.atT t [-1] = none := at_neg (i := -1) (by simp) (by omega)
  have s1 := said5_no T U.t28 an
  have s2 := said5_no T U.t28 an1
  have s3 := said5_ex (put_bad2 (z := zD [0, 1, 2, 3, -1 - r]) T.fit T.is fx tx)
  have s4 := said5_ex (put_bad1 (y := tmD t) (z := zD [0, 1, 2, 3, -1 - r]) fx tx)
  have s5 := said5_ex (put_bad2 (z := .tuple []) T.fit T.is fx tx)
  have zt (a : List Int) : neD (.tuple [.str "no place", zD a]) (.tuple [.str "no place", zD a]) = some (.bool false) := (ne_same (n := 2) (Ly.tup (n := 1) fun x hx => by
    simp at hx
    rcases hx with rfl | rfl
    · exact ly_str (fitS_of (by decide +kernel)) 1
    · exact zD_ly a) (by omega)).1
  have z1 := zt [0, 1, 2, 3, -1 - r]
  have z2 := zt [-1]
  have i0 : ixD (.tuple [.str "no term", .tuple []]) (.int 0) = some (.str "no term") := rfl
  have nn := ne_strs (a := ["no term", "no term"]) (b := ["no term", "no term"]) (by decide +kernel) (by decide +kernel)
  rw [decide_eq_true rfl] at nn
  have nn : neD (.list [.str "no term", .str "no term"]) (.list [.str "no term", .str "no term"]) = some (.bool false) := nn
  have n5 := ne_s "no term" "no term"
  rw [decide_eq_true rfl] at n5
  have zz : ∀ a : List Int, zD a = .tuple (a.map .int) := fun _ => rfl
  rw [zz] at s1 s2 s3 s4 z1 z2
  simp only [List.map_cons, List.map_nil] at s1 s2 s3 s4 z1 z2
  have h4 : h4_law (tmD t) (tmD u) (.tuple [.int 0, .int 1, .int 2, .int 3, .int (-1 - r)]) = .ok false := by
    generalize tmD t = y1 at *
    generalize tmD u = y2 at *
    generalize -1 - r = y3 at *
    simp [h4_law, s1, z1, n1, s2, z2]
  have e0 : f__law_pile [.d (.dict [(.none, .list (ns.map .int))]), .d (.int (i : Nat))] = .ok (.lst p0) [some (.d (scrD ns)), some (.d (.int (i : Nat)))] := e0
  clear s1 s2 z1 z2 zt
  generalize hs.map PyData.str = y1 at *
  generalize (hs ++ hs).map PyData.str = y2 at *
  generalize hs'.map PyData.str = y3 at *
  generalize hs2.map PyData.str = y13 at *
  generalize l.map PyData.str = y4 at *
  generalize (everyK 40 t).map plD = y5 at *
  generalize tmD t = y6 at *
  generalize tmD u = y8 at *
  generalize ns.map PyData.int = y7 at *
  generalize scrD ns = y9 at *
  generalize -1 - r = y10 at *
  simp [q1_law, e0, e1, e2, e3, e4, ml, e5, ld, e6, al, it, f2, e7, n1, e8, sb, h4, s3, i0, s4, nn, s5, n5]
theorem law_true : ∀ ns : List Int, ns.length ≤ 63 → ∃ outs, f_law [.d (scrD ns)] = .ok (.d (.bool true)) outs := fun ns hns => by
  have hr : range1 (.int 20) = some (rangeL 0 20) := range_ok 20 (by omega)
  obtain ⟨s', f1, _⟩ := forF_all (b := q1_law (.dict [(.none, .list (ns.map .int))])) (xs := rangeL 0 20) (s := ()) (fun _ _ => True) trivial fun i x s hx _ => by
    obtain ⟨hi, rfl⟩ := range_at hx
    exact ⟨(), body_ok ns i hi, trivial⟩
  refine ⟨[some (.d (scrD ns))], ?_⟩
  rw [show scrD ns = .dict [(.none, .list (ns.map .int))] from rfl, eq_law]
  generalize ns.map PyData.int = y at *
  simp [hr, f1]
end K13
end
section
set_option maxRecDepth 100000
set_option maxHeartbeats 0
namespace K13
open PySem PySem.Spec PyProof.Rows L2 DL
def dd_is_called : He.DefD := ⟨("is_called", none), "is_called", "is_called", defArgs s_is_called, defBody s_is_called, defScope s_is_called, [], []⟩
def dd_is_name : He.DefD := ⟨("is_name", none), "is_name", "is_name", defArgs s_is_name, defBody s_is_name, defScope s_is_name, [], []⟩
def dd_is_turn : He.DefD := ⟨("is_turn", none), "is_turn", "is_turn", defArgs s_is_turn, defBody s_is_turn, defScope s_is_turn, [], []⟩
def dd_is_hole : He.DefD := ⟨("is_hole", none), "is_hole", "is_hole", defArgs s_is_hole, defBody s_is_hole, defScope s_is_hole, [], []⟩
def dd_is_term : He.DefD := ⟨("is_term", none), "is_term", "is_term", defArgs s_is_term, defBody s_is_term, defScope s_is_term, [], []⟩
def dd_sure_terms : He.DefD := ⟨("sure_terms", none), "sure_terms", "sure_terms", defArgs s_sure_terms, defBody s_sure_terms, defScope s_sure_terms, [], []⟩
def dd_inner : He.DefD := ⟨("inner", none), "inner", "inner", defArgs s_inner, defBody s_inner, defScope s_inner, [], []⟩
def dd_with_inner : He.DefD := ⟨("with_inner", none), "with_inner", "with_inner", defArgs s_with_inner, defBody s_with_inner, defScope s_with_inner, [], []⟩
def dd_at_place : He.DefD := ⟨("at_place", none), "at_place", "at_place", defArgs s_at_place, defBody s_at_place, defScope s_at_place, [], []⟩
def dd_with_part : He.DefD := ⟨("with_part", none), "with_part", "with_part", defArgs s_with_part, defBody s_with_part, defScope s_with_part, [], []⟩
def dd_part_at : He.DefD := ⟨("part_at", none), "part_at", "part_at", defArgs s_part_at, defBody s_part_at, defScope s_part_at, [], []⟩
def dd_put_at : He.DefD := ⟨("put_at", none), "put_at", "put_at", defArgs s_put_at, defBody s_put_at, defScope s_put_at, [], []⟩
def dd__law_mixed : He.DefD := ⟨("_law_mixed", none), "_law_mixed", "_law_mixed", defArgs s__law_mixed, defBody s__law_mixed, defScope s__law_mixed, [], []⟩
def dd__law_pile : He.DefD := ⟨("_law_pile", none), "_law_pile", "_law_pile", defArgs s__law_pile, defBody s__law_pile, defScope s__law_pile, [], []⟩
def dd__law_take : He.DefD := ⟨("_law_take", none), "_law_take", "_law_take", defArgs s__law_take, defBody s__law_take, defScope s__law_take, [], []⟩
def dd__law_name : He.DefD := ⟨("_law_name", none), "_law_name", "_law_name", defArgs s__law_name, defBody s__law_name, defScope s__law_name, [], []⟩
def dd__law_names : He.DefD := ⟨("_law_names", none), "_law_names", "_law_names", defArgs s__law_names, defBody s__law_names, defScope s__law_names, [], []⟩
def dd__law_order : He.DefD := ⟨("_law_order", none), "_law_order", "_law_order", defArgs s__law_order, defBody s__law_order, defScope s__law_order, [], []⟩
def dd__law_turn : He.DefD := ⟨("_law_turn", none), "_law_turn", "_law_turn", defArgs s__law_turn, defBody s__law_turn, defScope s__law_turn, [], []⟩
def dd__law_holes : He.DefD := ⟨("_law_holes", none), "_law_holes", "_law_holes", defArgs s__law_holes, defBody s__law_holes, defScope s__law_holes, [], []⟩
def dd__law_sign : He.DefD := ⟨("_law_sign", none), "_law_sign", "_law_sign", defArgs s__law_sign, defBody s__law_sign, defScope s__law_sign, [], []⟩
def dd__law_term : He.DefD := ⟨("_law_term", none), "_law_term", "_law_term", defArgs s__law_term, defBody s__law_term, defScope s__law_term, [], []⟩
def dd__law_any : He.DefD := ⟨("_law_any", none), "_law_any", "_law_any", defArgs s__law_any, defBody s__law_any, defScope s__law_any, [], []⟩
def dd__law_in : He.DefD := ⟨("_law_in", none), "_law_in", "_law_in", defArgs s__law_in, defBody s__law_in, defScope s__law_in, [], []⟩
def dd__law_parts : He.DefD := ⟨("_law_parts", none), "_law_parts", "_law_parts", defArgs s__law_parts, defBody s__law_parts, defScope s__law_parts, [], []⟩
def dd__law_strange : He.DefD := ⟨("_law_strange", none), "_law_strange", "_law_strange", defArgs s__law_strange, defBody s__law_strange, defScope s__law_strange, [], []⟩
def dd__law_places : He.DefD := ⟨("_law_places", none), "_law_places", "_law_places", defArgs s__law_places, defBody s__law_places, defScope s__law_places, [], []⟩
def dd__law_put : He.DefD := ⟨("_law_put", none), "_law_put", "_law_put", defArgs s__law_put, defBody s__law_put, defScope s__law_put, [], []⟩
def dd__law_said : He.DefD := ⟨("_law_said", none), "_law_said", "_law_said", defArgs s__law_said, defBody s__law_said, defScope s__law_said, [], []⟩
def dd_law : He.DefD := ⟨("law", none), "law", "law", defArgs s_law, defBody s_law, defScope s_law, [], []⟩
def ddi_NoPlace : He.DefD := ⟨("NoPlace", some "__init__"), "__init__", "NoPlace.__init__", defArgs si_NoPlace, defBody si_NoPlace, defScope si_NoPlace, [], []⟩
def fnL : List He.DefD := [dd_is_called, dd_is_name, dd_is_turn, dd_is_hole, dd_is_term, dd_sure_terms, dd_inner, dd_with_inner, dd_at_place, dd_with_part, dd_part_at, dd_put_at, dd__law_mixed, dd__law_pile, dd__law_take, dd__law_name, dd__law_names, dd__law_order, dd__law_turn, dd__law_holes, dd__law_sign, dd__law_term, dd__law_any, dd__law_in, dd__law_parts, dd__law_strange, dd__law_places, dd__law_put, dd__law_said, dd_law, ddi_NoPlace]
def fa0 : List He.Fa := [.glo "is_called", .glo "is_name", .glo "is_turn", .glo "is_hole", .glo "is_term", .glo "sure_terms", .glo "inner", .glo "with_inner", .glo "at_place", .glo "with_part", .glo "part_at", .glo "put_at", .glo "_law_mixed", .glo "_law_pile", .glo "_law_take", .glo "_law_name", .glo "_law_names", .glo "_law_order", .glo "_law_turn", .glo "_law_holes", .glo "_law_sign", .glo "_law_term", .glo "_law_any", .glo "_law_in", .glo "_law_parts", .glo "_law_strange", .glo "_law_places", .glo "_law_put", .glo "_law_said", .glo "law"]
def fa1 : List He.Fa := [.free "abs", .free "all", .free "enumerate", .free "int", .free "isinstance", .free "len", .free "list", .free "range", .free "set", .free "sorted", .free "str", .free "tuple", .free "zip", .str "FIGURES" "0123456789", .str "GREAT" "ABCDEFGHIJKLMNOPQRSTUVWXYZ", .int "LONGEST" 8, .str "SMALL" "abcdefghijklmnopqrstuvwxyz", .glo "NoPlace", .glo "NoTerm", .glo "ShutError", .exc "NoTerm", .exm "NoPlace" "NoPlace" true, .exm "NoPlace" "NoTerm" false, .exm "NoTerm" "NoPlace" false, .exm "NoTerm" "NoTerm" true, .noat "NoPlace" "place", .meth "NoPlace" "__init__"]
def faL : List He.Fa := fa0 ++ fa1
def fxL : List Fx := [.xb "ShutError", .xf "NoPlace", .oex "NoPlace"]
abbrev R : PySem.W.OpenRow := PySem.W.OpenLaw.row PySem.Challenge.rw_shutnames_k13_parts_put_in
abbrev hk : PySem.W.Hook := hookZ 6 [cStatics] faL fnL fxL
def ob (s : PySem.W.SharedT) : AlZ := obsZ 6 [cStatics] faL fnL fxL (HandSHeadRun.getT s)
theorem ob_eq (s : PySem.W.SharedT) : ob s = hk.obs s.abs := obsZ_eq (HandSHeadRun.getT_eq s)
def lo0 : List Str := ["ShutError", "NoTerm", "NoPlace", "SMALL", "FIGURES", "LONGEST", "is_called", "is_name", "is_turn", "GREAT", "is_hole", "is_term", "sure_terms", "inner", "with_inner", "at_place", "with_part", "part_at", "put_at", "_law_mixed", "_law_pile", "_law_take", "_law_name", "_law_names", "_law_order", "_law_turn", "_law_holes", "_law_sign", "_law_term", "_law_any"]
def lo1 : List Str := ["_law_in", "_law_parts", "_law_strange", "_law_places", "_law_put", "_law_said"]
def loL : List Str := lo0 ++ lo1
theorem run (w : World) : HandSHeadRun.RunEq R (PySem.W.view R.prog [40]) hk ob 30000 loL w := by
  intro os
  kernel_rfl
theorem wd {K : Frag} {h : Heap} {mg : Str → Option Value} (X : K.In h) (G : h.Ns mainGlobals mg) (c : He.SaysD faL fnL K) (c2 : fxB fxL K = true) : Nonempty (Wd K mg) := by
  obtain ⟨d0, F0⟩ := c.def_ 0 (d := dd_is_called) rfl
  obtain ⟨d1, F1⟩ := c.def_ 1 (d := dd_is_name) rfl
  obtain ⟨d2, F2⟩ := c.def_ 2 (d := dd_is_turn) rfl
  obtain ⟨d3, F3⟩ := c.def_ 3 (d := dd_is_hole) rfl
  obtain ⟨d4, F4⟩ := c.def_ 4 (d := dd_is_term) rfl
  obtain ⟨d5, F5⟩ := c.def_ 5 (d := dd_sure_terms) rfl
  obtain ⟨d6, F6⟩ := c.def_ 6 (d := dd_inner) rfl
  obtain ⟨d7, F7⟩ := c.def_ 7 (d := dd_with_inner) rfl
  obtain ⟨d8, F8⟩ := c.def_ 8 (d := dd_at_place) rfl
  obtain ⟨d9, F9⟩ := c.def_ 9 (d := dd_with_part) rfl
  obtain ⟨d10, F10⟩ := c.def_ 10 (d := dd_part_at) rfl
  obtain ⟨d11, F11⟩ := c.def_ 11 (d := dd_put_at) rfl
  obtain ⟨d12, F12⟩ := c.def_ 12 (d := dd__law_mixed) rfl
  obtain ⟨d13, F13⟩ := c.def_ 13 (d := dd__law_pile) rfl
  obtain ⟨d14, F14⟩ := c.def_ 14 (d := dd__law_take) rfl
  obtain ⟨d15, F15⟩ := c.def_ 15 (d := dd__law_name) rfl
  obtain ⟨d16, F16⟩ := c.def_ 16 (d := dd__law_names) rfl
  obtain ⟨d17, F17⟩ := c.def_ 17 (d := dd__law_order) rfl
  obtain ⟨d18, F18⟩ := c.def_ 18 (d := dd__law_turn) rfl
  obtain ⟨d19, F19⟩ := c.def_ 19 (d := dd__law_holes) rfl
  obtain ⟨d20, F20⟩ := c.def_ 20 (d := dd__law_sign) rfl
  obtain ⟨d21, F21⟩ := c.def_ 21 (d := dd__law_term) rfl
  obtain ⟨d22, F22⟩ := c.def_ 22 (d := dd__law_any) rfl
  obtain ⟨d23, F23⟩ := c.def_ 23 (d := dd__law_in) rfl
  obtain ⟨d24, F24⟩ := c.def_ 24 (d := dd__law_parts) rfl
  obtain ⟨d25, F25⟩ := c.def_ 25 (d := dd__law_strange) rfl
  obtain ⟨d26, F26⟩ := c.def_ 26 (d := dd__law_places) rfl
  obtain ⟨d27, F27⟩ := c.def_ 27 (d := dd__law_put) rfl
  obtain ⟨d28, F28⟩ := c.def_ 28 (d := dd__law_said) rfl
  obtain ⟨d29, F29⟩ := c.def_ 29 (d := dd_law) rfl
  obtain ⟨e0, E0⟩ := c.def_ 30 (d := ddi_NoPlace) rfl
  exact ⟨⟨He.free_ok X G (c.fact 30 (f := .free "abs") rfl),
    He.free_ok X G (c.fact 31 (f := .free "all") rfl),
    He.free_ok X G (c.fact 32 (f := .free "enumerate") rfl),
    He.free_ok X G (c.fact 33 (f := .free "int") rfl),
    He.free_ok X G (c.fact 34 (f := .free "isinstance") rfl),
    He.free_ok X G (c.fact 35 (f := .free "len") rfl),
    He.free_ok X G (c.fact 36 (f := .free "list") rfl),
    He.free_ok X G (c.fact 37 (f := .free "range") rfl),
    He.free_ok X G (c.fact 38 (f := .free "set") rfl),
    He.free_ok X G (c.fact 39 (f := .free "sorted") rfl),
    He.free_ok X G (c.fact 40 (f := .free "str") rfl),
    He.free_ok X G (c.fact 41 (f := .free "tuple") rfl),
    He.free_ok X G (c.fact 42 (f := .free "zip") rfl),
    He.str_ok X G (c.fact 43 (f := .str "FIGURES" "0123456789") rfl),
    He.str_ok X G (c.fact 44 (f := .str "GREAT" "ABCDEFGHIJKLMNOPQRSTUVWXYZ") rfl),
    He.int_ok X G (c.fact 45 (f := .int "LONGEST" 8) rfl),
    He.str_ok X G (c.fact 46 (f := .str "SMALL" "abcdefghijklmnopqrstuvwxyz") rfl),
    He.glo_ok X G (c.fact 47 (f := .glo "NoPlace") rfl),
    He.glo_ok X G (c.fact 48 (f := .glo "NoTerm") rfl),
    He.glo_ok X G (c.fact 49 (f := .glo "ShutError") rfl),
    He.exc_ok (c.fact 50 (f := .exc "NoTerm") rfl),
    He.exm_ok (c.fact 51 (f := .exm "NoPlace" "NoPlace" true) rfl),
    He.exm_ok (c.fact 52 (f := .exm "NoPlace" "NoTerm" false) rfl),
    He.exm_ok (c.fact 53 (f := .exm "NoTerm" "NoPlace" false) rfl),
    He.exm_ok (c.fact 54 (f := .exm "NoTerm" "NoTerm" true) rfl),
    He.noat_ok (c.fact 55 (f := .noat "NoPlace" "place") rfl),
    xb_ok (fx_at c2 0 (f := .xb "ShutError") rfl),
    xf_ok (fx_at c2 1 (f := .xf "NoPlace") rfl),
    He.fAd K ("NoPlace", some "__init__"), e0, E0, xn_ok (fx_at c2 2 (f := .oex "NoPlace") rfl) (c.fact 56 (f := .meth "NoPlace" "__init__") rfl),
    He.fAd K ("is_called", none), d0, F0, He.glo_ok X G (c.fact 0 (f := .glo "is_called") rfl),
    He.fAd K ("is_name", none), d1, F1, He.glo_ok X G (c.fact 1 (f := .glo "is_name") rfl),
    He.fAd K ("is_turn", none), d2, F2, He.glo_ok X G (c.fact 2 (f := .glo "is_turn") rfl),
    He.fAd K ("is_hole", none), d3, F3, He.glo_ok X G (c.fact 3 (f := .glo "is_hole") rfl),
    He.fAd K ("is_term", none), d4, F4, He.glo_ok X G (c.fact 4 (f := .glo "is_term") rfl),
    He.fAd K ("sure_terms", none), d5, F5, He.glo_ok X G (c.fact 5 (f := .glo "sure_terms") rfl),
    He.fAd K ("inner", none), d6, F6, He.glo_ok X G (c.fact 6 (f := .glo "inner") rfl),
    He.fAd K ("with_inner", none), d7, F7, He.glo_ok X G (c.fact 7 (f := .glo "with_inner") rfl),
    He.fAd K ("at_place", none), d8, F8, He.glo_ok X G (c.fact 8 (f := .glo "at_place") rfl),
    He.fAd K ("with_part", none), d9, F9, He.glo_ok X G (c.fact 9 (f := .glo "with_part") rfl),
    He.fAd K ("part_at", none), d10, F10, He.glo_ok X G (c.fact 10 (f := .glo "part_at") rfl),
    He.fAd K ("put_at", none), d11, F11, He.glo_ok X G (c.fact 11 (f := .glo "put_at") rfl),
    He.fAd K ("_law_mixed", none), d12, F12, He.glo_ok X G (c.fact 12 (f := .glo "_law_mixed") rfl),
    He.fAd K ("_law_pile", none), d13, F13, He.glo_ok X G (c.fact 13 (f := .glo "_law_pile") rfl),
    He.fAd K ("_law_take", none), d14, F14, He.glo_ok X G (c.fact 14 (f := .glo "_law_take") rfl),
    He.fAd K ("_law_name", none), d15, F15, He.glo_ok X G (c.fact 15 (f := .glo "_law_name") rfl),
    He.fAd K ("_law_names", none), d16, F16, He.glo_ok X G (c.fact 16 (f := .glo "_law_names") rfl),
    He.fAd K ("_law_order", none), d17, F17, He.glo_ok X G (c.fact 17 (f := .glo "_law_order") rfl),
    He.fAd K ("_law_turn", none), d18, F18, He.glo_ok X G (c.fact 18 (f := .glo "_law_turn") rfl),
    He.fAd K ("_law_holes", none), d19, F19, He.glo_ok X G (c.fact 19 (f := .glo "_law_holes") rfl),
    He.fAd K ("_law_sign", none), d20, F20, He.glo_ok X G (c.fact 20 (f := .glo "_law_sign") rfl),
    He.fAd K ("_law_term", none), d21, F21, He.glo_ok X G (c.fact 21 (f := .glo "_law_term") rfl),
    He.fAd K ("_law_any", none), d22, F22, He.glo_ok X G (c.fact 22 (f := .glo "_law_any") rfl),
    He.fAd K ("_law_in", none), d23, F23, He.glo_ok X G (c.fact 23 (f := .glo "_law_in") rfl),
    He.fAd K ("_law_parts", none), d24, F24, He.glo_ok X G (c.fact 24 (f := .glo "_law_parts") rfl),
    He.fAd K ("_law_strange", none), d25, F25, He.glo_ok X G (c.fact 25 (f := .glo "_law_strange") rfl),
    He.fAd K ("_law_places", none), d26, F26, He.glo_ok X G (c.fact 26 (f := .glo "_law_places") rfl),
    He.fAd K ("_law_put", none), d27, F27, He.glo_ok X G (c.fact 27 (f := .glo "_law_put") rfl),
    He.fAd K ("_law_said", none), d28, F28, He.glo_ok X G (c.fact 28 (f := .glo "_law_said") rfl),
    He.fAd K ("law", none), d29, F29, He.glo_ok X G (c.fact 29 (f := .glo "law") rfl)⟩⟩
end K13
open PySem PySem.W PySem.Calls PyProof.Rows
theorem PySem.Challenge.cw_shutnames_k13_parts_put_in_holds : PySem.Challenge.rw_shutnames_k13_parts_put_in.Holds := by
  w_on; o_law
  refine HandSHeadRun.head_any (r := OpenLaw.row PySem.Challenge.rw_shutnames_k13_parts_put_in) (q := view (OpenLaw.row PySem.Challenge.rw_shutnames_k13_parts_put_in).prog [40]) (H := K13.hk) (ob := K13.ob) (M := 30000) (loose := K13.loL) (d := HandSHeadRun.topDef (OpenLaw.row PySem.Challenge.rw_shutnames_k13_parts_put_in).prog 40) (kwd := []) K13.ob_eq
    (by kernel_rfl) (fun s => by kernel_rfl) K13.run (by kernel_rfl) (by kernel_rfl) (by kernel_rfl) (by rfl) (by first | assumption | decide +kernel) (by decide +kernel) ⟨rfl, rfl, rfl, rfl, rfl, by decide +kernel⟩ ?hw ?hc
  case hw => w_witness2
  case hc =>
    refine L2.walk_ofE (l := PySem.Challenge.rw_shutnames_k13_parts_put_in) (n := 63) (k := 48) (x := "_law_script") (CX := fun _ _ _ _ _ _ => False) rfl (by decide) (by kernel_rfl) ⟨rfl, by decide, by decide⟩ ?F (fun _ _ _ _ z => z)
    intro w mg fa h Y G hmg0
    obtain ⟨K, KX, c, c2⟩ := Y
    have hmg : mg ("law" : PySem.Str) = some (.ref fa) := by
      have e : (HandSHeadRun.topDef (OpenLaw.row PySem.Challenge.rw_shutnames_k13_parts_put_in).prog 40).name = ("law" : PySem.Str) := by kernel_rfl
      rw [← e]
      exact hmg0
    obtain ⟨W⟩ := K13.wd KX G c c2
    have ea := hmg.symm.trans W.m_law
    cases ea
    have b := L2.FunD.bindsA (ps := ["_law_script"]) W.F_law fun _ _ _ _ _ _ us hl => match us, hl with | [_], _ => rfl
    exact ⟨K, W.d_law, DL.spLaw K, KX, fun s v => b s [v] rfl, fun H a ns hl _ hS => ⟨a, ns, rfl, hl, hS, fun _ => rfl⟩, fun base _ _ => DL.ground (K13.ok_law W) (DL.law_in K13.law_true)⟩
end
