import PyProof.Rows.All
import Wide.All
import OpenK.AllK
import Wide.FinOn
import HandS.ForMost
import HandS.Evl
import HandS.Exc
import HandS.Defaults
import HandS.Walk
import HandS.Wide
import HandS.WideBits
import HandS.IsInst
import HandS.FStr
import HandS.StrMore
import HandS.EndBits
import HandS.WordsExc
import HandS.ExcOwn
import HandS.Style
import PyProof.ReprLen
import PyProof.FString3
import HandS.Head2
import HandS.HeadEnd
import HandS.HeadHook2
import HandS.ExcInit
import HandS.ExcField
import HandS.ExcIs
import KE.KExcIs
import HandS.Codes
import PySem.Challenge.RW_rangeends_k80_texts_of_spans_and_moments
set_option Elab.async false
set_option linter.all false
set_option maxRecDepth 100000
set_option maxHeartbeats 0
/-! The data layer: what an expression, a statement, a def does, told over plain data and without addresses. -/
namespace Rg
open PySem PySem.Spec PyProof.Rows L2
abbrev Ex := Evl.Ex

/-- plain data -/
inductive D where
  | non | bl (b : Bool) | int (i : Int) | str (x : Str) | ty (n : String) | ref (a : Addr)
  | tup (ds : List D) | lst (ds : List D) | ins (C : Addr) (fs : List (Str × D)) | exc (a d C : Addr) (fs : List (Str × D))

mutual
/-- the value v stands for the datum d in the heap H -/
inductive Rp (K : PySem.W.Frag) (H : Hp) : V → D → Prop where
  | non : Rp K H .non .non
  | bl (b : Bool) : Rp K H (.bl b) (.bl b)
  | int (i : Int) : Rp K H (.int i) (.int i)
  | str (x : Str) : Rp K H (.str x) (.str x)
  | ty (n : String) : Rp K H (.ty n) (.ty n)
  | ref (a : Addr) : Rp K H (.ref a) (.ref a)
  | tup {a : Addr} {xs : List V} {ds : List D} : SqT K H a xs → RpL K H xs ds → Rp K H (.ref a) (.tup ds)
  | lst {a : Addr} {xs : List V} {ds : List D} : SqL K H a xs → RpL K H xs ds → Rp K H (.ref a) (.lst ds)
  | ins {a C dx : Addr} {fs : List (Str × V)} {gs : List (Str × D)} : H a = some (.ins C dx fs) → RpF K H fs gs → Rp K H (.ref a) (.ins C gs)
  | exc {a d : Addr} (C : Addr) {fs : List (Str × V)} {gs : List (Str × D)} : H d = some (.xd fs) → RpF K H fs gs → Rp K H (.ref a) (.exc a d C gs)
inductive RpL (K : PySem.W.Frag) (H : Hp) : List V → List D → Prop where
  | nil : RpL K H [] []
  | cons {v : V} {vs : List V} {d : D} {ds : List D} : Rp K H v d → RpL K H vs ds → RpL K H (v :: vs) (d :: ds)
inductive RpF (K : PySem.W.Frag) (H : Hp) : List (Str × V) → List (Str × D) → Prop where
  | nil : RpF K H [] []
  | cons {f : Str} {v : V} {vs : List (Str × V)} {d : D} {ds : List (Str × D)} : Rp K H v d → RpF K H vs ds → RpF K H ((f, v) :: vs) ((f, d) :: ds)
end

section
variable {K : PySem.W.Frag} {H H' : Hp}
mutual
theorem Rp.mono (e : Ex H H') : ∀ {v : V} {d : D}, Rp K H v d → Rp K H' v d
  | _, _, .non => .non
  | _, _, .bl b => .bl b
  | _, _, .int i => .int i
  | _, _, .str x => .str x
  | _, _, .ty n => .ty n
  | _, _, .ref a => .ref a
  | _, _, .tup h r => .tup (Evl.ex_t e h) (RpL.mono e r)
  | _, _, .lst h r => .lst (Evl.ex_l e h) (RpL.mono e r)
  | _, _, .ins h r => .ins (e _ _ h) (RpF.mono e r)
  | _, _, .exc C h r => .exc C (e _ _ h) (RpF.mono e r)
theorem RpL.mono (e : Ex H H') : ∀ {v : List V} {d : List D}, RpL K H v d → RpL K H' v d
  | _, _, .nil => .nil
  | _, _, .cons h r => .cons (Rp.mono e h) (RpL.mono e r)
theorem RpF.mono (e : Ex H H') : ∀ {v : List (Str × V)} {d : List (Str × D)}, RpF K H v d → RpF K H' v d
  | _, _, .nil => .nil
  | _, _, .cons h r => .cons (Rp.mono e h) (RpF.mono e r)
end
theorem RpL.length : ∀ {vs : List V} {ds : List D}, RpL K H vs ds → vs.length = ds.length
  | _, _, .nil => rfl
  | _, _, .cons _ r => congrArg Nat.succ (RpL.length r)
theorem RpL.get : ∀ {vs : List V} {ds : List D} {i : Nat} {d : D}, RpL K H vs ds → ds[i]? = some d → ∃ v, vs[i]? = some v ∧ Rp K H v d
  | _, _, _, _, .nil, e => by simp at e
  | _, _, 0, _, .cons r _, e => by simp at e; subst e; exact ⟨_, rfl, r⟩
  | _, _, i + 1, d, .cons _ t, e => by
    obtain ⟨v, h1, h2⟩ := RpL.get (i := i) (d := d) t (by simpa using e)
    exact ⟨v, by simpa using h1, h2⟩
theorem RpL.get' : ∀ {vs : List V} {ds : List D} {i : Nat} {v : V}, RpL K H vs ds → vs[i]? = some v → ∃ d, ds[i]? = some d ∧ Rp K H v d
  | _, _, _, _, .nil, e => by simp at e
  | _, _, 0, _, .cons r _, e => by simp at e; subst e; exact ⟨_, rfl, r⟩
  | _, _, i + 1, d, .cons _ t, e => by
    obtain ⟨v, h1, h2⟩ := RpL.get' (i := i) (v := d) t (by simpa using e)
    exact ⟨v, by simpa using h1, h2⟩
theorem RpL.append : ∀ {vs ws : List V} {ds es : List D}, RpL K H vs ds → RpL K H ws es → RpL K H (vs ++ ws) (ds ++ es)
  | _, _, _, _, .nil, s => s
  | _, _, _, _, .cons r t, s => .cons r (RpL.append t s)
theorem RpL.take : ∀ {vs : List V} {ds : List D} (n : Nat), RpL K H vs ds → RpL K H (vs.take n) (ds.take n)
  | _, _, 0, _ => .nil
  | _, _, _ + 1, .nil => .nil
  | _, _, n + 1, .cons r t => .cons r (RpL.take n t)
theorem RpL.drop : ∀ {vs : List V} {ds : List D} (n : Nat), RpL K H vs ds → RpL K H (vs.drop n) (ds.drop n)
  | _, _, 0, r => r
  | _, _, _ + 1, .nil => .nil
  | _, _, n + 1, .cons _ t => RpL.drop n t
theorem RpL.set {v : V} {d : D} (r : Rp K H v d) : ∀ {vs : List V} {ds : List D} (i : Nat), RpL K H vs ds → RpL K H (vs.set i v) (ds.set i d)
  | _, _, _, .nil => .nil
  | _, _, 0, .cons _ t => .cons r t
  | _, _, i + 1, .cons q t => .cons q (RpL.set r i t)
theorem RpL.ints : ∀ (ns : List Int), RpL K H (ns.map V.int) (ns.map D.int)
  | [] => .nil
  | n :: ns => .cons (.int n) (RpL.ints ns)
theorem RpL.strs : ∀ (ns : List Str), RpL K H (ns.map V.str) (ns.map D.str)
  | [] => .nil
  | n :: ns => .cons (.str n) (RpL.strs ns)
theorem RpL.ints_of : ∀ {ns : List Int} {vs : List V}, RpL K H vs (ns.map D.int) → vs = ns.map V.int
  | [], _, .nil => rfl
  | n :: ns, _, .cons r t => by
    cases r
    rw [RpL.ints_of t]
    rfl
theorem RpL.strs_of : ∀ {ns : List Str} {vs : List V}, RpL K H vs (ns.map D.str) → vs = ns.map V.str
  | [], _, .nil => rfl
  | n :: ns, _, .cons r t => by
    cases r
    rw [RpL.strs_of t]
    rfl
end

/-- an object that may still change: a list, an instance -/
inductive Ob where
  | lst (ds : List D) | ins (C : Addr) (fs : List (Str × D))
inductive RpO (K : PySem.W.Frag) (H : Hp) : HO → Ob → Prop where
  | lst {vs : List V} {ds : List D} : RpL K H vs ds → RpO K H (.lst vs) (.lst ds)
  | ins {C dx : Addr} {fs : List (Str × V)} {gs : List (Str × D)} : RpF K H fs gs → RpO K H (.ins C dx fs) (.ins C gs)
theorem RpO.mono {K : PySem.W.Frag} {H H' : Hp} (e : Ex H H') {o : HO} {b : Ob} (r : RpO K H o b) : RpO K H' o b := by
  cases r with
  | lst h => exact .lst (h.mono e)
  | ins h => exact .ins (h.mono e)
def Ob.d : Ob → D
  | .lst ds => .lst ds
  | .ins C fs => .ins C fs
theorem RpO.fz {K : PySem.W.Frag} {H : Hp} {p : Addr} {o : HO} {b : Ob} (r : RpO K H o b) (h : H p = none) : Rp K (upd H p o) (.ref p) b.d := by
  cases r with
  | lst r => exact .lst (.inl (.inl upd_same)) (r.mono (Evl.Ex.new h))
  | ins r => exact .ins upd_same (r.mono (Evl.Ex.new h))
theorem RpO.mut {K : PySem.W.Frag} {H : Hp} {o : HO} {b : Ob} (r : RpO K H o b) (p : Addr) (xs : List V) : o ≠ .tup xs := by cases r <;> intro h <;> cases h
/-- what a slot holds: nothing that is known, shared data, an own new object, an object of the caller's that may be changed -/
inductive Sl where
  | emp | sh (d : D) | ol (b : Ob) | ob (b : Ob)
abbrev Rho := List Sl
def Sl.own : Sl → Bool
  | .ol _ => true
  | .ob _ => true
  | _ => false
def Sl.bor : Sl → Bool
  | .ob _ => true
  | _ => false
/-- the anchor: the shared part and the heap at some earlier time, the slots and addresses of the lists that may be changed -/
structure En where
  H0 : Hp
  H : Hp
  bs : List (Nat × Addr)
  n : Nat
def SlOk (K : PySem.W.Frag) (C : En) (H0 H : Hp) (i : Nat) (x : Option (Option V)) : Sl → Prop
  | .emp => True
  | .sh d => ∃ v, x = some (some v) ∧ Rp K H0 v d
  | .ol b => ∃ p o, x = some (some (.ref p)) ∧ H p = some o ∧ H0 p = none ∧ RpO K H0 o b ∧ C.H p = none
  | .ob b => ∃ p o, x = some (some (.ref p)) ∧ H p = some o ∧ H0 p = none ∧ RpO K H0 o b ∧ (i, p) ∈ C.bs
structure Sat (K : PySem.W.Frag) (C : En) (ρ : Rho) (σ : L2.St) (H0 H : Hp) : Prop where
  len : ρ.length = σ.length
  n : ρ.length = C.n
  e0 : Ex C.H0 H0
  ex : Ex H0 H
  keep : ∀ (a : Addr) (o : HO), C.H a = some o → a ∉ C.bs.map (·.2) → H a = some o
  bk : ∀ q ∈ C.bs, C.H q.2 ≠ none ∧ H q.2 ≠ none ∧ (∃ s : Sl, ρ[q.1]? = some s ∧ s.bor = true) ∧ σ[q.1]? = some (some (.ref q.2))
  nw : ∀ a : Addr, C.H a ≠ none → C.H0 a = none → H0 a = none
  sl : ∀ (i : Nat) (s : Sl), ρ[i]? = some s → SlOk K C H0 H i σ[i]? s
  ap : ∀ (i j : Nat) (p : Addr) (s t : Sl), ρ[i]? = some s → ρ[j]? = some t → s.own = true → t.own = true → σ[i]? = some (some (.ref p)) → σ[j]? = some (some (.ref p)) → i = j

section
variable {K : PySem.W.Frag} {C : En} {ρ : Rho} {σ : L2.St} {H0 H : Hp}
theorem Sat.known (S : Sat K C ρ σ H0 H) {a : Addr} (h : H a = none) : C.H a = none := by
  cases e : C.H a with
  | none => rfl
  | some o =>
    by_cases hb : a ∈ C.bs.map (·.2)
    · obtain ⟨q, hq, rfl⟩ := List.mem_map.mp hb
      exact absurd h (S.bk q hq).2.1
    · rw [S.keep a o e hb] at h
      cases h
theorem Sat.fresh0 (S : Sat K C ρ σ H0 H) {a : Addr} (h : H a = none) : H0 a = none := Evl.fresh_back S.ex h
theorem SlOk.mono {H0' H' : Hp} {i : Nat} {x : Option (Option V)} {s : Sl} (h : SlOk K C H0 H i x s) (e : Ex H0 H0') (ho : ∀ p o, s.own = true → x = some (some (.ref p)) → H p = some o → H' p = some o) (hn : ∀ p, s.own = true → x = some (some (.ref p)) → H p ≠ none → H0 p = none → H0' p = none) : SlOk K C H0' H' i x s := by
  cases s with
  | emp => trivial
  | sh d => obtain ⟨v, h1, h2⟩ := h; exact ⟨v, h1, h2.mono e⟩
  | ol ds => obtain ⟨p, vs, h1, h2, h3, h4, h5⟩ := h; exact ⟨p, vs, h1, ho p vs rfl h1 h2, hn p rfl h1 (by rw [h2]; simp) h3, h4.mono e, h5⟩
  | ob ds => obtain ⟨p, vs, h1, h2, h3, h4, h5⟩ := h; exact ⟨p, vs, h1, ho p vs rfl h1 h2, hn p rfl h1 (by rw [h2]; simp) h3, h4.mono e, h5⟩
/-- a new shared object -/
theorem Sat.new (S : Sat K C ρ σ H0 H) {p : Addr} {o : HO} (hp : H p = none) : Sat K C ρ σ (upd H0 p o) (upd H p o) := by
  have h0 := S.fresh0 hp
  have hC := S.known hp
  refine ⟨S.len, S.n, S.e0.trans (Evl.Ex.new h0), fun a u e => ?_, fun a u e hb => ?_, fun q hq => ?_, fun a h1 h2 => ?_, fun i s e => (S.sl i s e).mono (Evl.Ex.new h0) (fun q vs _ _ e2 => ?_) fun q _ _ n2 n3 => ?_, S.ap⟩
  · by_cases ha : a = p
    · subst ha
      rw [upd_same] at e ⊢
      exact e
    · rw [upd_ne ha] at e ⊢
      exact S.ex a u e
  · have ha : a ≠ p := fun z => by
      rw [z, hC] at e
      cases e
    rw [upd_ne ha]
    exact S.keep a u e hb
  · obtain ⟨b1, b2, b3⟩ := S.bk q hq
    refine ⟨b1, fun z => ?_, b3⟩
    by_cases ha : q.2 = p
    · rw [ha, upd_same] at z
      cases z
    · rw [upd_ne ha] at z
      exact b2 z
  · have ha : a ≠ p := fun z => h1 (by rw [z]; exact hC)
    rw [upd_ne ha]
    exact S.nw a h1 h2
  · have ha : q ≠ p := fun z => by
      rw [z, hp] at e2
      cases e2
    rw [upd_ne ha]
    exact e2
  · have ha : q ≠ p := fun z => n2 (by rw [z]; exact hp)
    rw [upd_ne ha]
    exact n3
/-- a new object that is not shared (yet) -/
theorem Sat.fresh (S : Sat K C ρ σ H0 H) {p : Addr} {o : HO} (hp : H p = none) : Sat K C ρ σ H0 (upd H p o) := by
  have hC := S.known hp
  refine ⟨S.len, S.n, S.e0, fun a u e => ?_, fun a u e hb => ?_, fun q hq => ?_, S.nw, fun i s e => (S.sl i s e).mono (Evl.Ex.refl _) (fun q vs _ _ e2 => ?_) fun q _ _ n2 n3 => n3, S.ap⟩
  · rw [upd_ne (ne_of_none (S.ex a u e) hp)]
    exact S.ex a u e
  · have ha : a ≠ p := fun z => by
      rw [z, hC] at e
      cases e
    rw [upd_ne ha]
    exact S.keep a u e hb
  · obtain ⟨b1, b2, b3⟩ := S.bk q hq
    refine ⟨b1, fun z => ?_, b3⟩
    by_cases ha : q.2 = p
    · rw [ha, upd_same] at z
      cases z
    · rw [upd_ne ha] at z
      exact b2 z
  · have ha : q ≠ p := fun z => by
      rw [z, hp] at e2
      cases e2
    rw [upd_ne ha]
    exact e2
/-- a slot is stored (one that holds no list of the caller's) -/
theorem Sat.set (S : Sat K C ρ σ H0 H) {i : Nat} {v : V} {d : D} (r : Rp K H0 v d) (hi : ∀ s : Sl, ρ[i]? = some s → s.bor = false) : Sat K C (ρ.set i (.sh d)) (σ.set i (some v)) H0 H := by
  refine ⟨by rw [List.length_set, List.length_set]; exact S.len, by rw [List.length_set]; exact S.n, S.e0, S.ex, S.keep, fun q hq => ?_, S.nw, fun j s e => ?_, fun j k p s t e1 e2 o1 o2 x1 x2 => ?_⟩
  · obtain ⟨b1, b2, ⟨s, b3, b4⟩, b5⟩ := S.bk q hq
    have hne : i ≠ q.1 := fun z => by
      have := hi s (by rw [z]; exact b3)
      rw [b4] at this
      cases this
    exact ⟨b1, b2, ⟨s, by rw [List.getElem?_set_ne hne]; exact b3, b4⟩, by rw [List.getElem?_set_ne hne]; exact b5⟩
  · by_cases hj : i = j
    · subst hj
      have hl : i < ρ.length := by
        have := (List.getElem?_eq_some_iff.mp e).1
        rw [List.length_set] at this
        exact this
      rw [List.getElem?_set_self hl] at e
      cases e
      rw [List.getElem?_set_self (by rw [← S.len]; exact hl)]
      exact ⟨v, rfl, r⟩
    · rw [List.getElem?_set_ne hj] at e
      rw [List.getElem?_set_ne hj]
      exact S.sl j s e
  · have nj : ∀ {j : Nat} {s : Sl}, (ρ.set i (.sh d))[j]? = some s → s.own = true → i ≠ j := fun {j s} e o z => by
      subst z
      have hl : i < ρ.length := by
        have := (List.getElem?_eq_some_iff.mp e).1
        rw [List.length_set] at this
        exact this
      rw [List.getElem?_set_self hl] at e
      cases e
      cases o
    have n1 := nj e1 o1
    have n2 := nj e2 o2
    rw [List.getElem?_set_ne n1] at e1 x1
    rw [List.getElem?_set_ne n2] at e2 x2
    exact S.ap j k p s t e1 e2 o1 o2 x1 x2
/-- a slot is stored with a new own list -/
theorem Sat.setO (S : Sat K C ρ σ H0 H) {i : Nat} {p : Addr} {o : HO} {ds : Ob} (h1 : H p = some o) (h2 : H0 p = none) (r : RpO K H0 o ds) (hC : C.H p = none) (hn : ∀ (j : Nat) (s : Sl), ρ[j]? = some s → s.own = true → σ[j]? ≠ some (some (.ref p)))
    (hi : ∀ s : Sl, ρ[i]? = some s → s.bor = false) : Sat K C (ρ.set i (.ol ds)) (σ.set i (some (.ref p))) H0 H := by
  have lt_of : ∀ {j : Nat} {s : Sl}, (ρ.set i (.ol ds))[j]? = some s → j < ρ.length := fun {j s} e => by
    have := (List.getElem?_eq_some_iff.mp e).1
    rw [List.length_set] at this
    exact this
  refine ⟨by rw [List.length_set, List.length_set]; exact S.len, by rw [List.length_set]; exact S.n, S.e0, S.ex, S.keep, fun q hq => ?_, S.nw, fun j s e => ?_, fun j k q s t e1 e2 o1 o2 x1 x2 => ?_⟩
  · obtain ⟨b1, b2, ⟨s, b3, b4⟩, b5⟩ := S.bk q hq
    have hne : i ≠ q.1 := fun z => by
      have := hi s (by rw [z]; exact b3)
      rw [b4] at this
      cases this
    exact ⟨b1, b2, ⟨s, by rw [List.getElem?_set_ne hne]; exact b3, b4⟩, by rw [List.getElem?_set_ne hne]; exact b5⟩
  · by_cases hj : i = j
    · subst hj
      have hl := lt_of e
      rw [List.getElem?_set_self hl] at e
      cases e
      rw [List.getElem?_set_self (by rw [← S.len]; exact hl)]
      exact ⟨p, o, rfl, h1, h2, r, hC⟩
    · rw [List.getElem?_set_ne hj] at e
      rw [List.getElem?_set_ne hj]
      exact S.sl j s e
  · by_cases hj : i = j
    · by_cases hk : i = k
      · exact hj.symm.trans hk
      · subst hj
        have hl := lt_of e1
        rw [List.getElem?_set_self (by rw [← S.len]; exact hl)] at x1
        cases x1
        rw [List.getElem?_set_ne hk] at e2 x2
        exact absurd x2 (hn k t e2 o2)
    · by_cases hk : i = k
      · subst hk
        have hl := lt_of e2
        rw [List.getElem?_set_self (by rw [← S.len]; exact hl)] at x2
        cases x2
        rw [List.getElem?_set_ne hj] at e1 x1
        exact absurd x1 (hn j s e1 o1)
      · rw [List.getElem?_set_ne hj] at e1 x1
        rw [List.getElem?_set_ne hk] at e2 x2
        exact S.ap j k q s t e1 e2 o1 o2 x1 x2
/-- the list in a slot is changed -/
theorem Sat.mut (S : Sat K C ρ σ H0 H) {i : Nat} {p : Addr} {s0 s1 : Sl} {ws : HO} {es : Ob} (hs : ρ[i]? = some s0) (h : (∃ ds, s0 = .ol ds ∧ s1 = .ol es) ∨ ∃ ds, s0 = .ob ds ∧ s1 = .ob es) (hx : σ[i]? = some (some (.ref p))) (r : RpO K H0 ws es) :
    Sat K C (ρ.set i s1) σ H0 (upd H p ws) := by
  have hown : s0.own = true := by rcases h with ⟨ds, rfl, rfl⟩ | ⟨ds, rfl, rfl⟩ <;> rfl
  have key : H0 p = none ∧ (C.H p = none ∨ (i, p) ∈ C.bs) := by
    have q := S.sl i s0 hs
    rcases h with ⟨ds, rfl, rfl⟩ | ⟨ds, rfl, rfl⟩
    · obtain ⟨p', vs, e1, e2, e3, e4, e5⟩ := q
      rw [hx] at e1
      cases e1
      exact ⟨e3, .inl e5⟩
    · obtain ⟨p', vs, e1, e2, e3, e4, e5⟩ := q
      rw [hx] at e1
      cases e1
      exact ⟨e3, .inr e5⟩
  have hl : i < ρ.length := (List.getElem?_eq_some_iff.mp hs).1
  have s1own : s1.own = true := by rcases h with ⟨ds, rfl, rfl⟩ | ⟨ds, rfl, rfl⟩ <;> rfl
  have s1bor : s1.bor = s0.bor := by rcases h with ⟨ds, rfl, rfl⟩ | ⟨ds, rfl, rfl⟩ <;> rfl
  have ownAt : ∀ {j : Nat} {t : Sl}, (ρ.set i s1)[j]? = some t → t.own = true → ∃ t', ρ[j]? = some t' ∧ t'.own = true := fun {j t} e o => by
    by_cases hj : i = j
    · subst hj
      exact ⟨s0, hs, hown⟩
    · rw [List.getElem?_set_ne hj] at e
      exact ⟨t, e, o⟩
  refine ⟨by rw [List.length_set]; exact S.len, by rw [List.length_set]; exact S.n, S.e0, fun a u e => ?_, fun a u e hb => ?_, fun q hq => ?_, S.nw, fun j s e => ?_, fun j k q s t e1 e2 o1 o2 x1 x2 => ?_⟩
  · rw [upd_ne (ne_of_none e key.1)]
    exact S.ex a u e
  · have ha : a ≠ p := fun z => by
      subst z
      rcases key.2 with z | z
      · rw [z] at e
        cases e
      · exact hb (List.mem_map.mpr ⟨_, z, rfl⟩)
    rw [upd_ne ha]
    exact S.keep a u e hb
  · obtain ⟨b1, b2, ⟨s, b3, b4⟩, b5⟩ := S.bk q hq
    refine ⟨b1, fun z => ?_, ?_, b5⟩
    · by_cases ha : q.2 = p
      · rw [ha, upd_same] at z
        cases z
      · rw [upd_ne ha] at z
        exact b2 z
    · by_cases hj : i = q.1
      · refine ⟨s1, by rw [← hj]; exact List.getElem?_set_self hl, ?_⟩
        rw [hj, b3] at hs
        cases hs
        rw [s1bor]
        exact b4
      · exact ⟨s, by rw [List.getElem?_set_ne hj]; exact b3, b4⟩
  · by_cases hj : i = j
    · subst hj
      rw [List.getElem?_set_self hl] at e
      cases e
      have q := S.sl i s0 hs
      rcases h with ⟨ds, rfl, rfl⟩ | ⟨ds, rfl, rfl⟩
      · obtain ⟨p', vs, e1, e2, e3, e4, e5⟩ := q
        rw [hx] at e1
        cases e1
        exact ⟨p, ws, hx, upd_same, e3, r, e5⟩
      · obtain ⟨p', vs, e1, e2, e3, e4, e5⟩ := q
        rw [hx] at e1
        cases e1
        exact ⟨p, ws, hx, upd_same, e3, r, e5⟩
    · rw [List.getElem?_set_ne hj] at e
      refine (S.sl j s e).mono (Evl.Ex.refl _) (fun q vs o x e2 => ?_) fun q _ _ _ n3 => n3
      have ha : q ≠ p := fun z => hj (S.ap i j p s0 s hs e hown o hx (by rw [← z]; exact x))
      rw [upd_ne ha]
      exact e2
  · obtain ⟨s', e1', o1'⟩ := ownAt e1 o1
    obtain ⟨t', e2', o2'⟩ := ownAt e2 o2
    exact S.ap j k q s' t' e1' e2' o1' o2' x1 x2
/-- an own list becomes shared -/
theorem Sat.freeze (S : Sat K C ρ σ H0 H) {i : Nat} {ds : Ob} (hs : ρ[i]? = some (.ol ds)) : ∃ p vs, σ[i]? = some (some (.ref p)) ∧ Ex H0 (upd H0 p vs) ∧ Rp K (upd H0 p vs) (.ref p) ds.d ∧ Sat K C (ρ.set i (.sh ds.d)) σ (upd H0 p vs) H := by
  obtain ⟨p, vs, e1, e2, e3, e4, e5⟩ := S.sl i _ hs
  have ex0 : Ex H0 (upd H0 p vs) := Evl.Ex.new e3
  have rr : Rp K (upd H0 p vs) (.ref p) ds.d := e4.fz e3
  have hl : i < ρ.length := (List.getElem?_eq_some_iff.mp hs).1
  refine ⟨p, vs, e1, ex0, rr, by rw [List.length_set]; exact S.len, by rw [List.length_set]; exact S.n, S.e0.trans ex0, fun a u e => ?_, S.keep, fun q hq => ?_, fun a h1 h2 => ?_, fun j s e => ?_, fun j k q s t z1 z2 o1 o2 x1 x2 => ?_⟩
  · by_cases ha : a = p
    · subst ha
      rw [upd_same] at e
      cases e
      exact e2
    · rw [upd_ne ha] at e
      exact S.ex a u e
  · obtain ⟨b1, b2, ⟨s, b3, b4⟩, b5⟩ := S.bk q hq
    have hne : i ≠ q.1 := fun z => by
      rw [← z, hs] at b3
      cases b3
      cases b4
    exact ⟨b1, b2, ⟨s, by rw [List.getElem?_set_ne hne]; exact b3, b4⟩, b5⟩
  · have ha : a ≠ p := fun z => h1 (by rw [z]; exact e5)
    rw [upd_ne ha]
    exact S.nw a h1 h2
  · by_cases hj : i = j
    · subst hj
      rw [List.getElem?_set_self hl] at e
      cases e
      exact ⟨.ref p, e1, rr⟩
    · rw [List.getElem?_set_ne hj] at e
      refine (S.sl j s e).mono ex0 (fun q vs' _ _ z => z) fun q o x n2 n3 => ?_
      have ha : q ≠ p := fun z => hj (S.ap i j p _ s hs e rfl o e1 (by rw [← z]; exact x))
      rw [upd_ne ha]
      exact n3
  · have nj : ∀ {j : Nat} {s : Sl}, (ρ.set i (.sh ds.d))[j]? = some s → s.own = true → i ≠ j := fun {j s} e o z => by
      subst z
      rw [List.getElem?_set_self hl] at e
      cases e
      cases o
    have n1 := nj z1 o1
    have n2 := nj z2 o2
    rw [List.getElem?_set_ne n1] at z1
    rw [List.getElem?_set_ne n2] at z2
    exact S.ap j k q s t z1 z2 o1 o2 x1 x2
/-- a slot is forgotten -/
theorem Sat.drop (S : Sat K C ρ σ H0 H) {i : Nat} (hi : ∀ s : Sl, ρ[i]? = some s → s.bor = false) : Sat K C (ρ.set i .emp) σ H0 H := by
  have nj : ∀ {j : Nat} {s : Sl}, (ρ.set i .emp)[j]? = some s → s.own = true → i ≠ j := fun {j s} e o z => by
    subst z
    have hl : i < ρ.length := by
      have := (List.getElem?_eq_some_iff.mp e).1
      rw [List.length_set] at this
      exact this
    rw [List.getElem?_set_self hl] at e
    cases e
    cases o
  refine ⟨by rw [List.length_set]; exact S.len, by rw [List.length_set]; exact S.n, S.e0, S.ex, S.keep, fun q hq => ?_, S.nw, fun j s e => ?_, fun j k q s t z1 z2 o1 o2 x1 x2 => ?_⟩
  · obtain ⟨b1, b2, ⟨s, b3, b4⟩, b5⟩ := S.bk q hq
    have hne : i ≠ q.1 := fun z => by
      have := hi s (by rw [z]; exact b3)
      rw [b4] at this
      cases this
    exact ⟨b1, b2, ⟨s, by rw [List.getElem?_set_ne hne]; exact b3, b4⟩, b5⟩
  · by_cases hj : i = j
    · subst hj
      have hl : i < ρ.length := by
        have := (List.getElem?_eq_some_iff.mp e).1
        rw [List.length_set] at this
        exact this
      rw [List.getElem?_set_self hl] at e
      cases e
      trivial
    · rw [List.getElem?_set_ne hj] at e
      exact S.sl j s e
  · have n1 := nj z1 o1
    have n2 := nj z2 o2
    rw [List.getElem?_set_ne n1] at z1
    rw [List.getElem?_set_ne n2] at z2
    exact S.ap j k q s t z1 z2 o1 o2 x1 x2
end
end Rg
namespace Rg
open PySem PySem.Spec PyProof.Rows L2

/-! ### the widest readings -/
def wE (X : Cx) (e : Expr) : TE := fun σ H Q => ∃ t, PE X e t ∧ t σ H Q
theorem pe_w {X : Cx} {e : Expr} : PE X e (wE X e) := ⟨fun pins s σ H Q I h => by obtain ⟨t, h1, h2⟩ := h; exact h1.run pins s σ H Q I h2⟩
def wT (X : Cx) (e : Expr) : TT := fun σ H Q => ∃ t, PT X e t ∧ t σ H Q
theorem pt_w {X : Cx} {e : Expr} : PT X e (wT X e) := ⟨fun pins s σ H Q I h => by obtain ⟨t, h1, h2⟩ := h; exact h1.run pins s σ H Q I h2⟩
def wW (X : Cx) (e : Expr) : TT := fun σ H Q => ∃ t, PW X e t ∧ t σ H Q
theorem pw_w {X : Cx} {e : Expr} : PW X e (wW X e) := ⟨fun wh pins s σ H Q I h => by obtain ⟨t, h1, h2⟩ := h; exact h1.run wh pins s σ H Q I h2⟩
def wA (X : Cx) (es : List Expr) : TA := fun σ H Q => ∃ t, PA X es t ∧ t σ H Q
theorem pa_w {X : Cx} {es : List Expr} : PA X es (wA X es) := ⟨fun pos pins s σ H Q I h => by obtain ⟨t, h1, h2⟩ := h; exact h1.run pos pins s σ H Q I h2⟩
def wS (X : Cx) (st : Stmt) : TS := fun D σ H => ∃ t, PS X st t ∧ t D σ H
theorem ps_w {X : Cx} {st : Stmt} : PS X st (wS X st) := ⟨fun pins s σ H D I h => by obtain ⟨t, h1, h2⟩ := h; exact h1.run pins s σ H D I h2⟩
def wB (X : Cx) (st : List Stmt) : TS := fun D σ H => ∃ t, PSs X st t ∧ t D σ H
theorem pss_w {X : Cx} {st : List Stmt} : PSs X st (wB X st) := ⟨fun pins s σ H D I h => by obtain ⟨t, h1, h2⟩ := h; exact h1.run pins s σ H D I h2⟩
def wG (X : Cx) (e : Expr) : TG := fun v σ H Q => ∃ t, PG X e t ∧ t v σ H Q
theorem pg_w {X : Cx} {e : Expr} : PG X e (wG X e) := ⟨fun pins s σ H v u Q I r h => by obtain ⟨t, h1, h2⟩ := h; exact h1.run pins s σ H v u Q I r h2⟩

/-! ### the judgements -/
/-- e's value stands for d; the slots' content turns from ρ to ρ' -/
def ED (X : Cx) (e : Expr) (ρ : Rho) (d : D) (ρ' : Rho) : Prop := ∀ (C : En) (σ : L2.St) (H0 H : Hp), Sat X.K C ρ σ H0 H → ∀ Q : VK, (∀ v H0' H', Ex H0 H0' → Sat X.K C ρ' σ H0' H' → Rp X.K H0' v d → Q v H') → wE X e σ H Q
/-- a new list that nobody else holds -/
def NewL (K : PySem.W.Frag) (C : En) (ρ : Rho) (σ : L2.St) (H0 H : Hp) (p : Addr) (b : Ob) : Prop := ∃ o, H p = some o ∧ H0 p = none ∧ C.H p = none ∧ RpO K H0 o b ∧ ∀ (j : Nat) (s : Sl), ρ[j]? = some s → s.own = true → σ[j]? ≠ some (some (.ref p))
def EO (X : Cx) (e : Expr) (ρ : Rho) (ds : Ob) (ρ' : Rho) : Prop := ∀ (C : En) (σ : L2.St) (H0 H : Hp), Sat X.K C ρ σ H0 H → ∀ Q : VK, (∀ p H0' H', Ex H0 H0' → Sat X.K C ρ' σ H0' H' → NewL X.K C ρ' σ H0' H' p ds → Q (.ref p) H') → wE X e σ H Q
def EA (X : Cx) (es : List Expr) (ρ : Rho) (ds : List D) (ρ' : Rho) : Prop := ∀ (C : En) (σ : L2.St) (H0 H : Hp), Sat X.K C ρ σ H0 H → ∀ Q : List V → Hp → Prop, (∀ vs H0' H', Ex H0 H0' → Sat X.K C ρ' σ H0' H' → RpL X.K H0' vs ds → Q vs H') → wA X es σ H Q
def ET (X : Cx) (e : Expr) (ρ : Rho) (b : Bool) (ρ' : Rho) : Prop := ∀ (C : En) (σ : L2.St) (H0 H : Hp), Sat X.K C ρ σ H0 H → ∀ Q : Bool → Hp → Prop, (∀ H0' H', Ex H0 H0' → Sat X.K C ρ' σ H0' H' → Q b H') → wT X e σ H Q
def EW (X : Cx) (e : Expr) (ρ : Rho) (b : Bool) (ρ' : Rho) : Prop := ∀ (C : En) (σ : L2.St) (H0 H : Hp), Sat X.K C ρ σ H0 H → ∀ Q : Bool → Hp → Prop, (∀ H0' H', Ex H0 H0' → Sat X.K C ρ' σ H0' H' → Q b H') → wW X e σ H Q

section
variable {K : PySem.W.Frag} {C : En} {ρ : Rho} {σ : L2.St} {H0 H : Hp}
/-- a new list is made shared -/
theorem Sat.share (S : Sat K C ρ σ H0 H) {p : Addr} {vs : HO} (h1 : H p = some vs) (h2 : H0 p = none) (h3 : C.H p = none) (hn : ∀ (j : Nat) (s : Sl), ρ[j]? = some s → s.own = true → σ[j]? ≠ some (some (.ref p))) : Sat K C ρ σ (upd H0 p vs) H := by
  have ex0 : Ex H0 (upd H0 p vs) := Evl.Ex.new h2
  refine ⟨S.len, S.n, S.e0.trans ex0, fun a u e => ?_, S.keep, S.bk, fun a e1 e2 => ?_, fun i s e => ?_, S.ap⟩
  · by_cases ha : a = p
    · subst ha
      rw [upd_same] at e
      cases e
      exact h1
    · rw [upd_ne ha] at e
      exact S.ex a u e
  · have ha : a ≠ p := fun z => e1 (by rw [z]; exact h3)
    rw [upd_ne ha]
    exact S.nw a e1 e2
  · refine (S.sl i s e).mono ex0 (fun _ _ _ _ z => z) fun q o x _ n3 => ?_
    have ha : q ≠ p := fun z => hn i s e o (by rw [← z]; exact x)
    rw [upd_ne ha]
    exact n3
theorem NewL.share (S : Sat K C ρ σ H0 H) {p : Addr} {ds : Ob} (n : NewL K C ρ σ H0 H p ds) : ∃ H0', Ex H0 H0' ∧ Sat K C ρ σ H0' H ∧ Rp K H0' (.ref p) ds.d := by
  obtain ⟨vs, h1, h2, h3, h4, h5⟩ := n
  exact ⟨_, Evl.Ex.new h2, S.share h1 h2 h3 h5, h4.fz h2⟩
/-- a new list laid -/
theorem NewL.laid (S : Sat K C ρ σ H0 H) {p : Addr} {vs : HO} {ds : Ob} (hp : H p = none) (r : RpO K H0 vs ds) : Sat K C ρ σ H0 (upd H p vs) ∧ NewL K C ρ σ H0 (upd H p vs) p ds := by
  refine ⟨S.fresh hp, vs, upd_same, S.fresh0 hp, S.known hp, r, fun j s e o x => ?_⟩
  have q := S.sl j s e
  cases s with
  | emp => cases o
  | sh d => cases o
  | ol es =>
    obtain ⟨p', vs', e1, e2, _⟩ := q
    rw [x] at e1
    cases e1
    rw [hp] at e2
    cases e2
  | ob es =>
    obtain ⟨p', vs', e1, e2, _⟩ := q
    rw [x] at e1
    cases e1
    rw [hp] at e2
    cases e2
end

section
variable {X : Cx} {ρ ρ1 ρ2 ρ3 : Rho} {a b c e : Expr} {x y z d : D} {pos : Pos}
theorem EO.ed {ds : Ob} (h : EO X e ρ ds ρ1) : ED X e ρ ds.d ρ1 := fun C σ H0 H S Q q => h C σ H0 H S Q fun p H0' H' ex S' n => by
  obtain ⟨H1, e1, S1, r1⟩ := n.share S'
  exact q _ H1 H' (ex.trans e1) S1 r1
theorem ED.is (h : ED X e ρ x ρ1) (q : x = y) : ED X e ρ y ρ1 := q ▸ h

end
/-! ### where a body stands: its names, those that may be read, the module's names that it uses -/
structure Bd (P : Program) (w : World) (K : PySem.W.Frag) (mg : Str → Option Value) (base : Heap) (X : Cx) (N : List Str) (is : List Nat) (gs : List Str) : Prop where
  hP : X.prog = P
  hw : X.w = w
  hK : X.K = K
  hm : X.mg = mg
  hb : X.base = base
  hN : X.N = N
  nd : X.N.Nodup
  vis : ∀ i, is.contains i = true → ∀ n, N[i]? = some n → Vis X.env.scope n ∧ (n == ("__debug__" : Str)) = false ∧ (n == ("__classdict__" : Str)) = false
  gl : ∀ (i : Nat) (n : Str), gs[i]? = some n → Gl X n ∧ (n == ("__debug__" : Str)) = false ∧ n ≠ "__name__"
section
variable {P : Program} {w : World} {K : PySem.W.Frag} {mg : Str → Option Value} {base : Heap} {X : Cx} {N : List Str} {is : List Nat} {gs : List Str} {i : Nat} {n : Str} {pos : Pos}
theorem Bd.pe (B : Bd P w K mg base X N is gs) (hN : N[i]? = some n) (hi : is.contains i = true) : PE X (.Name n pos) (tVar i) := by
  obtain ⟨h1, h2, h3⟩ := B.vis i hi n hN
  exact pe_var (by rw [B.hN]; exact hN) h1 h2 h3
theorem Bd.m (B : Bd P w K mg base X N is gs) {o : Option Value} (h : mg n = o) : X.mg n = o := by rw [B.hm]; exact h
theorem Bd.g (B : Bd P w K mg base X N is gs) (i : Nat) (h : gs[i]? = some n) : Gl X n := (B.gl i n h).1
end
section
variable {P : Program} {w : World} {K : PySem.W.Frag} {mg : Str → Option Value} {base : Heap} {X : Cx} {ρ ρ1 ρ2 ρ3 : Rho} {a b c e : Expr} {x y z d : D} {pos : Pos} {N : List Str} {is : List Nat} {gs : List Str}

/-! ### names, constants -/
theorem ED.var (B : Bd P w K mg base X N is gs) (i : Nat) {n : Str} (hN : N[i]? = some n) (hi : is.contains i = true) (h : ρ[i]? = some (.sh d)) : ED X (.Name n pos) ρ d ρ := fun C σ H0 H S Q q => by
  obtain ⟨v, h1, h2⟩ := S.sl i _ h
  exact ⟨_, B.pe hN hi, v, h1, q v H0 H (Evl.Ex.refl _) S h2⟩
theorem ED.const {v : V} (hp : PE X e (tC v)) (hr : ∀ H, Rp X.K H v d) : ED X e ρ d ρ := fun C σ H0 H S Q q => ⟨_, hp, q v H0 H (Evl.Ex.refl _) S (hr _)⟩
theorem ED.int {i : Int} {j : Nat} : ED X (.Constant (.int i) j pos) ρ (.int i) ρ := .const pe_int fun _ => .int i
theorem ED.str {s : Str} {j : Nat} : ED X (.Constant (.str s) j pos) ρ (.str s) ρ := .const pe_str fun _ => .str s
theorem ED.bl {s : Bool} {j : Nat} : ED X (.Constant (.bool s) j pos) ρ (.bl s) ρ := .const pe_bl fun _ => .bl s
theorem ED.non {j : Nat} : ED X (.Constant .none j pos) ρ .non ρ := .const pe_non fun _ => .non
theorem ED.glI (B : Bd P w K mg base X N is gs) (j : Nat) {n : Str} {i : Int} (hg : gs[j]? = some n) (hm : ∃ t, mg n = some (.int i t)) : ED X (.Name n pos) ρ (.int i) ρ := by
  obtain ⟨t, hm⟩ := hm
  exact .const (v := .int i) (pe_glob (B.gl j n hg).1 (B.m hm) ⟨t, rfl⟩ (B.gl j n hg).2.1) fun _ => .int i
theorem ED.glS (B : Bd P w K mg base X N is gs) (j : Nat) {n s : Str} (hg : gs[j]? = some n) (hm : ∃ t, mg n = some (.str s t)) : ED X (.Name n pos) ρ (.str s) ρ := by
  obtain ⟨t, hm⟩ := hm
  exact .const (v := .str s) (pe_glob (B.gl j n hg).1 (B.m hm) ⟨t, rfl⟩ (B.gl j n hg).2.1) fun _ => .str s
theorem ED.glC (B : Bd P w K mg base X N is gs) (j : Nat) {n : Str} {f : Addr} (hg : gs[j]? = some n) (hm : mg n = some (.ref f)) : ED X (.Name n pos) ρ (.ref f) ρ := .const (v := .ref f) (pe_glob (B.gl j n hg).1 (B.m hm) rfl (B.gl j n hg).2.1) fun _ => .ref f
theorem ED.glT (B : Bd P w K mg base X N is gs) (j : Nat) {n : Str} {t : String} (hg : gs[j]? = some n) (hm : mg n = none) (hv : bootBuiltins n = some (.type t)) : ED X (.Name n pos) ρ (.ty t) ρ := .const (v := .ty t) (pe_bltn (B.gl j n hg).1 (B.m hm) hv rfl (B.gl j n hg).2.2 (B.gl j n hg).2.1) fun _ => .ty t

/-! ### two operands -/
/-- what an operation on values gives, told of data -/
def Rv (X : Cx) (ρ : Rho) (r : R2) (x y z : D) : Prop := ∀ (C : En) (σ : L2.St) (H0 H : Hp) (v u : V), Sat X.K C ρ σ H0 H → Rp X.K H0 v x → Rp X.K H0 u y → ∀ Q : VK, (∀ w H0' H', Ex H0 H0' → Sat X.K C ρ σ H0' H' → Rp X.K H0' w z → Q w H') → r v u H Q
theorem ED.two {r : R2} (hp : PE X e (tOp r (wE X a) (wE X b))) (ha : ED X a ρ x ρ1) (hb : ED X b ρ1 y ρ2) (hr : Rv X ρ2 r x y z) : ED X e ρ z ρ2 := fun C σ H0 H S Q q =>
  ⟨_, hp, ha C σ H0 H S _ fun v H1 H1' e1 S1 r1 => hb C σ H1 H1' S1 _ fun u H2 H2' e2 S2 r2 => hr C σ H2 H2' v u S2 (r1.mono e2) r2 _ fun w H3 H3' e3 S3 r3 => q w H3 H3' (e1.trans (e2.trans e3)) S3 r3⟩
theorem Rv.atom {r : R2} {v u w : V} (hv : ∀ H t, Rp X.K H t x → t = v) (hu : ∀ H t, Rp X.K H t y → t = u) (hw : ∀ H, Rp X.K H w z) (h : ∀ H (Q : VK), Q w H → r v u H Q) : Rv X ρ r x y z := fun C σ H0 H v' u' S rv ru Q q => by
  rw [hv _ _ rv, hu _ _ ru]
  exact h H Q (q w H0 H (Evl.Ex.refl _) S (hw _))
theorem rp_int {K : PySem.W.Frag} {i : Int} : ∀ (H : Hp) (t : V), Rp K H t (.int i) → t = .int i := fun _ _ r => by cases r; rfl
theorem rp_str {K : PySem.W.Frag} {i : Str} : ∀ (H : Hp) (t : V), Rp K H t (.str i) → t = .str i := fun _ _ r => by cases r; rfl
theorem rp_bl {K : PySem.W.Frag} {i : Bool} : ∀ (H : Hp) (t : V), Rp K H t (.bl i) → t = .bl i := fun _ _ r => by cases r; rfl
theorem Rv.I0 {g : Int → Int → V} {i j : Int} {z : D} (hw : ∀ H, Rp X.K H (g i j) z) : Rv X ρ (rI0 g) (.int i) (.int j) z := .atom rp_int rp_int hw fun _ _ q => ⟨i, j, rfl, rfl, q⟩
theorem Rv.I {P : Int → Int → Prop} {g : Int → Int → V} {i j : Int} {z : D} (hc : P i j) (hw : ∀ H, Rp X.K H (g i j) z) : Rv X ρ (rI P g) (.int i) (.int j) z := .atom rp_int rp_int hw fun _ _ q => ⟨i, j, rfl, rfl, hc, q⟩
variable {i j : Int}
theorem ED.add (ha : ED X a ρ (.int i) ρ1) (hb : ED X b ρ1 (.int j) ρ2) : ED X (.BinOp a .Add b pos) ρ (.int (i + j)) ρ2 := .two (pe_op op_add pe_w pe_w) ha hb (.I0 fun _ => .int _)
theorem ED.sub (ha : ED X a ρ (.int i) ρ1) (hb : ED X b ρ1 (.int j) ρ2) : ED X (.BinOp a .Sub b pos) ρ (.int (i - j)) ρ2 := .two (pe_op op_sub pe_w pe_w) ha hb (.I0 fun _ => .int _)
theorem ED.mul (ha : ED X a ρ (.int i) ρ1) (hb : ED X b ρ1 (.int j) ρ2) (hc : CMulX i j) : ED X (.BinOp a .Mult b pos) ρ (.int (i * j)) ρ2 := .two (pe_op op_mulX pe_w pe_w) ha hb (.I hc fun _ => .int _)
theorem ED.fdiv (ha : ED X a ρ (.int i) ρ1) (hb : ED X b ρ1 (.int j) ρ2) (hc : CDivW i j) : ED X (.BinOp a .FloorDiv b pos) ρ (.int (i / j)) ρ2 := .two (pe_op op_fdivW pe_w pe_w) ha hb (.I hc fun _ => .int _)
theorem ED.mod (ha : ED X a ρ (.int i) ρ1) (hb : ED X b ρ1 (.int j) ρ2) (hc : 0 < j) : ED X (.BinOp a .Mod b pos) ρ (.int (i % j)) ρ2 := .two (pe_op op_mod pe_w pe_w) ha hb (.I (P := fun _ j => 0 < j) hc fun _ => .int _)
theorem ED.pow (ha : ED X a ρ (.int i) ρ1) (hb : ED X b ρ1 (.int j) ρ2) (hc : CPow i j) : ED X (.BinOp a .Pow b pos) ρ (.int (i ^ j.toNat)) ρ2 := .two (pe_op op_pow pe_w pe_w) ha hb (.I hc fun _ => .int _)
theorem ED.addS {s t : Str} (ha : ED X a ρ (.str s) ρ1) (hb : ED X b ρ1 (.str t) ρ2) (hl : s.length + t.length ≤ sizeLine) : ED X (.BinOp a .Add b pos) ρ (.str (s ++ t)) ρ2 :=
  .two (pe_op op_add_str pe_w pe_w) ha hb (.atom rp_str rp_str (fun _ => .str _) fun _ _ q => ⟨s, t, rfl, rfl, hl, q⟩)
/-- comparisons, as values and as tests -/
def EC (X : Cx) (op : CmpOp) (a b : Expr) (ρ : Rho) (k : Bool) (ρ2 : Rho) : Prop := ∃ (r : R2) (x y : D) (ρ1 : Rho), OpR X (compareOp op) r ∧ behindInMarks op b = false ∧ ED X a ρ x ρ1 ∧ ED X b ρ1 y ρ2 ∧ Rv X ρ2 r x y (.bl k)
theorem ED.ofC {op : CmpOp} {k : Bool} (h : EC X op a b ρ k ρ2) : ED X (.Compare a [op] [b] pos) ρ (.bl k) ρ2 := by
  obtain ⟨r, x, y, ρ1, ho, hm, ha, hb, hr⟩ := h
  exact .two (pe_cmpR ho pe_w pe_w hm) ha hb hr
theorem ET.ofC {op : CmpOp} {k : Bool} (h : EC X op a b ρ k ρ2) : ET X (.Compare a [op] [b] pos) ρ k ρ2 := by
  obtain ⟨r, x, y, ρ1, ho, hm, ha, hb, hr⟩ := h
  exact fun C σ H0 H S Q q => ⟨_, pt_cmpR ho pe_w pe_w hm, ha C σ H0 H S _ fun v H1 H1' e1 S1 r1 => hb C σ H1 H1' S1 _ fun u H2 H2' e2 S2 r2 => hr C σ H2 H2' v u S2 (r1.mono e2) r2 _ fun w H3 H3' e3 S3 r3 => by
    cases r3
    exact ⟨k, rfl, q H3 H3' (e1.trans (e2.trans e3)) S3⟩⟩
theorem EC.mk {op : CmpOp} {r : R2} {k : Bool} (ho : OpR X (compareOp op) r) (hm : behindInMarks op b = false) (ha : ED X a ρ x ρ1) (hb : ED X b ρ1 y ρ2) (hr : Rv X ρ2 r x y (.bl k)) : EC X op a b ρ k ρ2 := ⟨r, x, y, ρ1, ho, hm, ha, hb, hr⟩
theorem EC.lt (ha : ED X a ρ (.int i) ρ1) (hb : ED X b ρ1 (.int j) ρ2) : EC X .Lt a b ρ (decide (i < j)) ρ2 := .mk op_lt (nomark _) ha hb (.I0 fun _ => .bl _)
theorem EC.le (ha : ED X a ρ (.int i) ρ1) (hb : ED X b ρ1 (.int j) ρ2) : EC X .LtE a b ρ (decide (i ≤ j)) ρ2 := .mk op_le (nomark _) ha hb (.I0 fun _ => .bl _)
theorem EC.gt (ha : ED X a ρ (.int i) ρ1) (hb : ED X b ρ1 (.int j) ρ2) : EC X .Gt a b ρ (decide (j < i)) ρ2 := .mk op_gt (nomark _) ha hb (.I0 fun _ => .bl _)
theorem EC.ge (ha : ED X a ρ (.int i) ρ1) (hb : ED X b ρ1 (.int j) ρ2) : EC X .GtE a b ρ (decide (j ≤ i)) ρ2 := .mk op_ge (nomark _) ha hb (.I0 fun _ => .bl _)
theorem dec_i {i j : Int} : decide (V.int i = V.int j) = decide (i = j) := by by_cases h : i = j <;> simp [h]
theorem dec_s {i j : Str} : decide (V.str i = V.str j) = decide (i = j) := by by_cases h : i = j <;> simp [h]
theorem dec_b {i j : Bool} : decide (V.bl i = V.bl j) = decide (i = j) := by by_cases h : i = j <;> simp [h]
theorem EC.eqI (ha : ED X a ρ (.int i) ρ1) (hb : ED X b ρ1 (.int j) ρ2) : EC X .Eq a b ρ (decide (i = j)) ρ2 := .mk op_eq (nomark _) ha hb (.atom (w := .bl _) rp_int rp_int (fun _ => .bl _) fun _ _ q => ⟨rfl, by rw [dec_i]; exact q⟩)
theorem EC.neI (ha : ED X a ρ (.int i) ρ1) (hb : ED X b ρ1 (.int j) ρ2) : EC X .NotEq a b ρ (!decide (i = j)) ρ2 := .mk op_ne (nomark _) ha hb (.atom (w := .bl _) rp_int rp_int (fun _ => .bl _) fun _ _ q => ⟨rfl, by rw [dec_i]; exact q⟩)
theorem EC.eqS {s t : Str} (ha : ED X a ρ (.str s) ρ1) (hb : ED X b ρ1 (.str t) ρ2) : EC X .Eq a b ρ (decide (s = t)) ρ2 := .mk op_eq (nomark _) ha hb (.atom (w := .bl _) rp_str rp_str (fun _ => .bl _) fun _ _ q => ⟨rfl, by rw [dec_s]; exact q⟩)
theorem EC.neS {s t : Str} (ha : ED X a ρ (.str s) ρ1) (hb : ED X b ρ1 (.str t) ρ2) : EC X .NotEq a b ρ (!decide (s = t)) ρ2 := .mk op_ne (nomark _) ha hb (.atom (w := .bl _) rp_str rp_str (fun _ => .bl _) fun _ _ q => ⟨rfl, by rw [dec_s]; exact q⟩)
theorem EC.inC {n : Nat} {t : Str} (ha : ED X a ρ (.str ⟨#[n]⟩) ρ1) (hb : ED X b ρ1 (.str t) ρ2) (hm : behindInMarks .In b = false) : EC X .In a b ρ (decide (n ∈ t.cps.toList)) ρ2 := .mk op_in_sign hm ha hb (.atom (w := .bl _) rp_str rp_str (fun _ => .bl _) fun _ _ q => ⟨n, t, rfl, rfl, q⟩)
theorem EC.ninC {n : Nat} {t : Str} (ha : ED X a ρ (.str ⟨#[n]⟩) ρ1) (hb : ED X b ρ1 (.str t) ρ2) (hm : behindInMarks .NotIn b = false) : EC X .NotIn a b ρ (!decide (n ∈ t.cps.toList)) ρ2 := .mk op_notIn_sign hm ha hb (.atom (w := .bl _) rp_str rp_str (fun _ => .bl _) fun _ _ q => ⟨n, t, rfl, rfl, q⟩)
def D.isNon : D → Bool
  | .non => true
  | _ => false
theorem Rp.isNon {K : PySem.W.Frag} {H : Hp} {v : V} {d : D} (r : Rp K H v d) : decide (v = .non) = d.isNon := by
  cases r <;> first | rfl | exact decide_eq_false fun z => nomatch z
theorem EC.isN {k : Nat} {p2 : Pos} (ha : ED X a ρ x ρ1) : EC X .Is a (.Constant .none k p2) ρ (x.isNon) ρ1 := .mk op_isN (nomark _) ha .non fun C σ H0 H v u S rv ru Q q => by
  cases ru
  exact ⟨rfl, q _ H0 H (Evl.Ex.refl _) S (by rw [rv.isNon]; exact .bl _)⟩
theorem EC.notN {k : Nat} {p2 : Pos} (ha : ED X a ρ x ρ1) : EC X .IsNot a (.Constant .none k p2) ρ ((!x.isNon)) ρ1 := .mk op_notN (nomark _) ha .non fun C σ H0 H v u S rv ru Q q => by
  cases ru
  exact ⟨rfl, q _ H0 H (Evl.Ex.refl _) S (by rw [rv.isNon]; exact .bl _)⟩
/-- one operand -/
theorem ED.neg (ha : ED X a ρ (.int i) ρ1) : ED X (.UnaryOp .USub a pos) ρ (.int (-i)) ρ1 := fun C σ H0 H S Q q =>
  ⟨_, pe_un un_neg pe_w, ha C σ H0 H S _ fun v H1 H1' e1 S1 r1 => by cases r1; exact ⟨i, rfl, q _ H1 H1' e1 S1 (.int _)⟩⟩
/-! ### tests -/
theorem ET.val {b : Bool} (h : ED X e ρ (.bl b) ρ1) (he : ∀ whole, isTrue e X.env whole = (do let v ← whole; standAt e.pos; holding [v] (truthy v))) : ET X e ρ b ρ1 := fun C σ H0 H S Q q =>
  ⟨_, pt_val pe_w he, h C σ H0 H S _ fun v H1 H1' e1 S1 r1 => by cases r1; exact ⟨b, rfl, q H1 H1' e1 S1⟩⟩
theorem ET.not {k : Bool} (h : ET X e ρ k ρ1) : ET X (.UnaryOp .Not e pos) ρ (!k) ρ1 := fun C σ H0 H S Q q => ⟨_, pt_not pt_w, h C σ H0 H S _ q⟩
theorem EW.one {op : BoolOp} {k : Bool} (h : ET X e ρ k ρ1) : EW X (.BoolOp op [e] pos) ρ k ρ1 := fun C σ H0 H S Q q => by
  cases op with
  | And => exact ⟨_, pw_and1 pt_w, h C σ H0 H S _ q⟩
  | Or => exact ⟨_, pw_or1 pt_w, h C σ H0 H S _ q⟩
theorem EW.et {k : Bool} (h : EW X e ρ k ρ1) : ET X e ρ k ρ1 := fun C σ H0 H S Q q => by
  obtain ⟨t, h1, h2⟩ := h C σ H0 H S Q q
  exact ⟨t, h1.pt, h2⟩
variable {rest : List Expr}
theorem EW.andF (h : ET X a ρ false ρ1) : EW X (.BoolOp .And (a :: b :: rest) pos) ρ false ρ1 := fun C σ H0 H S Q q => ⟨_, pw_and pt_w pw_w, h C σ H0 H S _ fun H1 H1' e1 S1 => iteF (q H1 H1' e1 S1)⟩
theorem EW.andT {k : Bool} (h : ET X a ρ true ρ1) (h2 : EW X (.BoolOp .And (b :: rest) pos) ρ1 k ρ2) : EW X (.BoolOp .And (a :: b :: rest) pos) ρ k ρ2 := fun C σ H0 H S Q q => ⟨_, pw_and pt_w pw_w, h C σ H0 H S _ fun H1 H1' e1 S1 => iteT (h2 C σ H1 H1' S1 _ fun H2 H2' e2 S2 => q H2 H2' (e1.trans e2) S2)⟩
theorem EW.orT (h : ET X a ρ true ρ1) : EW X (.BoolOp .Or (a :: b :: rest) pos) ρ true ρ1 := fun C σ H0 H S Q q => ⟨_, pw_or pt_w pw_w, h C σ H0 H S _ fun H1 H1' e1 S1 => iteT (q H1 H1' e1 S1)⟩
theorem EW.orF {k : Bool} (h : ET X a ρ false ρ1) (h2 : EW X (.BoolOp .Or (b :: rest) pos) ρ1 k ρ2) : EW X (.BoolOp .Or (a :: b :: rest) pos) ρ k ρ2 := fun C σ H0 H S Q q => ⟨_, pw_or pt_w pw_w, h C σ H0 H S _ fun H1 H1' e1 S1 => iteF (h2 C σ H1 H1' S1 _ fun H2 H2' e2 S2 => q H2 H2' (e1.trans e2) S2)⟩
/-- .. where the slots stay: both answers at once -/
theorem EW.and {k l : Bool} (h : ET X a ρ k ρ) (h2 : k = true → EW X (.BoolOp .And (b :: rest) pos) ρ l ρ) : EW X (.BoolOp .And (a :: b :: rest) pos) ρ (k && l) ρ := by
  cases k with
  | true => exact EW.andT h (h2 rfl)
  | false => exact EW.andF h
theorem EW.or {k l : Bool} (h : ET X a ρ k ρ) (h2 : k = false → EW X (.BoolOp .Or (b :: rest) pos) ρ l ρ) : EW X (.BoolOp .Or (a :: b :: rest) pos) ρ (k || l) ρ := by
  cases k with
  | true => exact EW.orT h
  | false => exact EW.orF h (h2 rfl)
/-- the same as values -/
theorem ED.bo1 {op : BoolOp} (h : ED X e ρ d ρ1) : ED X (.BoolOp op [e] pos) ρ d ρ1 := fun C σ H0 H S Q q => ⟨_, pe_one pe_w, h C σ H0 H S _ q⟩
theorem ED.and {k : Bool} (h : ED X a ρ (.bl k) ρ) (h2 : k = true → ED X (.BoolOp .And (b :: rest) pos) ρ d ρ) (h3 : k = false → d = .bl false) : ED X (.BoolOp .And (a :: b :: rest) pos) ρ d ρ := fun C σ H0 H S Q q =>
  ⟨_, pe_and pe_w pe_w, h C σ H0 H S _ fun v H1 H1' e1 S1 r1 => by
    cases r1
    refine ⟨k, rfl, ?_⟩
    cases k with
    | true => exact iteT (h2 rfl C σ H1 H1' S1 _ fun v H2 H2' e2 S2 r2 => q v H2 H2' (e1.trans e2) S2 r2)
    | false => exact iteF (q _ H1 H1' e1 S1 (by rw [h3 rfl]; exact .bl _))⟩
theorem ED.or {k : Bool} (h : ED X a ρ (.bl k) ρ) (h2 : k = false → ED X (.BoolOp .Or (b :: rest) pos) ρ d ρ) (h3 : k = true → d = .bl true) : ED X (.BoolOp .Or (a :: b :: rest) pos) ρ d ρ := fun C σ H0 H S Q q =>
  ⟨_, pe_or pe_w pe_w, h C σ H0 H S _ fun v H1 H1' e1 S1 r1 => by
    cases r1
    refine ⟨k, rfl, ?_⟩
    cases k with
    | true => exact iteT (q _ H1 H1' e1 S1 (by rw [h3 rfl]; exact .bl _))
    | false => exact iteF (h2 rfl C σ H1 H1' S1 _ fun v H2 H2' e2 S2 r2 => q v H2 H2' (e1.trans e2) S2 r2)⟩
theorem ED.andB {k l : Bool} (h : ED X a ρ (.bl k) ρ) (h2 : k = true → ED X (.BoolOp .And (b :: rest) pos) ρ (.bl l) ρ) : ED X (.BoolOp .And (a :: b :: rest) pos) ρ (.bl (k && l)) ρ := by
  cases k with
  | true => exact ED.and h (fun _ => h2 rfl) fun z => nomatch z
  | false => exact ED.and h (fun z => nomatch z) fun _ => rfl
theorem ED.orB {k l : Bool} (h : ED X a ρ (.bl k) ρ) (h2 : k = false → ED X (.BoolOp .Or (b :: rest) pos) ρ (.bl l) ρ) : ED X (.BoolOp .Or (a :: b :: rest) pos) ρ (.bl (k || l)) ρ := by
  cases k with
  | true => exact ED.or h (fun z => nomatch z) fun _ => rfl
  | false => exact ED.or h (fun _ => h2 rfl) fun z => nomatch z
theorem ED.not {k : Bool} (h : ED X e ρ (.bl k) ρ1) : ED X (.UnaryOp .Not e pos) ρ (.bl (!k)) ρ1 := fun C σ H0 H S Q q => ⟨_, pe_not pe_w, h C σ H0 H S _ fun v H1 H1' e1 S1 r1 => by cases r1; exact ⟨k, rfl, q _ H1 H1' e1 S1 (.bl _)⟩⟩
theorem ED.ifx {k : Bool} (hc : ET X c ρ k ρ1) (h1 : k = true → ED X a ρ1 d ρ2) (h2 : k = false → ED X b ρ1 d ρ2) : ED X (.IfExp c a b pos) ρ d ρ2 := fun C σ H0 H S Q q => ⟨_, pe_ifExp pt_w pe_w pe_w, hc C σ H0 H S _ fun H1 H1' e1 S1 => by
  cases k with
  | true => exact iteT (h1 rfl C σ H1 H1' S1 _ fun v H2 H2' e2 S2 r2 => q v H2 H2' (e1.trans e2) S2 r2)
  | false => exact iteF (h2 rfl C σ H1 H1' S1 _ fun v H2 H2' e2 S2 r2 => q v H2 H2' (e1.trans e2) S2 r2)⟩
/-! ### displays, arguments -/
theorem EA.nil : EA X [] ρ [] ρ := fun C σ H0 H S Q q => ⟨_, pa_nil, q [] H0 H (Evl.Ex.refl _) S .nil⟩
theorem EA.cons {es : List Expr} {ds : List D} (h : ED X e ρ d ρ1) (hr : EA X es ρ1 ds ρ2) (hs : starEach (e :: es) X.env = (false, eval e X.env) :: starEach es X.env := by rfl) : EA X (e :: es) ρ (d :: ds) ρ2 := fun C σ H0 H S Q q =>
  ⟨_, pa_cons pe_w pa_w hs, h C σ H0 H S _ fun v H1 H1' e1 S1 r1 => hr C σ H1 H1' S1 _ fun vs H2 H2' e2 S2 r2 => q _ H2 H2' (e1.trans e2) S2 (.cons (r1.mono e2) r2)⟩
theorem ED.tup {es : List Expr} {ds : List D} {k : Nat} (h : EA X es ρ ds ρ1) (hl : ds.length ≤ sizeLine) : ED X (.Tuple es k pos) ρ (.tup ds) ρ1 := fun C σ H0 H S Q q => ⟨_, pe_tup pa_w, h C σ H0 H S _ fun vs H1 H1' e1 S1 r1 =>
  ⟨by rw [r1.length]; exact hl, fun p hp => q _ _ _ (e1.trans (Evl.Ex.new (S1.fresh0 hp))) (S1.new hp) (.tup (.inl (.inl upd_same)) (r1.mono (Evl.Ex.new (S1.fresh0 hp))))⟩⟩
theorem EO.lst {es : List Expr} {ds : List D} (h : EA X es ρ ds ρ1) (hl : ds.length ≤ sizeLine) : EO X (.List es pos) ρ (.lst ds) ρ1 := fun C σ H0 H S Q q => ⟨_, pe_lst pa_w, h C σ H0 H S _ fun vs H1 H1' e1 S1 r1 =>
  ⟨by rw [r1.length]; exact hl, fun p hp => by
    obtain ⟨S2, n⟩ := NewL.laid S1 hp (.lst r1)
    exact q p H1 _ e1 S2 n⟩⟩
/-! ### items, slices -/
def D.at? (ds : List D) (i : Int) : Option D := atI ds i
theorem atI_rp {K : PySem.W.Frag} {H : Hp} {vs : List V} {ds : List D} {i : Int} {d : D} (r : RpL K H vs ds) (h : atI ds i = some d) : ∃ v, atI vs i = some v ∧ Rp K H v d := by
  unfold atI at h ⊢
  rw [r.length]
  cases e : ixN ds.length i with
  | none => rw [e] at h; cases h
  | some j =>
    rw [e] at h
    obtain ⟨v, h1, h2⟩ := r.get (show ds[j]? = some d from h)
    exact ⟨v, h1, h2⟩
theorem ED.ixL {ds : List D} {i : Int} (ha : ED X a ρ (.lst ds) ρ1) (hb : ED X b ρ1 (.int i) ρ2) (h : atI ds i = some d) (hs : PlainIx b := by exact fun _ _ => rfl) : ED X (.Subscript a b pos) ρ d ρ2 := .two (pe_ix ix_list pe_w pe_w hs) ha hb fun C σ H0 H v u S rv ru Q q => by
  cases rv with
  | lst h1 h2 =>
    cases ru
    obtain ⟨w, e1, e2⟩ := atI_rp h2 h
    exact ⟨_, _, i, w, rfl, rfl, Evl.ex_l S.ex h1, e1, q w H0 H (Evl.Ex.refl _) S e2⟩
theorem ED.ixT {ds : List D} {i : Int} (ha : ED X a ρ (.tup ds) ρ1) (hb : ED X b ρ1 (.int i) ρ2) (h : atI ds i = some d) (hs : PlainIx b := by exact fun _ _ => rfl) : ED X (.Subscript a b pos) ρ d ρ2 := .two (pe_ix ix_tup pe_w pe_w hs) ha hb fun C σ H0 H v u S rv ru Q q => by
  cases rv with
  | tup h1 h2 =>
    cases ru
    obtain ⟨w, e1, e2⟩ := atI_rp h2 h
    exact ⟨_, _, i, w, rfl, rfl, Evl.ex_t S.ex h1, e1, q w H0 H (Evl.Ex.refl _) S e2⟩
theorem ED.ixS {s : Str} {i : Int} {n : Nat} (ha : ED X a ρ (.str s) ρ1) (hb : ED X b ρ1 (.int i) ρ2) (hl : s.length ≤ sizeLine) (h : atI s.cps.toList i = some n) (hs : PlainIx b := by exact fun _ _ => rfl) : ED X (.Subscript a b pos) ρ (.str ⟨#[n]⟩) ρ2 :=
  .two (pe_ix ix_str pe_w pe_w hs) ha hb (.atom rp_str rp_int (fun _ => .str _) fun _ _ q => ⟨s, i, n, rfl, rfl, hl, h, q⟩)
/-- an item of an own list (in slot i) -/
theorem ED.ixO (B : Bd P w K mg base X N is gs) (k : Nat) {n : Str} {np : Pos} {ds : List D} {i : Int} {s : Sl} (hN : N[k]? = some n) (hi : is.contains k = true) (h0 : ρ[k]? = some s) (hsl : s = .ol (.lst ds) ∨ s = .ob (.lst ds)) (hb : ED X b ρ (.int i) ρ) (h : atI ds i = some d) (hs : PlainIx b := by exact fun _ _ => rfl) : ED X (.Subscript (.Name n np) b pos) ρ d ρ := fun C σ H0 H S Q q => by
  have key : ∀ (C : En) (H0 H : Hp), Sat X.K C ρ σ H0 H → ∃ p vs, σ[k]? = some (some (.ref p)) ∧ H p = some (.lst vs) ∧ RpL X.K H0 vs ds := fun C H0 H S => by
    have z := S.sl k s h0
    rcases hsl with rfl | rfl
    · obtain ⟨p, o, e1, e2, _, e4, _⟩ := z
      cases e4 with
      | lst e4 => exact ⟨p, _, e1, e2, e4⟩
    · obtain ⟨p, o, e1, e2, _, e4, _⟩ := z
      cases e4 with
      | lst e4 => exact ⟨p, _, e1, e2, e4⟩
  obtain ⟨p, vs, e1, e2, e3⟩ := key C H0 H S
  refine ⟨_, pe_ix ix_list (B.pe hN hi) pe_w hs, .ref p, e1, hb C σ H0 H S _ fun u H1 H1' x1 S1 r1 => ?_⟩
  obtain ⟨p', vs', e1', e2', e3'⟩ := key C H1 H1' S1
  rw [e1] at e1'
  cases e1'
  cases r1
  obtain ⟨w, a1, a2⟩ := atI_rp e3' h
  exact ⟨p, vs', i, w, rfl, rfl, .inl (.inl e2'), a1, q w H1 H1' x1 S1 a2⟩
/-! ### built-ins -/
theorem ED.bi {es : List Expr} {n : Str} {np : Pos} {id : String} {ds : List D} {r : List V → Hp → VK → Prop} (hc : CallR X (.builtin id) r) (hg : Gl X n) (hm : X.mg n = none) (hv : bootBuiltins n = some (.builtin id)) (ha : EA X (e :: es) ρ ds ρ1)
    (hr : ∀ (C : En) (σ : L2.St) (H0 H : Hp) (vs : List V), Sat X.K C ρ1 σ H0 H → RpL X.K H0 vs ds → ∀ Q : VK, (∀ w H0' H', Ex H0 H0' → Sat X.K C ρ1 σ H0' H' → Rp X.K H0' w d → Q w H') → r vs H Q)
    (he : starEach (e :: es) X.env = (false, eval e X.env) :: starEach es X.env := by rfl) (hpl : (backTo pos (starEach es X.env)).any (·.1) = false := by rfl) (hn : n ≠ "__name__" := by decide) (hd : (n == ("__debug__" : Str)) = false := by decide) : ED X (.Call (.Name n np) (e :: es) [] pos) ρ d ρ1 := fun C σ H0 H S Q q =>
  ⟨_, pe_callB hc hg hm hv pa_w hn hd he hpl, ha C σ H0 H S _ fun vs H1 H1' e1 S1 r1 => hr C σ H1 H1' vs S1 r1 _ fun w H2 H2' e2 S2 r2 => q w H2 H2' (e1.trans e2) S2 r2⟩
theorem ED.bt {es : List Expr} {n : Str} {np : Pos} {id : String} {ds : List D} {r : List V → Hp → VK → Prop} (hc : CallR X (.type id) r) (hg : Gl X n) (hm : X.mg n = none) (hv : bootBuiltins n = some (.type id)) (ha : EA X (e :: es) ρ ds ρ1)
    (hr : ∀ (C : En) (σ : L2.St) (H0 H : Hp) (vs : List V), Sat X.K C ρ1 σ H0 H → RpL X.K H0 vs ds → ∀ Q : VK, (∀ w H0' H', Ex H0 H0' → Sat X.K C ρ1 σ H0' H' → Rp X.K H0' w d → Q w H') → r vs H Q)
    (he : starEach (e :: es) X.env = (false, eval e X.env) :: starEach es X.env := by rfl) (hpl : (backTo pos (starEach es X.env)).any (·.1) = false := by rfl) (hn : n ≠ "__name__" := by decide) (hd : (n == ("__debug__" : Str)) = false := by decide) : ED X (.Call (.Name n np) (e :: es) [] pos) ρ d ρ1 := fun C σ H0 H S Q q =>
  ⟨_, pe_callTy hc hg hm hv pa_w hn hd he hpl, ha C σ H0 H S _ fun vs H1 H1' e1 S1 r1 => hr C σ H1 H1' vs S1 r1 _ fun w H2 H2' e2 S2 r2 => q w H2 H2' (e1.trans e2) S2 r2⟩
theorem RpL.one {K : PySem.W.Frag} {H : Hp} {vs : List V} {d : D} (r : RpL K H vs [d]) : ∃ v, vs = [v] ∧ Rp K H v d := by
  cases r with
  | cons h t => cases t; exact ⟨_, rfl, h⟩
theorem RpL.two {K : PySem.W.Frag} {H : Hp} {vs : List V} {d d' : D} (r : RpL K H vs [d, d']) : ∃ v v', vs = [v, v'] ∧ Rp K H v d ∧ Rp K H v' d' := by
  cases r with
  | cons h t =>
    obtain ⟨v, rfl, h2⟩ := t.one
    exact ⟨_, v, rfl, h, h2⟩
section
variable {n : Str} {np : Pos}
theorem ED.lenL {ds : List D} (B : Bd P w K mg base X N is gs) (j0 : Nat) (hg : gs[j0]? = some "len") (hm : mg "len" = none) (ha : ED X a ρ (.lst ds) ρ1) (he : starEach [a] X.env = (false, eval a X.env) :: starEach [] X.env := by rfl) : ED X (.Call (.Name "len" np) [a] [] pos) ρ (.int ds.length) ρ1 :=
  .bi call_len_seq (B.g j0 hg) (B.m hm) PySem.boot_len (.cons ha .nil he) (fun C σ H0 H vs S r Q q => by
    obtain ⟨v, rfl, h⟩ := r.one
    cases h with
    | lst h1 h2 => exact ⟨_, _, rfl, .inl (Evl.ex_l S.ex h1), by rw [h2.length]; exact q _ H0 H (Evl.Ex.refl _) S (.int _)⟩) he
theorem ED.lenT {ds : List D} (B : Bd P w K mg base X N is gs) (j0 : Nat) (hg : gs[j0]? = some "len") (hm : mg "len" = none) (ha : ED X a ρ (.tup ds) ρ1) (he : starEach [a] X.env = (false, eval a X.env) :: starEach [] X.env := by rfl) : ED X (.Call (.Name "len" np) [a] [] pos) ρ (.int ds.length) ρ1 :=
  .bi call_len_seq (B.g j0 hg) (B.m hm) PySem.boot_len (.cons ha .nil he) (fun C σ H0 H vs S r Q q => by
    obtain ⟨v, rfl, h⟩ := r.one
    cases h with
    | tup h1 h2 => exact ⟨_, _, rfl, .inr (Evl.ex_t S.ex h1), by rw [h2.length]; exact q _ H0 H (Evl.Ex.refl _) S (.int _)⟩) he
theorem ED.lenS {s : Str} (B : Bd P w K mg base X N is gs) (j0 : Nat) (hg : gs[j0]? = some "len") (hm : mg "len" = none) (ha : ED X a ρ (.str s) ρ1) (hl : s.length ≤ sizeLine) (he : starEach [a] X.env = (false, eval a X.env) :: starEach [] X.env := by rfl) : ED X (.Call (.Name "len" np) [a] [] pos) ρ (.int s.length) ρ1 :=
  .bi call_len_str (B.g j0 hg) (B.m hm) PySem.boot_len (.cons ha .nil he) (fun C σ H0 H vs S r Q q => by
    obtain ⟨v, rfl, h⟩ := r.one
    cases h
    exact ⟨s, rfl, hl, q _ H0 H (Evl.Ex.refl _) S (.int _)⟩) he
theorem ED.absI (B : Bd P w K mg base X N is gs) (j0 : Nat) (hg : gs[j0]? = some "abs") (hm : mg "abs" = none) (ha : ED X a ρ (.int i) ρ1) (he : starEach [a] X.env = (false, eval a X.env) :: starEach [] X.env := by rfl) : ED X (.Call (.Name "abs" np) [a] [] pos) ρ (.int (if i < 0 then -i else i)) ρ1 :=
  .bi call_abs (B.g j0 hg) (B.m hm) (by decide +kernel) (.cons ha .nil he) (fun C σ H0 H vs S r Q q => by
    obtain ⟨v, rfl, h⟩ := r.one
    cases h
    exact ⟨i, rfl, q _ H0 H (Evl.Ex.refl _) S (.int _)⟩) he
theorem ED.max2 (B : Bd P w K mg base X N is gs) (hcm : X.calm = true) (j0 : Nat) (hg : gs[j0]? = some "max") (hm : mg "max" = none) (ha : ED X a ρ (.int i) ρ1) (hb : ED X b ρ1 (.int j) ρ2) (he : starEach [a, b] X.env = (false, eval a X.env) :: starEach [b] X.env := by rfl) (he2 : starEach [b] X.env = (false, eval b X.env) :: starEach [] X.env := by rfl)
    (hpl : (backTo pos (starEach [b] X.env)).any (·.1) = false := by rfl) : ED X (.Call (.Name "max" np) [a, b] [] pos) ρ (.int (if j > i then j else i)) ρ2 :=
  .bi (call_max2 hcm) (B.g j0 hg) (B.m hm) (by decide +kernel) (.cons ha (.cons hb .nil he2) he) (fun C σ H0 H vs S r Q q => by
    obtain ⟨v, u, rfl, h, h'⟩ := r.two
    cases h
    cases h'
    exact ⟨i, j, rfl, q _ H0 H (Evl.Ex.refl _) S (.int _)⟩) he hpl
theorem ED.min2 (B : Bd P w K mg base X N is gs) (hcm : X.calm = true) (j0 : Nat) (hg : gs[j0]? = some "min") (hm : mg "min" = none) (ha : ED X a ρ (.int i) ρ1) (hb : ED X b ρ1 (.int j) ρ2) (he : starEach [a, b] X.env = (false, eval a X.env) :: starEach [b] X.env := by rfl) (he2 : starEach [b] X.env = (false, eval b X.env) :: starEach [] X.env := by rfl)
    (hpl : (backTo pos (starEach [b] X.env)).any (·.1) = false := by rfl) : ED X (.Call (.Name "min" np) [a, b] [] pos) ρ (.int (if j < i then j else i)) ρ2 :=
  .bi (call_min2 hcm) (B.g j0 hg) (B.m hm) (by decide +kernel) (.cons ha (.cons hb .nil he2) he) (fun C σ H0 H vs S r Q q => by
    obtain ⟨v, u, rfl, h, h'⟩ := r.two
    cases h
    cases h'
    exact ⟨i, j, rfl, q _ H0 H (Evl.Ex.refl _) S (.int _)⟩) he hpl
theorem ED.divmod (B : Bd P w K mg base X N is gs) (j0 : Nat) (hg : gs[j0]? = some "divmod") (hm : mg "divmod" = none) (ha : ED X a ρ (.int i) ρ1) (hb : ED X b ρ1 (.int j) ρ2) (hc : CDivP i j) (he : starEach [a, b] X.env = (false, eval a X.env) :: starEach [b] X.env := by rfl) (he2 : starEach [b] X.env = (false, eval b X.env) :: starEach [] X.env := by rfl)
    (hpl : (backTo pos (starEach [b] X.env)).any (·.1) = false := by rfl) : ED X (.Call (.Name "divmod" np) [a, b] [] pos) ρ (.tup [.int (i / j), .int (i % j)]) ρ2 :=
  .bi call_divmodW (B.g j0 hg) (B.m hm) (by decide +kernel) (.cons ha (.cons hb .nil he2) he) (fun C σ H0 H vs S r Q q => by
    obtain ⟨v, u, rfl, h, h'⟩ := r.two
    cases h
    cases h'
    exact ⟨i, j, rfl, hc, fun p hp => q _ _ _ (Evl.Ex.new (S.fresh0 hp)) (S.new hp) (.tup (.inl (.inl upd_same)) (.cons (.int _) (.cons (.int _) .nil)))⟩) he hpl
theorem ED.strI (B : Bd P w K mg base X N is gs) (j0 : Nat) (hg : gs[j0]? = some "str") (hm : mg "str" = none) (ha : ED X a ρ (.int i) ρ1) (hl : i.natAbs.log2 < 1920) (he : starEach [a] X.env = (false, eval a X.env) :: starEach [] X.env := by rfl) : ED X (.Call (.Name "str" np) [a] [] pos) ρ (.str (toString i)) ρ1 :=
  .bt call_str_int (B.g j0 hg) (B.m hm) (by decide +kernel) (.cons ha .nil he) (fun C σ H0 H vs S r Q q => by
    obtain ⟨v, rfl, h⟩ := r.one
    cases h
    exact ⟨i, rfl, hl, q _ H0 H (Evl.Ex.refl _) S (.str _)⟩) he
theorem ED.intI (B : Bd P w K mg base X N is gs) (j0 : Nat) (hg : gs[j0]? = some "int") (hm : mg "int" = none) (ha : ED X a ρ (.int i) ρ1) (he : starEach [a] X.env = (false, eval a X.env) :: starEach [] X.env := by rfl) : ED X (.Call (.Name "int" np) [a] [] pos) ρ (.int i) ρ1 :=
  .bt call_int1 (B.g j0 hg) (B.m hm) (by decide +kernel) (.cons ha .nil he) (fun C σ H0 H vs S r Q q => by
    obtain ⟨v, rfl, h⟩ := r.one
    cases h
    exact .inl ⟨i, rfl, q _ H0 H (Evl.Ex.refl _) S (.int _)⟩) he
theorem ED.intS {s : Str} (B : Bd P w K mg base X N is gs) (j0 : Nat) (hg : gs[j0]? = some "int") (hm : mg "int" = none) (ha : ED X a ρ (.str s) ρ1) (ht : PySem.intText? s = some i) (hl : s.length ≤ 640) (he : starEach [a] X.env = (false, eval a X.env) :: starEach [] X.env := by rfl) : ED X (.Call (.Name "int" np) [a] [] pos) ρ (.int i) ρ1 :=
  .bt call_int_str (B.g j0 hg) (B.m hm) (by decide +kernel) (.cons ha .nil he) (fun C σ H0 H vs S r Q q => by
    obtain ⟨v, rfl, h⟩ := r.one
    cases h
    exact ⟨s, i, rfl, ht, hl, q _ H0 H (Evl.Ex.refl _) S (.int _)⟩) he
end
end
end Rg
namespace Rg
open PySem PySem.Spec PyProof.Rows L2

/-! ### what a def does, told of data -/
/-- an argument: shared data, or a list that the def may change -/
inductive Ar where
  | sh (d : D) | ob (b : Ob)
/-- what comes back: shared data or a new list; the lists of the caller's behind it. Or an error: its class, its fields -/
inductive Res where
  | ret (d : D) (outs : List Ob)
  | new (b : Ob) (outs : List Ob)
  | err (C : Addr) (fs : List (Str × D)) (outs : List Ob)
abbrev Ct := List Ar → Res → Prop
/-- the changeable arguments' places and addresses -/
def bsOf : Nat → List V → List Ar → List (Nat × Addr)
  | i, .ref p :: vs, .ob _ :: as => (i, p) :: bsOf (i + 1) vs as
  | i, _ :: vs, _ :: as => bsOf (i + 1) vs as
  | _, _, _ => []
inductive ArL (K : PySem.W.Frag) (H0 H : Hp) : List V → List Ar → Prop where
  | nil : ArL K H0 H [] []
  | sh {v : V} {d : D} {vs : List V} {as : List Ar} : Rp K H0 v d → ArL K H0 H vs as → ArL K H0 H (v :: vs) (.sh d :: as)
  | ob {p : Addr} {o : HO} {b : Ob} {vs : List V} {as : List Ar} : H p = some o → H0 p = none → RpO K H0 o b → ArL K H0 H vs as → ArL K H0 H (.ref p :: vs) (.ob b :: as)
inductive Outs (K : PySem.W.Frag) (H0 H : Hp) : List (Nat × Addr) → List Ob → Prop where
  | nil : Outs K H0 H [] []
  | cons {q : Nat × Addr} {o : HO} {ds : Ob} {qs : List (Nat × Addr)} {os : List Ob} : H q.2 = some o → RpO K H0 o ds → Outs K H0 H qs os → Outs K H0 H (q :: qs) (ds :: os)
structure Back (K : PySem.W.Frag) (H0 H : Hp) (bs : List (Nat × Addr)) (outs : List Ob) (H0' H' : Hp) : Prop where
  e0 : Ex H0 H0'
  ex : Ex H0' H'
  keep : ∀ (a : Addr) (o : HO), H a = some o → a ∉ bs.map (·.2) → H' a = some o
  nw : ∀ a : Addr, H a ≠ none → H0 a = none → H0' a = none
  outs : Outs K H0' H' bs outs
/-- d: an exception's dict that holds fs -/
def XDat (K : PySem.W.Frag) (H0 : Hp) (d : Addr) (fs : List (Str × D)) : Prop := ∃ vs, H0 d = some (.xd vs) ∧ RpF K H0 vs fs
theorem XDat.mono {K : PySem.W.Frag} {H0 H1 : Hp} {d : Addr} {fs : List (Str × D)} (h : XDat K H0 d fs) (e : Ex H0 H1) : XDat K H1 d fs := by
  obtain ⟨vs, h1, h2⟩ := h
  exact ⟨vs, e _ _ h1, h2.mono e⟩
def Res.goes (K : PySem.W.Frag) (H0 H : Hp) (bs : List (Nat × Addr)) (Q : VK) (E : XK) : Res → Prop
  | .ret d os => ∀ v H0' H', Back K H0 H bs os H0' H' → Rp K H0' v d → Q v H'
  | .new b os => ∀ p o H0' H', Back K H0 H bs os H0' H' → H' p = some o → H p = none → H0' p = none → RpO K H0' o b → Q (.ref p) H'
  | .err C fs os => ∀ d H0' H', Back K H0 H bs os H0' H' → XDat K H0' d fs → E (.ref C) (some d) H'
def spOf (K : PySem.W.Frag) (R : Ct) : Sp := fun vs H Q E => ∃ (H0 : Hp) (as : List Ar) (r : Res), Ex H0 H ∧ ArL K H0 H vs as ∧ ((bsOf 0 vs as).map (·.2)).Nodup ∧ R as r ∧ r.goes K H0 H (bsOf 0 vs as) Q E
/-- a def's promise; g: it wants that no display is under way -/
structure Fn (P : Program) (w : World) (K : PySem.W.Frag) (mg : Str → Option Value) (base : Heap) (g : Bool) (k : Nat) (f : Addr) (fd : FuncData) (ps : List Str) (sp : Sp) : Prop where
  len : ∀ vs H Q E, sp vs H Q E → vs.length = ps.length
  run : ∀ (A : Around) (outer : List Env) (s : Shared) (H : Hp) (args : Args) (us : List Value) (vs : List V) (Q : VK) (E : XK), (g = true → A.guards = some []) → Room k A → Env0 P w K mg base A outer s H → BindsTo s fd args (ps.zip us) → Vals vs us → sp vs H Q E →
    codeAny (model P w) A (.call (.ref f) args) (CR (L2.CX P w) outer P w H s Q E) s
section
variable {P : Program} {w : World} {K : PySem.W.Frag} {mg : Str → Option Value} {base : Heap} {g : Bool} {k : Nat} {f : Addr} {fd : FuncData} {ps : List Str} {sp : Sp}
theorem Fn.ok (F : Fn P w K mg base false k f fd ps sp) : FnOk P w K mg base (L2.CX P w) k f fd ps sp :=
  ⟨F.len, fun A outer s H args us vs Q E hr e0 hb hv hs => F.run A outer s H args us vs Q E (fun z => nomatch z) hr e0 hb hv hs⟩
theorem Fn.of (F : FnOk P w K mg base (L2.CX P w) k f fd ps sp) : Fn P w K mg base g k f fd ps sp :=
  ⟨F.len, fun A outer s H args us vs Q E _ hr e0 hb hv hs => F.run A outer s H args us vs Q E hr e0 hb hv hs⟩
end
/-- the name x stands for a def with this promise; dvs: its defaults -/
structure Cal (P : Program) (w : World) (K : PySem.W.Frag) (mg : Str → Option Value) (base : Heap) (g : Bool) (x : Str) (k : Nat) (R : Ct) : Prop where
  ex : ∃ (f : Addr) (fd : FuncData) (ps : List Str), Fn P w K mg base g k f fd ps (spOf K R) ∧ mg x = some (.ref f) ∧ PySem.W.keepIn K (.ref f) = true ∧ Binds K fd ps []

section
variable {X : Cx} {k : Nat} {f : Addr} {fd : FuncData} {ps : List Str} {sp : Sp} {n : Str} {np pos : Pos} {e : Expr} {es : List Expr} {t : TA} {g : Bool} {E : XK}
theorem run_g {pins : List (Addr × Obj)} {σ : L2.St} {H : Hp} {s : Shared} {Q : VK} {us : List Value} {vs : List V} (F : Fn X.prog X.w X.K X.mg X.base g k f fd ps sp) (hgd : g = true → X.A.guards = some []) (hr : Room k X.A) (hb : Binds X.K fd ps [])
    (hx : Passes (L2.CX X.prog X.w) X E) (I : Inv X pins σ H s) (r : Vals vs us) (h : sp vs H Q E) : wpAny (model X.prog X.w) X.A (call (.ref f) us) (EP X pins σ Q) X.xe s := by
  have hl : us.length = ps.length := r.length.symm.trans (F.len _ _ _ _ h)
  have hb' : BindsTo s fd ⟨us, []⟩ (ps.zip us) := by
    have z := hb s us I.kIn (by rw [List.append_nil]; exact hl)
    rw [List.append_nil] at z
    exact z
  refine wpAny_call (codeAny_mono (F.run X.A X.stack s H _ us vs Q E hgd hr I.env0 hb' r h) fun r s' hq => ?_)
  match r, hq with
  | .error e, hq => exact hx pins σ H s e s' I hq
  | .ok (.ret u), hq => exact I.after hq
theorem pe_callG (F : Fn X.prog X.w X.K X.mg X.base g k f fd ps sp) (hgd : g = true → X.A.guards = some []) (hr : Room k X.A) (hg : Gl X n) (hm : X.mg n = some (.ref f)) (hk : PySem.W.keepIn X.K (.ref f) = true) (hb : Binds X.K fd ps []) (hx : Passes (L2.CX X.prog X.w) X E)
    (ha : PA X (e :: es) t) (hd : (n == ("__debug__" : Str)) = false) (he : starEach (e :: es) X.env = (false, eval e X.env) :: starEach es X.env) (hpl : (backTo pos (starEach es X.env)).any (·.1) = false) :
    PE X (.Call (.Name n np) (e :: es) [] pos) (fun σ H Q => t σ H fun vs H1 => sp vs H1 Q E) := by
  refine ⟨fun pins s σ H Q I h => wpAny_Call_Name_kw (ld_glob I hg hm ?_ hd)⟩
  exact PySem.W.callWith_K (h₀ := X.base) I.ok.mod.kin hk (thn (ha.run pos pins s σ H _ I h) fun us s1 q1 => by
    obtain ⟨vs, H1, I1, r, q⟩ := q1
    exact ⟨I1.kIn, run_g F hgd hr hb hx I1 r q⟩) he hpl
/-! behind a call -/
theorem Sat.back {K : PySem.W.Frag} {C : En} {ρ : Rho} {σ : L2.St} {H0 H H0' H' : Hp} (S : Sat K C ρ σ H0 H) (b : Back K H0 H [] [] H0' H') : Sat K C ρ σ H0' H' := by
  have kp : ∀ (a : Addr) (o : HO), H a = some o → H' a = some o := fun a o h => b.keep a o h (by simp)
  refine ⟨S.len, S.n, S.e0.trans b.e0, b.ex, fun a o h1 h2 => kp a o (S.keep a o h1 h2), fun q hq => ?_, fun a h1 h2 => ?_, fun i s e => (S.sl i s e).mono b.e0 (fun p vs _ _ z => kp p _ z) fun p _ _ z1 z2 => b.nw p z1 z2, S.ap⟩
  · obtain ⟨b1, b2, b3⟩ := S.bk q hq
    refine ⟨b1, fun z => ?_, b3⟩
    cases h : H q.2 with
    | none => exact b2 h
    | some o =>
      rw [kp _ _ h] at z
      cases z
  · by_cases h : H a = none
    · exact absurd (S.known h) h1
    · exact b.nw a h (S.nw a h1 h2)
theorem Sat.back1 {K : PySem.W.Frag} {C : En} {ρ : Rho} {σ : L2.St} {H0 H H0' H' : Hp} {i j : Nat} {p : Addr} {s0 s1 : Sl} {es : Ob} (S : Sat K C ρ σ H0 H) (hs : ρ[i]? = some s0) (h : (∃ ds, s0 = .ol ds ∧ s1 = .ol es) ∨ ∃ ds, s0 = .ob ds ∧ s1 = .ob es) (hx : σ[i]? = some (some (.ref p)))
    (b : Back K H0 H [(j, p)] [es] H0' H') : Sat K C (ρ.set i s1) σ H0' H' := by
  have kp : ∀ (a : Addr) (o : HO), H a = some o → a ≠ p → H' a = some o := fun a o h1 h2 => b.keep a o h1 (by simp [h2])
  have hown : s0.own = true := by rcases h with ⟨ds, rfl, rfl⟩ | ⟨ds, rfl, rfl⟩ <;> rfl
  have hH : ∃ vs, H p = some vs ∧ H0 p = none ∧ (C.H p = none ∨ (i, p) ∈ C.bs) := by
    have q := S.sl i s0 hs
    rcases h with ⟨ds, rfl, rfl⟩ | ⟨ds, rfl, rfl⟩
    · obtain ⟨p', vs, e1, e2, e3, e4, e5⟩ := q
      rw [hx] at e1
      cases e1
      exact ⟨vs, e2, e3, .inl e5⟩
    · obtain ⟨p', vs, e1, e2, e3, e4, e5⟩ := q
      rw [hx] at e1
      cases e1
      exact ⟨vs, e2, e3, .inr e5⟩
  obtain ⟨vs0, hp, hp0, hpC⟩ := hH
  obtain ⟨xs, ho, hr⟩ : ∃ xs, H' p = some xs ∧ RpO K H0' xs es := by
    cases b.outs with
    | cons a1 a2 a3 => exact ⟨_, a1, a2⟩
  have hl : i < ρ.length := (List.getElem?_eq_some_iff.mp hs).1
  have s1own : s1.own = true := by rcases h with ⟨ds, rfl, rfl⟩ | ⟨ds, rfl, rfl⟩ <;> rfl
  have s1bor : s1.bor = s0.bor := by rcases h with ⟨ds, rfl, rfl⟩ | ⟨ds, rfl, rfl⟩ <;> rfl
  have ownAt : ∀ {j : Nat} {t : Sl}, (ρ.set i s1)[j]? = some t → t.own = true → ∃ t', ρ[j]? = some t' ∧ t'.own = true := fun {j t} e o => by
    by_cases hj : i = j
    · subst hj
      exact ⟨s0, hs, hown⟩
    · rw [List.getElem?_set_ne hj] at e
      exact ⟨t, e, o⟩
  refine ⟨by rw [List.length_set]; exact S.len, by rw [List.length_set]; exact S.n, S.e0.trans b.e0, b.ex, fun a o h1 h2 => ?_, fun q hq => ?_, fun a h1 h2 => ?_, fun j s e => ?_, fun j k q s t e1 e2 o1 o2 x1 x2 => ?_⟩
  · refine kp a o (S.keep a o h1 h2) fun z => ?_
    subst z
    rcases hpC with z | z
    · rw [z] at h1
      cases h1
    · exact h2 (List.mem_map.mpr ⟨_, z, rfl⟩)
  · obtain ⟨b1, b2, ⟨s, b3, b4⟩, b5⟩ := S.bk q hq
    refine ⟨b1, fun z => ?_, ?_, b5⟩
    · by_cases ha : q.2 = p
      · rw [ha, ho] at z
        cases z
      · cases h : H q.2 with
        | none => exact b2 h
        | some o =>
          rw [kp _ _ h ha] at z
          cases z
    · by_cases hj : i = q.1
      · refine ⟨s1, by rw [← hj]; exact List.getElem?_set_self hl, ?_⟩
        rw [hj, b3] at hs
        cases hs
        rw [s1bor]
        exact b4
      · exact ⟨s, by rw [List.getElem?_set_ne hj]; exact b3, b4⟩
  · by_cases h : H a = none
    · exact absurd (S.known h) h1
    · exact b.nw a h (S.nw a h1 h2)
  · by_cases hj : i = j
    · subst hj
      rw [List.getElem?_set_self hl] at e
      cases e
      have q := S.sl i s0 hs
      have n0 : H0' p = none := b.nw p (by rw [hp]; simp) hp0
      rcases h with ⟨ds, rfl, rfl⟩ | ⟨ds, rfl, rfl⟩
      · obtain ⟨p', vs, e1, e2, e3, e4, e5⟩ := q
        rw [hx] at e1
        cases e1
        exact ⟨p, xs, hx, ho, n0, hr, e5⟩
      · obtain ⟨p', vs, e1, e2, e3, e4, e5⟩ := q
        rw [hx] at e1
        cases e1
        exact ⟨p, xs, hx, ho, n0, hr, e5⟩
    · rw [List.getElem?_set_ne hj] at e
      refine (S.sl j s e).mono b.e0 (fun q vs o x e2 => ?_) fun q _ _ z1 z2 => b.nw q z1 z2
      exact kp q _ e2 fun z => hj (S.ap i j p s0 s hs e hown o hx (by rw [← z]; exact x))
  · obtain ⟨s', e1', o1'⟩ := ownAt e1 o1
    obtain ⟨t', e2', o2'⟩ := ownAt e2 o2
    exact S.ap j k q s' t' e1' e2' o1' o2' x1 x2
theorem arl_sh {K : PySem.W.Frag} {H0 H : Hp} : ∀ {vs : List V} {ds : List D}, RpL K H0 vs ds → ArL K H0 H vs (ds.map .sh) ∧ ∀ i, bsOf i vs (ds.map .sh) = []
  | _, _, .nil => ⟨.nil, fun _ => rfl⟩
  | v :: _, _, .cons r t => ⟨.sh r (arl_sh t).1, fun i => by
    show bsOf i (v :: _) (.sh _ :: _) = []
    cases v <;> exact (arl_sh (H := H) t).2 (i + 1)⟩
variable {ρ ρ1 ρ2 : Rho} {d : D} {ds : List D} {R : Ct} {b0 : Ob} {N : List Str} {is : List Nat} {gs : List Str} {P0 : Program} {w : World} {K : PySem.W.Frag} {mg : Str → Option Value} {base : Heap}
/-- f(e, ..), all arguments shared data -/
theorem ED.call (F : Cal P0 w K mg base g n k R) (hgd : g = true → X.A.guards = some []) (hr : Room k X.A) (B : Bd P0 w K mg base X N is gs) (m : Nat) (hg : gs[m]? = some n) (ha : EA X (e :: es) ρ ds ρ1) (hR : R (ds.map .sh) (.ret d []))
    (he : starEach (e :: es) X.env = (false, eval e X.env) :: starEach es X.env := by rfl) (hpl : (backTo pos (starEach es X.env)).any (·.1) = false := by rfl) : ED X (.Call (.Name n np) (e :: es) [] pos) ρ d ρ1 := fun C σ H0 H S Q q => by
  obtain ⟨rfl⟩ := B.hP
  obtain ⟨rfl⟩ := B.hw
  obtain ⟨rfl⟩ := B.hK
  obtain ⟨rfl⟩ := B.hm
  obtain ⟨rfl⟩ := B.hb
  obtain ⟨f, fd, ps, F, hm, hk, hb⟩ := F.ex
  refine ⟨_, pe_callG F hgd hr (B.gl m n hg).1 hm hk hb passL pa_w (B.gl m n hg).2.1 he hpl, ha C σ H0 H S _ fun vs H1 H1' e1 S1 r1 => ?_⟩
  obtain ⟨a1, a2⟩ := arl_sh (H := H1') r1
  refine ⟨H1, ds.map .sh, _, S1.ex, a1, by rw [a2]; exact List.nodup_nil, hR, fun v H2 H2' b rv => ?_⟩
  rw [a2] at b
  exact q v H2 H2' (e1.trans b.e0) (S1.back b) rv
theorem EO.call (F : Cal P0 w K mg base g n k R) (hgd : g = true → X.A.guards = some []) (hr : Room k X.A) (B : Bd P0 w K mg base X N is gs) (m : Nat) (hg : gs[m]? = some n) {as : List D} (ha : EA X (e :: es) ρ as ρ1) (hR : R (as.map .sh) (.new b0 []))
    (he : starEach (e :: es) X.env = (false, eval e X.env) :: starEach es X.env := by rfl) (hpl : (backTo pos (starEach es X.env)).any (·.1) = false := by rfl) : EO X (.Call (.Name n np) (e :: es) [] pos) ρ b0 ρ1 := fun C σ H0 H S Q q => by
  obtain ⟨rfl⟩ := B.hP
  obtain ⟨rfl⟩ := B.hw
  obtain ⟨rfl⟩ := B.hK
  obtain ⟨rfl⟩ := B.hm
  obtain ⟨rfl⟩ := B.hb
  obtain ⟨f, fd, ps, F, hm, hk, hb⟩ := F.ex
  refine ⟨_, pe_callG F hgd hr (B.gl m n hg).1 hm hk hb passL pa_w (B.gl m n hg).2.1 he hpl, ha C σ H0 H S _ fun vs H1 H1' e1 S1 r1 => ?_⟩
  obtain ⟨a1, a2⟩ := arl_sh (H := H1') r1
  refine ⟨H1, as.map .sh, _, S1.ex, a1, by rw [a2]; exact List.nodup_nil, hR, fun p ws H2 H2' b h1 h2 h3 h4 => ?_⟩
  rw [a2] at b
  have S2 := S1.back b
  refine q p H2 H2' (e1.trans b.e0) S2 ⟨ws, h1, h3, S1.known h2, h4, fun j s e o x => ?_⟩
  have z := S1.sl j s e
  cases s with
  | emp => cases o
  | sh d => cases o
  | ol es =>
    obtain ⟨p', vs', z1, z2, _⟩ := z
    rw [x] at z1
    cases z1
    rw [h2] at z2
    cases z2
  | ob es =>
    obtain ⟨p', vs', z1, z2, _⟩ := z
    rw [x] at z1
    cases z1
    rw [h2] at z2
    cases z2
/-- f(l, e, ..), l an own list that f may change -/
theorem EA.own (B : Bd P0 w K mg base X N is gs) (i : Nat) {y : Str} {yp : Pos} (hN : N[i]? = some y) (hi : is.contains i = true) (hr : EA X es ρ ds ρ) (hs : starEach (.Name y yp :: es) X.env = (false, eval (.Name y yp) X.env) :: starEach es X.env := by rfl) :
    ∀ (C : En) (σ : L2.St) (H0 H : Hp), Sat X.K C ρ σ H0 H → ∀ v, σ[i]? = some (some v) → ∀ Q : List V → Hp → Prop, (∀ vs H0' H', Ex H0 H0' → Sat X.K C ρ σ H0' H' → RpL X.K H0' vs ds → Q (v :: vs) H') → wA X (.Name y yp :: es) σ H Q := fun C σ H0 H S v hv' Q q =>
  ⟨_, pa_cons (B.pe hN hi) pa_w hs, v, hv', hr C σ H0 H S _ fun vs H1 H1' e1 S1 r1 => q vs H1 H1' e1 S1 r1⟩
theorem ED.callB (i : Nat) {y : Str} {yp : Pos} {s0 s1 : Sl} {bs es' : Ob} (F : Cal P0 w K mg base g n k R) (hgd : g = true → X.A.guards = some []) (hr : Room k X.A) (B : Bd P0 w K mg base X N is gs) (m : Nat) (hg : gs[m]? = some n) (hN : N[i]? = some y) (hi : is.contains i = true) (h0 : ρ[i]? = some s0) (hsl : (s0 = .ol bs ∧ s1 = .ol es') ∨ (s0 = .ob bs ∧ s1 = .ob es'))
    (ha : EA X es ρ ds ρ) (hR : R (.ob bs :: ds.map .sh) (.ret d [es']))
    (hs : starEach (.Name y yp :: es) X.env = (false, eval (.Name y yp) X.env) :: starEach es X.env := by rfl) (hpl : (backTo pos (starEach es X.env)).any (·.1) = false := by rfl) :
    ED X (.Call (.Name n np) (.Name y yp :: es) [] pos) ρ d (ρ.set i s1) := fun C σ H0 H S Q q => by
  obtain ⟨rfl⟩ := B.hP
  obtain ⟨rfl⟩ := B.hw
  obtain ⟨rfl⟩ := B.hK
  obtain ⟨rfl⟩ := B.hm
  obtain ⟨rfl⟩ := B.hb
  obtain ⟨f, fd, ps, F, hm, hk, hb⟩ := F.ex
  have key : ∀ (H0 H : Hp), Sat X.K C ρ σ H0 H → ∃ p vs, σ[i]? = some (some (.ref p)) ∧ H p = some vs ∧ H0 p = none ∧ RpO X.K H0 vs bs := fun H0 H S => by
    have z := S.sl i s0 h0
    rcases hsl with ⟨rfl, rfl⟩ | ⟨rfl, rfl⟩
    · obtain ⟨p, vs, e1, e2, e3, e4, _⟩ := z
      exact ⟨p, vs, e1, e2, e3, e4⟩
    · obtain ⟨p, vs, e1, e2, e3, e4, _⟩ := z
      exact ⟨p, vs, e1, e2, e3, e4⟩
  obtain ⟨p, vs0, e1, _⟩ := key H0 H S
  refine ⟨_, pe_callG F hgd hr (B.gl m n hg).1 hm hk hb passL pa_w (B.gl m n hg).2.1 hs hpl, EA.own B i hN hi ha hs C σ H0 H S _ e1 _ fun vs H1 H1' x1 S1 r1 => ?_⟩
  obtain ⟨p', vs1, e1', e2', e3', e4'⟩ := key H1 H1' S1
  rw [e1] at e1'
  cases e1'
  obtain ⟨a1, a2⟩ := arl_sh (H := H1') r1
  have eb : bsOf 0 (.ref p :: vs) (.ob bs :: ds.map .sh) = [(0, p)] := by
    show (0, p) :: bsOf 1 vs (ds.map .sh) = _
    rw [a2]
  refine ⟨H1, .ob bs :: ds.map .sh, _, S1.ex, .ob e2' e3' e4' a1, by rw [eb]; simp, hR, fun v H2 H2' b rv => ?_⟩
  rw [eb] at b
  exact q v H2 H2' (x1.trans b.e0) (S1.back1 h0 (by rcases hsl with ⟨rfl, rfl⟩ | ⟨rfl, rfl⟩ <;> simp) e1 b) rv
end

/-! ### statements -/
structure DE where
  nx : Rho → Prop
  rt : D → Rho → Prop
  ro : Ob → Rho → Prop
  bk : Rho → Prop := fun _ => False
  ct : Rho → Prop := fun _ => False
  ex : Addr → List (Str × D) → Rho → Prop := fun _ _ _ => False
structure Fits (X : Cx) (C : En) (H0 : Hp) (P : DE) (E : Ends) (W : WX) : Prop where
  nx : ∀ ρ σ H0' H', Ex H0 H0' → Sat X.K C ρ σ H0' H' → P.nx ρ → E.nx σ H'
  bk : ∀ ρ σ H0' H', Ex H0 H0' → Sat X.K C ρ σ H0' H' → P.bk ρ → E.bk σ H'
  ct : ∀ ρ σ H0' H', Ex H0 H0' → Sat X.K C ρ σ H0' H' → P.ct ρ → E.ct σ H'
  rt : ∀ ρ σ H0' H' v d, Ex H0 H0' → Sat X.K C ρ σ H0' H' → Rp X.K H0' v d → P.rt d ρ → E.rt v H'
  ro : ∀ ρ σ H0' H' p ds, Ex H0 H0' → Sat X.K C ρ σ H0' H' → NewL X.K C ρ σ H0' H' p ds → P.ro ds ρ → E.rt (.ref p) H'
  tk : Takes X W
  ex : ∀ ρ σ H0' H' D d fs, Ex H0 H0' → Sat X.K C ρ σ H0' H' → XDat X.K H0' d fs → P.ex D fs ρ → W (.ref D) (some d) σ H'
theorem Fits.mono {X : Cx} {C : En} {H0 H1 : Hp} {P : DE} {E : Ends} {W : WX} (F : Fits X C H0 P E W) (e : Ex H0 H1) : Fits X C H1 P E W :=
  ⟨fun ρ σ a b x => F.nx ρ σ a b (e.trans x), fun ρ σ a b x => F.bk ρ σ a b (e.trans x), fun ρ σ a b x => F.ct ρ σ a b (e.trans x), fun ρ σ a b v d x => F.rt ρ σ a b v d (e.trans x), fun ρ σ a b p ds x => F.ro ρ σ a b p ds (e.trans x), F.tk, fun ρ σ a b D d fs x => F.ex ρ σ a b D d fs (e.trans x)⟩
def SD (X : Cx) (st : Stmt) (ρ : Rho) (P : DE) : Prop := ∀ (C : En) (σ : L2.St) (H0 H : Hp) (E : Ends) (W : WX), Sat X.K C ρ σ H0 H → Fits X C H0 P E W → wS X st E σ H
def SB (X : Cx) (st : List Stmt) (ρ : Rho) (P : DE) : Prop := ∀ (C : En) (σ : L2.St) (H0 H : Hp) (E : Ends) (W : WX), Sat X.K C ρ σ H0 H → Fits X C H0 P E W → wB X st E σ H
section
variable {X : Cx} {ρ ρ1 ρ2 ρ3 : Rho} {a b c e : Expr} {x y z d : D} {pos : Pos} {P : DE} {st : Stmt} {rest : List Stmt} {N : List Str} {is : List Nat} {gs : List Str} {P0 : Program} {w : World} {K : PySem.W.Frag} {mg : Str → Option Value} {base : Heap}
/-- a def's own body: every name may be stored -/
structure Df (P0 : Program) (w : World) (K : PySem.W.Frag) (mg : Str → Option Value) (base : Heap) (X : Cx) (N : List Str) (is : List Nat) (gs : List Str) : Prop extends Bd P0 w K mg base X N is gs where
  calm : X.calm = true
  po : PassesOwn (model X.prog X.w) X.A X.env X.xe
  stk : X.stack = X.env :: X.outer
  frm : X.env.frame = some X.env.locals
  lo : ∀ (i : Nat), is.contains i = true → ∀ n : Str, N[i]? = some n → Loc X.env.scope n ∧ (X.fn n = true ∨ X.env.scope.names.lookup n = some .local)
theorem Df.pg (B : Df P0 w K mg base X N is gs) {i : Nat} {n : Str} {pos : Pos} (hN : N[i]? = some n) (ho : is.contains i = true) : PG X (.Name n pos) (gName i) := pg_name B.nd (by rw [B.hN]; exact hN) (B.lo i ho n hN).1 (B.lo i ho n hN).2
def Sl.nb (ρ : Rho) (i : Nat) : Bool := match ρ[i]? with
  | some (.ob _) => false
  | _ => true
theorem Sl.nb_ok {ρ : Rho} {i : Nat} (h : Sl.nb ρ i = true) : ∀ s : Sl, ρ[i]? = some s → s.bor = false := fun s e => by
  unfold Sl.nb at h
  rw [e] at h
  cases s <;> first | rfl | cases h
theorem SB.nil (h : P.nx ρ) : SB X [] ρ P := fun C σ H0 H E W S F => ⟨_, pss_nil, F.nx ρ σ H0 H (Evl.Ex.refl _) S h⟩
theorem SB.cons (h : SD X st ρ { P with nx := fun ρ' => SB X rest ρ' P }) : SB X (st :: rest) ρ P := fun C σ H0 H E W S F =>
  ⟨_, pss_cons ps_w pss_w, h C σ H0 H { E with nx := wB X rest E } W S ⟨fun ρ' σ' H0' H' ex S' n => n C σ' H0' H' E W S' (F.mono ex), F.bk, F.ct, F.rt, F.ro, F.tk, F.ex⟩⟩
theorem SD.asg (B : Df P0 w K mg base X N is gs) (i : Nat) {n : Str} {np : Pos} (hN : N[i]? = some n) (he : ED X e ρ d ρ1) (hb : Sl.nb ρ1 i = true) (h : P.nx (ρ1.set i (.sh d)))
    (hs : swapsWithSole [.Name n np] e pos.line X.env = pure false := by rfl) (hw : swappedStores [.Name n np] e X.env = pure none := by rfl)
    (h1 : (assignEach [.Name n np] X.env).map (·.2) = [assign (.Name n np) X.env] := by rfl) (ho : is.contains i = true := by rfl) : SD X (.Assign [.Name n np] e pos) ρ P := fun C σ H0 H E W S F =>
  ⟨_, ps_asg pe_w (B.pg hN ho) hs hw h1, he C σ H0 H S _ fun v H1 H1' e1 S1 r1 => F.nx _ _ H1 H1' e1 (S1.set r1 (Sl.nb_ok hb)) h⟩
theorem SD.asgO (B : Df P0 w K mg base X N is gs) (i : Nat) {n : Str} {np : Pos} {ds : Ob} (hN : N[i]? = some n) (he : EO X e ρ ds ρ1) (hb : Sl.nb ρ1 i = true) (h : P.nx (ρ1.set i (.ol ds)))
    (hs : swapsWithSole [.Name n np] e pos.line X.env = pure false := by rfl) (hw : swappedStores [.Name n np] e X.env = pure none := by rfl)
    (h1 : (assignEach [.Name n np] X.env).map (·.2) = [assign (.Name n np) X.env] := by rfl) (ho : is.contains i = true := by rfl) : SD X (.Assign [.Name n np] e pos) ρ P := fun C σ H0 H E W S F =>
  ⟨_, ps_asg pe_w (B.pg hN ho) hs hw h1, he C σ H0 H S _ fun p H1 H1' e1 S1 n => by
    obtain ⟨vs, n1, n2, n3, n4, n5⟩ := n
    exact F.nx _ _ H1 H1' e1 (S1.setO n1 n2 n4 n3 n5 (Sl.nb_ok hb)) h⟩
theorem SD.ite {k : Bool} {as bs : List Stmt} (hc : ET X c ρ k ρ1) (h1 : k = true → SB X as ρ1 P) (h2 : k = false → SB X bs ρ1 P) : SD X (.If c as bs pos) ρ P := fun C σ H0 H E W S F => ⟨_, ps_if pt_w pss_w pss_w, hc C σ H0 H S _ fun H1 H1' e1 S1 => by
  cases k with
  | true => exact iteT (h1 rfl C σ H1 H1' E W S1 (F.mono e1))
  | false => exact iteF (h2 rfl C σ H1 H1' E W S1 (F.mono e1))⟩
theorem SD.ret (he : ED X e ρ d ρ1) (h : P.rt d ρ1) : SD X (.Return (some e) pos) ρ P := fun C σ H0 H E W S F => ⟨_, ps_ret pe_w, he C σ H0 H S _ fun v H1 H1' e1 S1 r1 => F.rt ρ1 σ H1 H1' v d e1 S1 r1 h⟩
theorem SD.retO {ds : Ob} (he : EO X e ρ ds ρ1) (h : P.ro ds ρ1) : SD X (.Return (some e) pos) ρ P := fun C σ H0 H E W S F => ⟨_, ps_ret pe_w, he C σ H0 H S _ fun p H1 H1' e1 S1 n => F.ro ρ1 σ H1 H1' p ds e1 S1 n h⟩
theorem SD.retN (h : P.rt .non ρ) : SD X (.Return none pos) ρ P := fun C σ H0 H E W S F => ⟨_, ps_retN, F.rt ρ σ H0 H .non .non (Evl.Ex.refl _) S .non h⟩
theorem SD.pass (h : P.nx ρ) : SD X (.Pass pos) ρ P := fun C σ H0 H E W S F => ⟨_, ps_pass, F.nx ρ σ H0 H (Evl.Ex.refl _) S h⟩
theorem SD.brk (h : P.bk ρ) : SD X (.Break pos) ρ P := fun C σ H0 H E W S F => ⟨_, ps_break, F.bk ρ σ H0 H (Evl.Ex.refl _) S h⟩
theorem SD.cont (h : P.ct ρ) : SD X (.Continue pos) ρ P := fun C σ H0 H E W S F => ⟨_, ps_continue, F.ct ρ σ H0 H (Evl.Ex.refl _) S h⟩
theorem SD.expr (he : ED X e ρ d ρ1) (h : P.nx ρ1) (hs : swapsWith e none pos.line X.env = pure false := by rfl) : SD X (.Expr e pos) ρ P := fun C σ H0 H E W S F => ⟨_, ps_expr pe_w hs, he C σ H0 H S _ fun v H1 H1' e1 S1 r1 => F.nx _ _ H1 H1' e1 S1 h⟩
/-- a list in a slot is handed back as shared data -/
theorem SD.imp {P' : DE} (h : SD X st ρ P) (h1 : ∀ ρ, P.nx ρ → P'.nx ρ) (h2 : ∀ d ρ, P.rt d ρ → P'.rt d ρ) (h3 : ∀ d ρ, P.ro d ρ → P'.ro d ρ) (h4 : ∀ ρ, P.bk ρ → P'.bk ρ) (h5 : ∀ ρ, P.ct ρ → P'.ct ρ) (h6 : ∀ D fs ρ, P.ex D fs ρ → P'.ex D fs ρ) : SD X st ρ P' := fun C σ H0 H E W S F =>
  h C σ H0 H E W S ⟨fun ρ σ a b x s q => F.nx ρ σ a b x s (h1 ρ q), fun ρ σ a b x s q => F.bk ρ σ a b x s (h4 ρ q), fun ρ σ a b x s q => F.ct ρ σ a b x s (h5 ρ q), fun ρ σ a b v d x s r q => F.rt ρ σ a b v d x s r (h2 d ρ q), fun ρ σ a b p ds x s n q => F.ro ρ σ a b p ds x s n (h3 ds ρ q), F.tk, fun ρ σ a b D d fs x s n q => F.ex ρ σ a b D d fs x s n (h6 D fs ρ q)⟩
/-- an own list's name, read as a new list: the slot is given up -/
theorem EO.slot (B : Bd P0 w K mg base X N is gs) (i : Nat) {n : Str} {ds : Ob} (hN : N[i]? = some n) (hi : is.contains i = true) (h : ρ[i]? = some (.ol ds)) : EO X (.Name n pos) ρ ds (ρ.set i .emp) := fun C σ H0 H S Q q => by
  obtain ⟨p, vs, e1, e2, e3, e4, e5⟩ := S.sl i _ h
  have hl : i < ρ.length := (List.getElem?_eq_some_iff.mp h).1
  refine ⟨_, B.pe hN hi, _, e1, q p H0 H (Evl.Ex.refl _) (S.drop fun s e => ?_) ⟨vs, e2, e3, e5, e4, fun j s e o x => ?_⟩⟩
  · rw [h] at e
    cases e
    rfl
  · by_cases hj : i = j
    · subst hj
      rw [List.getElem?_set_self hl] at e
      cases e
      cases o
    · rw [List.getElem?_set_ne hj] at e
      exact hj (S.ap i j p _ s h e rfl o e1 x)
/-- l[i] = e, l an own list -/
theorem SD.setI (B : Df P0 w K mg base X N is gs) (i : Nat) {n : Str} {np sp : Pos} {ds : List D} {j : Int} {m : Nat} {s0 s1 : Sl} (hN : N[i]? = some n) (hi : is.contains i = true) (he : ED X e ρ d ρ1) (h0 : ρ1[i]? = some s0) (hsl : (s0 = .ol (.lst ds) ∧ s1 = .ol (.lst (ds.set m d))) ∨ (s0 = .ob (.lst ds) ∧ s1 = .ob (.lst (ds.set m d))))
    (hb : ED X b ρ1 (.int j) ρ1) (hm : ixN ds.length j = some m) (h : P.nx (ρ1.set i s1))
    (hs : swapsWithSole [.Subscript (.Name n np) b sp] e pos.line X.env = pure false := by rfl) (hw : swappedStores [.Subscript (.Name n np) b sp] e X.env = pure none := by rfl)
    (h1 : (assignEach [.Subscript (.Name n np) b sp] X.env).map (·.2) = [assign (.Subscript (.Name n np) b sp) X.env] := by rfl)
    (ha : ∀ v, assign (.Subscript (.Name n np) b sp) X.env v = (do
      let ov ← holding [v] (eval (.Name n np) X.env)
      let iv ← holding [v, ov] (eval b X.env)
      standAt sp
      holding [v, ov, iv] (setItem ov iv v)
      release [v, ov, iv] []) := by intro _; rfl) : SD X (.Assign [.Subscript (.Name n np) b sp] e pos) ρ P := fun C σ H0 H E W S F => by
  refine ⟨_, ps_asg pe_w (pg_sub (B.pe hN hi) pe_w set_list ha) hs hw h1, he C σ H0 H S _ fun v H1 H1' e1 S1 r1 => ?_⟩
  have key : ∀ (H0 H : Hp), Sat X.K C ρ1 σ H0 H → ∃ p vs, σ[i]? = some (some (.ref p)) ∧ H p = some (.lst vs) ∧ RpL X.K H0 vs ds := fun H0 H S => by
    have z := S.sl i s0 h0
    rcases hsl with ⟨rfl, rfl⟩ | ⟨rfl, rfl⟩
    · obtain ⟨p, o, e1, e2, _, e4, _⟩ := z
      cases e4 with
      | lst e4 => exact ⟨p, _, e1, e2, e4⟩
    · obtain ⟨p, o, e1, e2, _, e4, _⟩ := z
      cases e4 with
      | lst e4 => exact ⟨p, _, e1, e2, e4⟩
  obtain ⟨p, vs, k1, k2, k3⟩ := key H1 H1' S1
  refine ⟨_, k1, hb C σ H1 H1' S1 _ fun u H2 H2' e2 S2 r2 => ?_⟩
  obtain ⟨p', vs', k1', k2', k3'⟩ := key H2 H2' S2
  rw [k1] at k1'
  cases k1'
  cases r2
  refine ⟨p, vs', j, m, rfl, rfl, k2', by rw [k3'.length]; exact hm, ?_⟩
  exact F.nx _ _ H2 _ (e1.trans e2) (S2.mut h0 (by rcases hsl with ⟨rfl, rfl⟩ | ⟨rfl, rfl⟩ <;> simp) k1 (.lst (k3'.set (r1.mono e2) m))) h
/-- a, b = e -/
theorem SD.asg2 (B : Df P0 w K mg base X N is gs) (i j : Nat) {n m : Str} {np mp : Pos} {k : Nat} {tp : Pos} {d1 d2 : D} (hi : N[i]? = some n) (hj : N[j]? = some m) (he : ED X e ρ (.tup [d1, d2]) ρ1) (hb : Sl.nb ρ1 i = true) (hb2 : Sl.nb (ρ1.set i (.sh d1)) j = true)
    (h : P.nx ((ρ1.set i (.sh d1)).set j (.sh d2)))
    (hs : swapsWithSole [.Tuple [.Name n np, .Name m mp] k tp] e pos.line X.env = pure false := by rfl) (hw : swappedStores [.Tuple [.Name n np, .Name m mp] k tp] e X.env = pure none := by rfl)
    (h1 : (assignEach [.Tuple [.Name n np, .Name m mp] k tp] X.env).map (·.2) = [assign (.Tuple [.Name n np, .Name m mp] k tp) X.env] := by rfl) (ho : is.contains i = true := by rfl) (ho2 : is.contains j = true := by rfl) : SD X (.Assign [.Tuple [.Name n np, .Name m mp] k tp] e pos) ρ P := fun C σ H0 H E W S F =>
  ⟨_, ps_asg pe_w (pg_tup B.calm (pgs_cons (B.pg hi ho) (pgs_cons (B.pg hj ho2) pgs_nil))) hs hw h1, he C σ H0 H S _ fun v H1 H1' e1 S1 r1 => by
    cases r1 with
    | tup t1 t2 =>
      obtain ⟨v1, v2, rfl, q1, q2⟩ := t2.two
      exact ⟨_, _, rfl, Evl.ex_t S1.ex t1, rfl, v1, _, rfl, v2, _, rfl, rfl, F.nx _ _ H1 H1' e1 ((S1.set q1 (Sl.nb_ok hb)).set q2 (Sl.nb_ok hb2)) h⟩⟩
theorem SD.asg3 (B : Df P0 w K mg base X N is gs) (i j l : Nat) {n m o : Str} {np mp op : Pos} {k : Nat} {tp : Pos} {d1 d2 d3 : D} (hi : N[i]? = some n) (hj : N[j]? = some m) (hl : N[l]? = some o) (he : ED X e ρ (.tup [d1, d2, d3]) ρ1) (hb : Sl.nb ρ1 i = true) (hb2 : Sl.nb (ρ1.set i (.sh d1)) j = true) (hb3 : Sl.nb ((ρ1.set i (.sh d1)).set j (.sh d2)) l = true)
    (h : P.nx (((ρ1.set i (.sh d1)).set j (.sh d2)).set l (.sh d3)))
    (hs : swapsWithSole [.Tuple [.Name n np, .Name m mp, .Name o op] k tp] e pos.line X.env = pure false := by rfl) (hw : swappedStores [.Tuple [.Name n np, .Name m mp, .Name o op] k tp] e X.env = pure none := by rfl)
    (h1 : (assignEach [.Tuple [.Name n np, .Name m mp, .Name o op] k tp] X.env).map (·.2) = [assign (.Tuple [.Name n np, .Name m mp, .Name o op] k tp) X.env] := by rfl) (ho : is.contains i = true := by rfl) (ho2 : is.contains j = true := by rfl) (ho3 : is.contains l = true := by rfl) : SD X (.Assign [.Tuple [.Name n np, .Name m mp, .Name o op] k tp] e pos) ρ P := fun C σ H0 H E W S F =>
  ⟨_, ps_asg pe_w (pg_tup B.calm (pgs_cons (B.pg hi ho) (pgs_cons (B.pg hj ho2) (pgs_cons (B.pg hl ho3) pgs_nil)))) hs hw h1, he C σ H0 H S _ fun v H1 H1' e1 S1 r1 => by
    cases r1 with
    | tup t1 t2 =>
      cases t2 with
      | cons q1 t3 =>
        obtain ⟨v2, v3, rfl, q2, q3⟩ := t3.two
        exact ⟨_, _, rfl, Evl.ex_t S1.ex t1, rfl, _, _, rfl, v2, _, rfl, v3, _, rfl, rfl, F.nx _ _ H1 H1' e1 (((S1.set q1 (Sl.nb_ok hb)).set q2 (Sl.nb_ok hb2)).set q3 (Sl.nb_ok hb3)) h⟩⟩
end
end Rg
namespace Rg
open PySem PySem.Spec PyProof.Rows L2

/-! ### a def by its body -/
def Ar.sl : Ar → Sl
  | .sh d => .sh d
  | .ob b => .ob b
def obsL : Rho → List Ob
  | [] => []
  | .ob b :: r => b :: obsL r
  | .emp :: r => obsL r
  | .sh _ :: r => obsL r
  | .ol _ :: r => obsL r
def rho0 (n : Nat) (as : List Ar) : Rho := as.map Ar.sl ++ List.replicate (n - as.length) .emp
def deOf (n : Nat) (r : Res) : DE where
  nx := fun ρ => r = .ret .non (obsL (ρ.take n))
  rt := fun d ρ => r = .ret d (obsL (ρ.take n))
  ro := fun b ρ => r = .new b (obsL (ρ.take n)) ∨ r = .ret b.d (obsL (ρ.take n))
  ex := fun C fs ρ => r = .err C fs (obsL (ρ.take n))
section
variable {K : PySem.W.Frag} {H0 H : Hp}
theorem ArL.length : ∀ {vs : List V} {as : List Ar}, ArL K H0 H vs as → vs.length = as.length
  | _, _, .nil => rfl
  | _, _, .sh _ r => congrArg Nat.succ (ArL.length r)
  | _, _, .ob _ _ _ r => congrArg Nat.succ (ArL.length r)
theorem mem_bsOf : ∀ {vs : List V} {as : List Ar} {off : Nat} {q : Nat × Addr}, q ∈ bsOf off vs as → ∃ j b, q.1 = off + j ∧ as[j]? = some (.ob b) ∧ vs[j]? = some (.ref q.2)
  | [], as, off, q, h => by
    cases as <;> cases h
  | v :: vs, [], off, q, h => by
    cases v <;> cases h
  | v :: vs, a :: as, off, q, h => by
    have step : ∀ {q : Nat × Addr}, q ∈ bsOf (off + 1) vs as → ∃ j b, q.1 = off + j ∧ (a :: as)[j]? = some (.ob b) ∧ (v :: vs)[j]? = some (.ref q.2) := fun {q} h => by
      obtain ⟨j, b, h1, h2, h3⟩ := mem_bsOf h
      exact ⟨j + 1, b, by omega, by simpa using h2, by simpa using h3⟩
    cases a with
    | sh d => exact step (by cases v <;> exact h)
    | ob b =>
      cases v with
      | ref p =>
        rcases List.mem_cons.mp (show q ∈ (off, p) :: bsOf (off + 1) vs as from h) with e | h
        · subst e
          exact ⟨0, b, rfl, rfl, rfl⟩
        · exact step h
      | _ => exact step h
theorem ArL.at : ∀ {vs : List V} {as : List Ar} {off i : Nat} {a : Ar}, ArL K H0 H vs as → as[i]? = some a → ∃ v, vs[i]? = some v ∧ match a with
    | .sh d => Rp K H0 v d
    | .ob b => ∃ p o, v = .ref p ∧ H p = some o ∧ H0 p = none ∧ RpO K H0 o b ∧ (off + i, p) ∈ bsOf off vs as
  | _, _, off, i, a, .nil, e => by simp at e
  | _, _, off, 0, a, .sh r t, e => by
    simp at e
    subst e
    exact ⟨_, rfl, r⟩
  | _, _, off, 0, a, .ob h1 h2 h3 t, e => by
    simp at e
    subst e
    exact ⟨_, rfl, _, _, rfl, h1, h2, h3, List.mem_cons_self⟩
  | v :: vs, _ :: as, off, i + 1, a, .sh r t, e => by
    obtain ⟨u, e1, e2⟩ := ArL.at (off := off + 1) (i := i) t (by simpa using e)
    refine ⟨u, by simpa using e1, ?_⟩
    cases a with
    | sh d => exact e2
    | ob b =>
      obtain ⟨p, o, q1, q2, q3, q4, q5⟩ := e2
      refine ⟨p, o, q1, q2, q3, q4, ?_⟩
      have z : (off + (i + 1), p) ∈ bsOf (off + 1) vs as := by
        rw [show off + (i + 1) = off + 1 + i by omega]
        exact q5
      cases v <;> exact z
  | _ :: vs, _ :: as, off, i + 1, a, .ob h1 h2 h3 t, e => by
    obtain ⟨u, e1, e2⟩ := ArL.at (off := off + 1) (i := i) t (by simpa using e)
    refine ⟨u, by simpa using e1, ?_⟩
    cases a with
    | sh d => exact e2
    | ob b =>
      obtain ⟨p, o, q1, q2, q3, q4, q5⟩ := e2
      refine ⟨p, o, q1, q2, q3, q4, List.mem_cons_of_mem _ ?_⟩
      rw [show off + (i + 1) = off + 1 + i by omega]
      exact q5
theorem rho0_at {n i : Nat} {as : List Ar} {s : Sl} (h : (rho0 n as)[i]? = some s) : (∃ a, as[i]? = some a ∧ s = a.sl) ∨ s = .emp := by
  unfold rho0 at h
  by_cases hi : i < as.length
  · rw [List.getElem?_append_left (by simpa using hi), List.getElem?_map, List.getElem?_eq_getElem hi] at h
    exact .inl ⟨_, List.getElem?_eq_getElem hi, (Option.some.inj h).symm⟩
  · rw [List.getElem?_append_right (by simpa using hi), List.getElem?_replicate] at h
    split at h
    · exact .inr (Option.some.inj h).symm
    · cases h
theorem start_at {N : List Str} {vs : List V} {i : Nat} {v : V} (h : vs[i]? = some v) : (L2.start N vs)[i]? = some (some v) := by
  have hi : i < vs.length := (List.getElem?_eq_some_iff.mp h).1
  unfold L2.start
  rw [List.getElem?_append_left (by simpa using hi), List.getElem?_map, h]
  rfl
theorem Sat.start {N : List Str} {vs : List V} {as : List Ar} (e : Ex H0 H) (h : ArL K H0 H vs as) (hn : ((bsOf 0 vs as).map (·.2)).Nodup) (hl : as.length ≤ N.length) : Sat K ⟨H0, H, bsOf 0 vs as, N.length⟩ (rho0 N.length as) (L2.start N vs) H0 H := by
  have at0 : ∀ {i : Nat} {a : Ar}, as[i]? = some a → ∃ v, vs[i]? = some v ∧ match a with
      | .sh d => Rp K H0 v d
      | .ob b => ∃ p o, v = .ref p ∧ H p = some o ∧ H0 p = none ∧ RpO K H0 o b ∧ (i, p) ∈ bsOf 0 vs as := fun {i a} e => by
    have z := ArL.at (off := 0) h e
    simpa using z
  refine ⟨?_, ?_, Evl.Ex.refl _, e, fun _ _ h _ => h, fun q hq => ?_, fun _ _ h => h, fun i s es => ?_, fun i j p s t es et os ot xs xt => ?_⟩
  · unfold rho0 L2.start
    simp only [List.length_append, List.length_map, List.length_replicate]
    rw [h.length]
  · unfold rho0
    simp only [List.length_append, List.length_map, List.length_replicate]
    omega
  · obtain ⟨j, b, h1, h2, h3⟩ := mem_bsOf hq
    have h1' : q.1 = j := by omega
    obtain ⟨v, e1, p, o, rfl, e2, _⟩ := at0 h2
    rw [h3] at e1
    cases e1
    have ne : H q.2 ≠ none := by rw [e2]; simp
    refine ⟨ne, ne, ⟨.ob b, ?_, rfl⟩, ?_⟩
    · unfold rho0
      have hj : j < as.length := (List.getElem?_eq_some_iff.mp h2).1
      rw [h1', List.getElem?_append_left (by simpa using hj), List.getElem?_map, h2]
      rfl
    · rw [h1']
      exact start_at h3
  · rcases rho0_at es with ⟨a, h1, rfl⟩ | rfl
    · obtain ⟨v, e1, e2⟩ := at0 h1
      rw [start_at e1]
      cases a with
      | sh d => exact ⟨v, rfl, e2⟩
      | ob b =>
        obtain ⟨p, o, rfl, q1, q2, q3, q4⟩ := e2
        exact ⟨p, o, rfl, q1, q2, q3, q4⟩
    · trivial
  · have own : ∀ {i : Nat} {s : Sl}, (rho0 N.length as)[i]? = some s → s.own = true → (L2.start N vs)[i]? = some (some (.ref p)) → (i, p) ∈ bsOf 0 vs as := fun {i s} e o x => by
      rcases rho0_at e with ⟨a, h1, rfl⟩ | rfl
      · obtain ⟨v, e1, e2⟩ := at0 h1
        cases a with
        | sh d => cases o
        | ob b =>
          obtain ⟨p', o', rfl, q1, q2, q3, q4⟩ := e2
          rw [start_at e1] at x
          cases x
          exact q4
      · cases o
    have m1 := own es os xs
    have m2 := own et ot xt
    by_cases hij : i = j
    · exact hij
    · obtain ⟨i1, g1, k1⟩ := List.mem_iff_getElem.mp m1
      obtain ⟨i2, g2, k2⟩ := List.mem_iff_getElem.mp m2
      have z : i1 = i2 := (List.getElem_inj (xs := (bsOf 0 vs as).map (·.2)) (h₀ := by simpa using g1) (h₁ := by simpa using g2) hn).mp (by simp [k1, k2])
      subst z
      rw [k1] at k2
      exact absurd (congrArg Prod.fst k2) hij
theorem outs_of {C : En} {ρ : Rho} {σ : L2.St} {H0' H' : Hp} (S : Sat K C ρ σ H0' H') : ∀ {vs : List V} {as : List Ar} {off : Nat}, (∀ q, q ∈ bsOf off vs as → q ∈ C.bs) → (∀ q ∈ C.bs, off ≤ q.1 → q.1 < off + vs.length → q ∈ bsOf off vs as) → vs.length = as.length → off + vs.length ≤ ρ.length → Outs K H0' H' (bsOf off vs as) (obsL ((ρ.drop off).take vs.length))
  | [], [], off, _, _, _, _ => by
    show Outs K H0' H' [] (obsL ((ρ.drop off).take 0))
    rw [List.take_zero]
    exact .nil
  | v :: vs, a :: as, off, h1, h2, hl, hz => by
    have hlt : off < ρ.length := by simp only [List.length_cons] at hz; omega
    have ed : ρ.drop off = ρ[off] :: ρ.drop (off + 1) := List.drop_eq_getElem_cons hlt
    have eg : ρ[off]? = some ρ[off] := List.getElem?_eq_getElem hlt
    have hl' : vs.length = as.length := by simpa using hl
    have hz' : off + 1 + vs.length ≤ ρ.length := by simp only [List.length_cons] at hz; omega
    have noidx : ∀ q, q ∈ bsOf (off + 1) vs as → off + 1 ≤ q.1 := fun q hq => by
      obtain ⟨j, b, e, _⟩ := mem_bsOf hq
      omega
    by_cases hb : ∃ b p, a = .ob b ∧ v = .ref p
    · obtain ⟨b, p, rfl, rfl⟩ := hb
      have eb : bsOf off (.ref p :: vs) (.ob b :: as) = (off, p) :: bsOf (off + 1) vs as := rfl
      obtain ⟨_, _, ⟨s, hs1, hs2⟩, hx⟩ := S.bk (off, p) (h1 _ (by rw [eb]; exact List.mem_cons_self))
      have hs1 : ρ[off]? = some s := hs1
      have hx : σ[off]? = some (some (.ref p)) := hx
      have q := S.sl off s hs1
      cases s with
      | emp => cases hs2
      | sh d => cases hs2
      | ol b' => cases hs2
      | ob b' =>
        obtain ⟨p', o, q1, q2, q3, q4, q5⟩ := q
        rw [hx] at q1
        cases q1
        rw [eg] at hs1
        have er : obsL ((ρ.drop off).take (V.ref p :: vs).length) = b' :: obsL ((ρ.drop (off + 1)).take vs.length) := by
          rw [ed, Option.some.inj hs1]
          rfl
        rw [er, eb]
        exact .cons q2 q4 (outs_of S (fun q hq => h1 q (by rw [eb]; exact List.mem_cons_of_mem _ hq)) (fun q hq l1 l2 => by
          have z := h2 q hq (by omega) (by simp only [List.length_cons]; omega)
          rw [eb] at z
          rcases List.mem_cons.mp z with e | z
          · rw [e] at l1
            exact absurd (show off + 1 ≤ off from l1) (by omega)
          · exact z) hl' hz')
    · have eb : bsOf off (v :: vs) (a :: as) = bsOf (off + 1) vs as := by
        cases a with
        | sh d => cases v <;> rfl
        | ob b =>
          cases v with
          | ref p => exact absurd ⟨b, p, rfl, rfl⟩ hb
          | _ => rfl
      have nob : ∀ b', ρ[off] ≠ .ob b' := fun b' e => by
        rw [e] at eg
        obtain ⟨p, o, q1, q2, q3, q4, q5⟩ := S.sl off _ eg
        have z := h2 (off, p) q5 (Nat.le_refl _) (by simp only [List.length_cons]; omega)
        rw [eb] at z
        have := noidx _ z
        exact absurd (show off + 1 ≤ off from this) (by omega)
      have er : obsL ((ρ.drop off).take (v :: vs).length) = obsL ((ρ.drop (off + 1)).take vs.length) := by
        rw [ed]
        show obsL (ρ[off] :: (ρ.drop (off + 1)).take vs.length) = _
        cases q : ρ[off] with
        | ob b' => exact absurd q (nob b')
        | _ => rfl
      rw [er, eb]
      exact outs_of S (fun q hq => h1 q (by rw [eb]; exact hq)) (fun q hq l1 l2 => by
        have z := h2 q hq (by omega) (by simp only [List.length_cons]; omega)
        rw [eb] at z
        exact z) hl' hz'
end
def okNames (N : List Str) (is : List Nat) (sc : Scope) (gs : List Str) : Bool := is.all (fun i => match N[i]? with
    | some n => (match sc.names.lookup n with
      | some .local => true
      | some .cell => true
      | _ => false) && (!(n == ("__debug__" : Str)) && !(n == ("__classdict__" : Str)))
    | none => true) && gs.all fun n => (match sc.names.lookup n with
    | some .globalImplicit => true
    | _ => false) && (!(n == ("__debug__" : Str)) && !(n == ("__name__" : Str)))
section
variable {P : Program} {w : World} {K : PySem.W.Frag} {mg : Str → Option Value} {base : Heap} {g : Bool} {x qual : Str} {params : Arguments} {body : List Stmt} {scope : Scope} {f : Addr}
theorem df_of {N ps : List Str} {is : List Nat} {gs : List Str} {cdv : Value} {A : Around} {outer : List Env} {s : Shared} {H : Hp} {E : XK} (S : FnScope N ps scope) (hn : okNames N is scope gs = true) : Df P w K mg base (cxOf (L2.CX P w) P w K mg base N qual scope f cdv A outer s H E) N is gs := by
  obtain ⟨h1, h2⟩ := Bool.and_eq_true_iff.mp hn
  have loc : ∀ (i : Nat), is.contains i = true → ∀ n : Str, N[i]? = some n → Loc scope n ∧ (n == ("__debug__" : Str)) = false ∧ (n == ("__classdict__" : Str)) = false := fun i hi n e => by
    have z := List.all_eq_true.mp h1 i (by simpa using hi)
    rw [e] at z
    obtain ⟨z1, z2⟩ := Bool.and_eq_true_iff.mp z
    obtain ⟨z3, z4⟩ := Bool.and_eq_true_iff.mp z2
    refine ⟨?_, by simpa using z3, by simpa using z4⟩
    split at z1
    · exact .inl (by assumption)
    · exact .inr (by assumption)
    · cases z1
  refine { hP := rfl, hw := rfl, hK := rfl, hm := rfl, hb := rfl, hN := rfl, nd := S.nd, vis := fun i hi n e => ?_, gl := fun i n e => ?_, calm := rfl, po := passes_of rfl, stk := rfl, frm := rfl, lo := fun i hi n e => ⟨(loc i hi n e).1, .inl rfl⟩ }
  · obtain ⟨l, d1, d2⟩ := loc i hi n e
    refine ⟨?_, d1, d2⟩
    rcases l with l | l
    · exact .inl l
    · exact .inr (.inl l)
  · have z := List.all_eq_true.mp h2 n (List.mem_of_getElem? e)
    obtain ⟨z1, z2⟩ := Bool.and_eq_true_iff.mp z
    obtain ⟨z3, z4⟩ := Bool.and_eq_true_iff.mp z2
    refine ⟨?_, by simpa using z3, fun q => ?_⟩
    · show scope.names.lookup n = some .globalImplicit
      split at z1
      · assumption
      · cases z1
    · rw [q] at z4
      simp at z4
/-- THE RULE for a def: its body by the data layer -/
theorem Fn.mk' {N ps : List Str} (is : List Nat) (gs : List Str) {k : Nat} {R : Ct} {dvs : List V} {kws : List (Str × V)} {fd : FuncData} (F : FunD K x qual params body scope dvs kws f fd) (S : FnScope N ps scope) (hn : okNames N is scope gs = true) (hl : ∀ as r, R as r → as.length = ps.length)
    (hb : ∀ (X : Cx), Df P w K mg base X N is gs → X.env.scope = scope → Room k X.A → (g = true → X.A.guards = some []) → ∀ as r, R as r → SB X body (rho0 N.length as) (deOf ps.length r)) : Fn P w K mg base g (k + 1) f fd ps (spOf K R) := by
  obtain ⟨oc, od, dV, kV, doc, pm, an, cdv, ct, osl, rfl, lk, hcd, _, _⟩ := F.ex
  have len : ∀ vs H Q E, spOf K R vs H Q E → vs.length = ps.length := fun vs H Q E h => by
    obtain ⟨H0, as, r, _, h2, _, h4, _⟩ := h
    rw [h2.length]
    exact hl as r h4
  refine ⟨len, fun A outer s H args us vs Q E hg hr e0 hbt rv hsp => ?_⟩
  have hvl := len _ _ _ _ hsp
  have bk : ∀ b o, base.get? b = some o → s.heap.get? b = some o := fun b o e => (e0.bs b o e).1
  have KX : K.In s.heap := e0.mod.kin.keeps bk
  have hkind : ∀ y ∈ ps.zip us, scope.names.lookup y.1 = some .local ∨ (scope.names.lookup y.1 = some .cell ∧ ((cellsFrom (s.heap.objs.size + 1) scope.names []).lookup y.1).isSome = true) := fun y hy => by
    rcases S.par y.1 (List.of_mem_zip (a := y.1) (b := y.2) hy).1 with q | q
    · exact .inl q
    · exact .inr ⟨q, PySem.W.cellsFrom_some _ _ _ (.inl q)⟩
  refine codeAny_call_function hr.depth (KX _ _ lk) rfl S.co S.gen rfl (PySem.W.codeRec_of KX hcd) (hbt _ _ _ _ ?_)
  refine wpAny_newFunctionEnv_cells S.kind hkind fun env he s1 x1 => ?_
  subst he
  refine ⟨(e0.mod.nolimit.keeps bk).keeps x1.toInCall.keep, codeAny_func ?_⟩
  obtain ⟨H0, as, r, h1, h2, h3, h4, h5⟩ := hsp
  have hal : as.length = ps.length := hl as r h4
  have hpN : ps.length ≤ N.length := by
    have z := congrArg List.length S.pre
    rw [List.length_take] at z
    omega
  have B := df_of (P := P) (w := w) (K := K) (mg := mg) (base := base) (qual := qual) (f := f) (is := is) (cdv := cdv) (A := A) (outer := outer) (s := s) (H := H) (E := E) S hn
  have J : Inv (cxOf (L2.CX P w) P w K mg base N qual scope f cdv A outer s H E) [] (start N vs) H s1 := inv_start S hr.hd e0 hvl rv x1
  have S0 : Sat K ⟨H0, H, bsOf 0 vs as, N.length⟩ (rho0 N.length as) (L2.start N vs) H0 H := Sat.start h1 h2 h3 (by omega)
  have outs : ∀ {ρ' : Rho} {σ' : L2.St} {H0' H' : Hp}, Sat K ⟨H0, H, bsOf 0 vs as, N.length⟩ ρ' σ' H0' H' → Back K H0 H (bsOf 0 vs as) (obsL (ρ'.take ps.length)) H0' H' := fun {ρ' σ' H0' H'} S' => by
    refine ⟨S'.e0, S'.ex, S'.keep, S'.nw, ?_⟩
    have z := outs_of S' (vs := vs) (as := as) (off := 0) (fun q hq => hq) (fun q hq _ _ => hq) h2.length (by rw [Nat.zero_add, hvl, S'.n]; exact hpN)
    rw [hvl, List.drop_zero] at z
    exact z
  have run := hb _ B rfl (hr.deeper _) hg as r h4 ⟨H0, H, bsOf 0 vs as, N.length⟩ (L2.start N vs) H0 H { nx := fun _ H' => Q .non H', rt := Q } (fun cls d _ H' => E cls d H') S0 ?_
  · obtain ⟨t, ht, hq⟩ := run
    refine wpAny_mono (ht.run [] s1 (L2.start N vs) H _ J hq) (fun fl s' hs => ?_) fun e s' hs => hs
    cases fl with
    | ret u =>
      obtain ⟨v, σ', H', J', rv', q⟩ := hs
      exact ⟨v, H', J'.os, J'.bare, J'.base, J'.hok, rv', q⟩
    | next =>
      obtain ⟨σ', H', J', q⟩ := hs
      exact ⟨V.non, H', J'.os, J'.bare, J'.base, J'.hok, rfl, q⟩
    | brk =>
      obtain ⟨σ', H', J', q⟩ := hs
      exact False.elim q
    | cont =>
      obtain ⟨σ', H', J', q⟩ := hs
      exact False.elim q
  · refine ⟨fun ρ' σ' H0' H' ex S' q => ?_, fun ρ' σ' H0' H' ex S' q => q.elim, fun ρ' σ' H0' H' ex S' q => q.elim, fun ρ' σ' H0' H' v d ex S' rp q => ?_, fun ρ' σ' H0' H' p b ex S' n q => ?_, takes_of rfl rfl rfl rfl, fun ρ' σ' H0' H' D d fs ex S' n q => ?_⟩
    · have q : r = .ret .non (obsL (ρ'.take ps.length)) := q
      rw [q] at h5
      exact h5 .non H0' H' (outs S') .non
    · have q : r = .ret d (obsL (ρ'.take ps.length)) := q
      rw [q] at h5
      exact h5 v H0' H' (outs S') rp
    · rcases (show r = .new b (obsL (ρ'.take ps.length)) ∨ r = .ret b.d (obsL (ρ'.take ps.length)) from q) with q | q
      · rw [q] at h5
        obtain ⟨o, n1, n2, n3, n4, n5⟩ := n
        exact h5 p o H0' H' (outs S') n1 n3 n2 n4
      · rw [q] at h5
        obtain ⟨H1, e1, S1, r1⟩ := n.share S'
        exact h5 _ H1 H' (outs S1) r1
    · have q : r = .err D fs (obsL (ρ'.take ps.length)) := q
      rw [q] at h5
      exact h5 d H0' H' (outs S') n
/-- .. called by its name -/
theorem Cal.of {N ps : List Str} (is : List Nat) (gs : List Str) {k : Nat} {R : Ct} (F : ∃ fd, FunD K x qual params body scope [] [] f fd) (hm : mg x = some (.ref f)) (S : FnScope N ps scope) (hn : okNames N is scope gs = true) (hl : ∀ as r, R as r → as.length = ps.length)
    (hbind : ∀ (kV doc pm : Value) (an : Option Addr) (cdv ct : Value) (us : List Value), us.length = ps.length → bindArgs (PySem.W.fnOf x qual params body scope .none kV doc pm an cdv ct) ⟨us, []⟩ = pure (ps.zip us))
    (hb : ∀ (X : Cx), Df P w K mg base X N is gs → X.env.scope = scope → Room k X.A → (g = true → X.A.guards = some []) → ∀ as r, R as r → SB X body (rho0 N.length as) (deOf ps.length r)) : Cal P w K mg base g x (k + 1) R := by
  obtain ⟨fd, F⟩ := F
  exact ⟨f, fd, ps, Fn.mk' is gs F S hn hl hb, hm, F.kp, F.bindsN hbind⟩
end
end Rg
namespace Rg
open PySem PySem.Spec PyProof.Rows L2

/-! ### what a loop walks -/
def wI (X : Cx) (tg iter : Expr) : TI := fun σ H R => ∃ t, PI X tg iter t ∧ t σ H R
theorem pi_w {X : Cx} {tg iter : Expr} : PI X tg iter (wI X tg iter) := ⟨fun pins s σ H R I h => by obtain ⟨t, h1, h2⟩ := h; exact h1.run pins s σ H R I h2⟩
/-- the iterator gives ds, one by one -/
structure WalkD (K : PySem.W.Frag) (H0 : Hp) (J : It) (ds : List D) : Prop where
  goes : ∀ (i : Nat) (H0' H : Hp), Ex H0 H0' → Ex H0' H → i < ds.length → J.go i H
  stops : ∀ (H0' H : Hp), Ex H0 H0' → Ex H0' H → J.stop ds.length H
  yields : ∀ (C : En) (ρ : Rho) (σ : L2.St) (i : Nat) (H0' H : Hp) (x : V) (H' : Hp) (d : D), Ex H0 H0' → Sat K C ρ σ H0' H → ds[i]? = some d → J.yld i H x H' → ∃ H0'', Ex H0' H0'' ∧ Sat K C ρ σ H0'' H' ∧ Rp K H0'' x d ∧ (∀ (a : Addr) (o : HO), H a = some o → H' a = some o) ∧ ∀ a : Addr, H a ≠ none → H0' a = none → H0'' a = none
def EI (X : Cx) (tg iter : Expr) (ρ : Rho) (ds : List D) (ρ' : Rho) : Prop := ∀ (C : En) (σ : L2.St) (H0 H : Hp), Sat X.K C ρ σ H0 H → ∀ R : It → Hp → Prop, (∀ J H0' H', Ex H0 H0' → Sat X.K C ρ' σ H0' H' → WalkD X.K H0' J ds → R J H') → wI X tg iter σ H R
theorem WalkD.of {K : PySem.W.Frag} {H0 : Hp} {J : It} {ds : List D} {n : Nat} {G : Hp → Prop} {Y : Nat → Hp → V → Hp → Prop} (wk : Walk J n G Y) (hn : n = ds.length) (hG : ∀ H0' H, Ex H0 H0' → Ex H0' H → G H) (hY : ∀ (i : Nat) (H0' H : Hp) (x : V) (H' : Hp) (d : D), Ex H0 H0' → ds[i]? = some d → Y i H x H' → H' = H ∧ Rp K H0' x d) : WalkD K H0 J ds := by
  subst hn
  refine ⟨fun i H0' H e1 e2 hi => wk.goes i H hi (hG H0' H e1 e2), fun H0' H e1 e2 => wk.stops H (hG H0' H e1 e2), fun C ρ σ i H0' H x H' d e1 S e y => ?_⟩
  have hi : i < ds.length := (List.getElem?_eq_some_iff.mp e).1
  obtain ⟨h1, h2⟩ := hY i H0' H x H' d e1 e (wk.yields i H x H' hi (hG H0' H e1 S.ex) y)
  subst h1
  exact ⟨H0', Evl.Ex.refl _, S, h2, fun _ _ z => z, fun _ _ z => z⟩
/-- .. pairs, each a new tuple -/
theorem WalkD.ofP {K : PySem.W.Frag} {H0 : Hp} {J : It} {n : Nat} {G : Hp → Prop} {xs ys : Nat → Option V} {ds es : Nat → D} (wk : Walk J n G (YPair xs ys)) (hG : ∀ H0' H, Ex H0 H0' → Ex H0' H → G H) (hx : ∀ i v, i < n → xs i = some v → Rp K H0 v (ds i)) (hy : ∀ i v, i < n → ys i = some v → Rp K H0 v (es i)) : WalkD K H0 J ((List.range n).map fun i => .tup [ds i, es i]) := by
  refine ⟨fun i H0' H e1 e2 hi => wk.goes i H (by simpa using hi) (hG H0' H e1 e2), fun H0' H e1 e2 => by simpa using wk.stops H (hG H0' H e1 e2), fun C ρ σ i H0' H x H' d e1 S e y => ?_⟩
  have hi : i < n := by simpa using (List.getElem?_eq_some_iff.mp e).1
  obtain ⟨T, u, v, rfl, hT, rfl, h1, h2⟩ := wk.yields i H x H' hi (hG H0' H e1 S.ex) y
  have ed : d = .tup [ds i, es i] := by
    rw [List.getElem?_map, List.getElem?_range hi] at e
    exact (Option.some.inj e).symm
  subst ed
  have h0 := S.fresh0 hT
  refine ⟨_, Evl.Ex.new h0, S.new hT, .tup (.inl (.inl upd_same)) (.cons (((hx i u hi h1).mono e1).mono (Evl.Ex.new h0)) (.cons (((hy i v hi h2).mono e1).mono (Evl.Ex.new h0)) .nil)), fun a o z => ?_, fun a z1 z2 => ?_⟩
  · rw [upd_ne (ne_of_none z hT)]
    exact z
  · have ha : a ≠ T := fun q => z1 (by rw [q]; exact hT)
    rw [upd_ne ha]
    exact z2
section
variable {P0 : Program} {w : World} {K : PySem.W.Frag} {mg : Str → Option Value} {base : Heap} {X : Cx} {ρ ρ1 ρ2 ρ3 : Rho} {a b c e tg iter : Expr} {x y z d : D} {pos : Pos} {N : List Str} {is : List Nat} {gs : List Str} {P : DE} {ds : List D}
theorem EI.lst (h : ED X e ρ (.lst ds) ρ1) : EI X tg e ρ ds ρ1 := fun C σ H0 H S R q => ⟨_, pi_list pe_w, h C σ H0 H S _ fun v H1 H1' e1 S1 r1 => by
  cases r1 with
  | lst h1 h2 => exact ⟨_, rfl, ⟨_, Evl.ex_l S1.ex h1⟩, q _ H1 H1' e1 S1 (.of walk_list h2.length (fun H0' H' a1 a2 => Evl.ex_l a2 (Evl.ex_l a1 h1)) fun i H0' H' x H'' d a1 a2 yy => by
      obtain ⟨y1, y2⟩ := yy
      obtain ⟨u, e1, e2⟩ := h2.get a2
      rw [y2] at e1
      cases e1
      exact ⟨y1, e2.mono a1⟩)⟩⟩
theorem EI.tup (h : ED X e ρ (.tup ds) ρ1) : EI X tg e ρ ds ρ1 := fun C σ H0 H S R q => ⟨_, pi_tup pe_w, h C σ H0 H S _ fun v H1 H1' e1 S1 r1 => by
  cases r1 with
  | tup h1 h2 => exact ⟨_, rfl, ⟨_, Evl.ex_t S1.ex h1⟩, q _ H1 H1' e1 S1 (.of walk_tup h2.length (fun H0' H' a1 a2 => Evl.ex_t a2 (Evl.ex_t a1 h1)) fun i H0' H' x H'' d a1 a2 yy => by
      obtain ⟨y1, y2⟩ := yy
      obtain ⟨u, e1, e2⟩ := h2.get a2
      rw [y2] at e1
      cases e1
      exact ⟨y1, e2.mono a1⟩)⟩⟩
def chars (s : Str) : List D := s.cps.toList.map fun c => .str ⟨#[c]⟩
theorem EI.str {s : Str} (h : ED X e ρ (.str s) ρ1) : EI X tg e ρ (chars s) ρ1 := fun C σ H0 H S R q => ⟨_, pi_str pe_w, h C σ H0 H S _ fun v H1 H1' e1 S1 r1 => by
  cases r1
  exact ⟨_, rfl, q _ H1 H1' e1 S1 (.of walk_str (by unfold chars; simp) (fun _ _ _ _ => trivial) fun i H0' H' x H'' d a1 a2 yy => by
    obtain ⟨y1, c, y2, rfl⟩ := yy
    refine ⟨y1, ?_⟩
    unfold chars at a2
    rw [List.getElem?_map, Array.getElem?_toList, y2] at a2
    cases a2
    exact .str _)⟩⟩
def rngD (lo : Int) (n : Nat) : List D := (List.range n).map fun i => .int (lo + (i : Nat))
theorem EI.rng1 {j : Int} (B : Bd P0 w K mg base X N is gs) (j0 : Nat) (hg : gs[j0]? = some "range") (hm : mg "range" = none) (h : ED X a ρ (.int j) ρ1) (hj : -(2 ^ 62) ≤ j ∧ j < 2 ^ 62) {np : Pos} (hs : starEach [a] X.env = (false, eval a X.env) :: starEach [] X.env := by rfl) : EI X tg (.Call (.Name "range" np) [a] [] pos) ρ (rngD 0 j.toNat) ρ1 := fun C σ H0 H S R q =>
  ⟨_, pi_range1 (B.g j0 hg) (B.m hm) pa_w hs, EA.cons h .nil hs C σ H0 H S _ fun vs H1 H1' e1 S1 r1 => by
    obtain ⟨v, rfl, r⟩ := r1.one
    cases r
    refine ⟨j, rfl, hj.1, hj.2, q _ H1 H1' e1 S1 (.of walk_range (by unfold rngD; simp) (fun _ _ _ _ => trivial) fun i H0' H' x H'' d a1 a2 yy => ?_)⟩
    obtain ⟨y1, rfl⟩ := yy
    refine ⟨y1, ?_⟩
    have hi := (List.getElem?_eq_some_iff.mp a2).1
    unfold rngD at a2 hi
    rw [List.length_map, List.length_range] at hi
    rw [List.getElem?_map, List.getElem?_range hi] at a2
    cases a2
    exact .int _⟩
theorem EI.rng2 {i0 j : Int} (B : Bd P0 w K mg base X N is gs) (j0 : Nat) (hg : gs[j0]? = some "range") (hm : mg "range" = none) (h : ED X a ρ (.int i0) ρ1) (h2 : ED X b ρ1 (.int j) ρ2) (hj : -(2 ^ 62) ≤ i0 ∧ i0 < 2 ^ 62 ∧ -(2 ^ 62) ≤ j ∧ j < 2 ^ 62) {np : Pos} (hs : starEach [a, b] X.env = (false, eval a X.env) :: starEach [b] X.env := by rfl) (hs2 : starEach [b] X.env = (false, eval b X.env) :: starEach [] X.env := by rfl) : EI X tg (.Call (.Name "range" np) [a, b] [] pos) ρ (rngD i0 (j - i0).toNat) ρ2 := fun C σ H0 H S R q =>
  ⟨_, pi_range2 (B.g j0 hg) (B.m hm) pa_w (by rw [hs, hs2]; rfl) hs2, EA.cons h (EA.cons h2 .nil hs2) hs C σ H0 H S _ fun vs H1 H1' e1 S1 r1 => by
    obtain ⟨v, u, rfl, r, r'⟩ := r1.two
    cases r
    cases r'
    refine ⟨i0, j, rfl, hj, q _ H1 H1' e1 S1 (.of walk_range (by unfold rngD; simp) (fun _ _ _ _ => trivial) fun i H0' H' x H'' d a1 a2 yy => ?_)⟩
    obtain ⟨y1, rfl⟩ := yy
    refine ⟨y1, ?_⟩
    have hi := (List.getElem?_eq_some_iff.mp a2).1
    unfold rngD at a2 hi
    rw [List.length_map, List.length_range] at hi
    rw [List.getElem?_map, List.getElem?_range hi] at a2
    cases a2
    exact .int _⟩
/-- (0, x), (1, y), .. -/
def numbered (ds : List D) : List D := (List.range ds.length).map fun i => .tup [.int (i : Nat), ds.getD i .non]
theorem EI.enumL {elts : List Expr} {kk : Nat} {tpos np : Pos} (B : Bd P0 w K mg base X N is gs) (j0 : Nat) (hg : gs[j0]? = some "enumerate") (hm : mg "enumerate" = none) (h : ED X a ρ (.lst ds) ρ1) (hs : starEach [a] X.env = (false, eval a X.env) :: starEach [] X.env := by rfl) : EI X (.Tuple elts kk tpos) (.Call (.Name "enumerate" np) [a] [] pos) ρ (numbered ds) ρ1 := fun C σ H0 H S R q =>
  ⟨_, pi_enum (B.g j0 hg) (B.m hm) pa_w hs, EA.cons h .nil hs C σ H0 H S _ fun vs H1 H1' e1 S1 r1 => by
    obtain ⟨v, rfl, r⟩ := r1.one
    cases r with
    | lst h1 h2 =>
      rename_i p xs
      refine ⟨p, xs, rfl, Evl.ex_l S1.ex h1, q _ H1 H1' e1 S1 ?_⟩
      have z := WalkD.ofP (K := X.K) (H0 := H1) (ds := fun i => .int (i : Nat)) (es := fun i => ds.getD i .non) (walk_enum (K := X.K) (a := p) (xs := xs)) (fun H0' H' a1 a2 => Evl.ex_l a2 (Evl.ex_l a1 h1)) (fun i v hi e => by cases e; exact .int _) fun i v hi e => by
        obtain ⟨d, g1, g2⟩ := h2.get' e
        rw [List.getD_eq_getElem?_getD, g1]
        exact g2
      rw [h2.length] at z
      exact z⟩

/-! ### targets -/
def SG (X : Cx) (tg : Expr) (d : D) (ρ : Rho) (R : Rho → Prop) : Prop := ∀ (C : En) (σ : L2.St) (H0 H : Hp) (v : V), Sat X.K C ρ σ H0 H → Rp X.K H0 v d → ∀ Q : L2.St → Hp → Prop, (∀ ρ' σ', Sat X.K C ρ' σ' H0 H → R ρ' → Q σ' H) → wG X tg v σ H Q
theorem SG.name (B : Df P0 w K mg base X N is gs) (i : Nat) {n : Str} {R : Rho → Prop} (hN : N[i]? = some n) (hb : Sl.nb ρ i = true) (h : R (ρ.set i (.sh d))) (ho : is.contains i = true := by rfl) : SG X (.Name n pos) d ρ R := fun C σ H0 H v S r Q q => ⟨_, B.pg hN ho, q _ _ (S.set r (Sl.nb_ok hb)) h⟩
theorem SG.two (B : Df P0 w K mg base X N is gs) (i j : Nat) {n m : Str} {np mp : Pos} {k : Nat} {d1 d2 : D} {R : Rho → Prop} (hi : N[i]? = some n) (hj : N[j]? = some m) (hb : Sl.nb ρ i = true) (hb2 : Sl.nb (ρ.set i (.sh d1)) j = true) (h : R ((ρ.set i (.sh d1)).set j (.sh d2))) (ho : is.contains i = true := by rfl) (ho2 : is.contains j = true := by rfl) : SG X (.Tuple [.Name n np, .Name m mp] k pos) (.tup [d1, d2]) ρ R := fun C σ H0 H v S r Q q =>
  ⟨_, pg_tup B.calm (pgs_cons (B.pg hi ho) (pgs_cons (B.pg hj ho2) pgs_nil)), by
    cases r with
    | tup t1 t2 =>
      obtain ⟨v1, v2, rfl, q1, q2⟩ := t2.two
      exact ⟨_, _, rfl, Evl.ex_t S.ex t1, rfl, v1, _, rfl, v2, _, rfl, rfl, q _ _ ((S.set q1 (Sl.nb_ok hb)).set q2 (Sl.nb_ok hb2)) h⟩⟩
/-- a loop over known data, by a word about the slots at each turn -/
theorem SD.for_ {body : List Stmt} (B : Df P0 w K mg base X N is gs) (Inv : Nat → Rho → Prop) (hi : EI X tg iter ρ ds ρ1) (h0 : Inv 0 ρ1) (hs : ∀ (i : Nat) (d : D) (ρ' : Rho), ds[i]? = some d → Inv i ρ' → SG X tg d ρ' fun ρ'' => SB X body ρ'' { P with nx := Inv (i + 1), ct := Inv (i + 1), bk := P.nx }) (hd : ∀ ρ', Inv ds.length ρ' → P.nx ρ')
    (hf : ∀ x, foldedSetIterable iter X.env x = pure x := by intro _; rfl) : SD X (.For tg iter body [] pos) ρ P := fun C σ H0 H E W0 S F => by
  refine ⟨_, ps_for B.po B.calm pi_w pg_w pss_w hf, hi C σ H0 H S _ fun J H1 H1' e1 S1 wk => ?_⟩
  have F1 := F.mono e1
  refine ⟨fun i m σ' H' => m = ds.length - i ∧ i ≤ ds.length ∧ ∃ ρ' H0', Ex H1 H0' ∧ Sat X.K C ρ' σ' H0' H' ∧ Inv i ρ', ⟨ds.length, by simp, Nat.zero_le _, ρ1, H1, Evl.Ex.refl _, S1, h0⟩, fun i m σ' H' W => ?_⟩
  obtain ⟨rfl, hi', ρ', H0', ex', S', I'⟩ := W
  by_cases hlt : i < ds.length
  · refine .inr ⟨wk.goes i H0' H' ex' S'.ex hlt, fun σ2 H2 => ∃ ρ2 H02, Ex H1 H02 ∧ Sat X.K C ρ2 σ2 H02 H2 ∧ Inv (i + 1) ρ2, fun σ2 H2 n2 => ⟨ds.length - (i + 1), by omega, rfl, hlt, n2⟩, fun x H2 y => ?_⟩
    obtain ⟨H02, ex2, S2, r2, _⟩ := wk.yields C ρ' σ' i H0' H' x H2 ds[i] ex' S' (List.getElem?_eq_getElem hlt) y
    refine hs i ds[i] ρ' (List.getElem?_eq_getElem hlt) I' C σ' H02 H2 x S2 r2 _ fun ρ3 σ3 S3 b3 => ?_
    have ex02 : Ex H1 H02 := ex'.trans ex2
    exact b3 C σ3 H02 H2 _ W0 S3 ⟨fun ρ4 σ4 H04 H4 x4 S4 n4 => ⟨ρ4, H04, ex02.trans x4, S4, n4⟩, fun ρ4 σ4 H04 H4 x4 S4 n4 => F1.nx ρ4 σ4 H04 H4 (ex02.trans x4) S4 n4, fun ρ4 σ4 H04 H4 x4 S4 n4 => ⟨ρ4, H04, ex02.trans x4, S4, n4⟩,
      fun ρ4 σ4 H04 H4 v4 d4 x4 S4 r4 n4 => F1.rt ρ4 σ4 H04 H4 v4 d4 (ex02.trans x4) S4 r4 n4, fun ρ4 σ4 H04 H4 p4 b4 x4 S4 r4 n4 => F1.ro ρ4 σ4 H04 H4 p4 b4 (ex02.trans x4) S4 r4 n4, F1.tk, fun ρ4 σ4 H04 H4 D4 d4 f4 x4 S4 r4 n4 => F1.ex ρ4 σ4 H04 H4 D4 d4 f4 (ex02.trans x4) S4 r4 n4⟩
  · have e : i = ds.length := by omega
    subst e
    exact .inl ⟨wk.stops H0' H' ex' S'.ex, F1.nx ρ' σ' H0' H' ex' S' (hd ρ' I')⟩
/-- a while: a word with a measure that falls -/
theorem SD.while_ {body : List Stmt} (B : Df P0 w K mg base X N is gs) (Inv : Nat → Rho → Prop) (m0 : Nat) (h0 : Inv m0 ρ) (hs : ∀ (m : Nat) (ρ' : Rho), Inv m ρ' → ∃ (k : Bool) (ρ2 : Rho), ET X c ρ' k ρ2 ∧ (k = true → SB X body ρ2 { P with nx := fun ρ3 => ∃ m', m' < m ∧ Inv m' ρ3, ct := fun ρ3 => ∃ m', m' < m ∧ Inv m' ρ3, bk := P.nx }) ∧ (k = false → P.nx ρ2)) : SD X (.While c body [] pos) ρ P := fun C σ H0 H E W0 S F => by
  refine ⟨_, ps_while B.po pt_w pss_w, fun m σ' H' => ∃ ρ' H0', Ex H0 H0' ∧ Sat X.K C ρ' σ' H0' H' ∧ Inv m ρ', ⟨m0, ρ, H0, Evl.Ex.refl _, S, h0⟩, fun m σ' H' W => ?_⟩
  obtain ⟨ρ', H0', ex', S', I'⟩ := W
  obtain ⟨k, ρ2, ht, h1, h2⟩ := hs m ρ' I'
  refine ht C σ' H0' H' S' _ fun H1 H1' e1 S1 => ?_
  have ex1 : Ex H0 H1 := ex'.trans e1
  cases k with
  | true =>
    refine ⟨fun σ2 H2 => ∃ m', m' < m ∧ ∃ ρ2 H02, Ex H0 H02 ∧ Sat X.K C ρ2 σ2 H02 H2 ∧ Inv m' ρ2, fun σ2 H2 n2 => n2, ?_⟩
    have F1 := F.mono ex1
    exact h1 rfl C σ' H1 H1' _ W0 S1 ⟨fun ρ4 σ4 H04 H4 x4 S4 n4 => by
        obtain ⟨m', hm', i'⟩ := n4
        exact ⟨m', hm', ρ4, H04, ex1.trans x4, S4, i'⟩, fun ρ4 σ4 H04 H4 x4 S4 n4 => F1.nx ρ4 σ4 H04 H4 x4 S4 n4, fun ρ4 σ4 H04 H4 x4 S4 n4 => by
        obtain ⟨m', hm', i'⟩ := n4
        exact ⟨m', hm', ρ4, H04, ex1.trans x4, S4, i'⟩,
      fun ρ4 σ4 H04 H4 v4 d4 x4 S4 r4 n4 => F1.rt ρ4 σ4 H04 H4 v4 d4 x4 S4 r4 n4, fun ρ4 σ4 H04 H4 p4 b4 x4 S4 r4 n4 => F1.ro ρ4 σ4 H04 H4 p4 b4 x4 S4 r4 n4, F1.tk, fun ρ4 σ4 H04 H4 D4 d4 f4 x4 S4 r4 n4 => F1.ex ρ4 σ4 H04 H4 D4 d4 f4 x4 S4 r4 n4⟩
  | false => exact F.nx ρ2 σ' H1 H1' ex1 S1 (h2 rfl)

/-! ### texts -/
theorem ED.m0 {o : Expr} {id : String} {name : Str} {apos : Pos} {s : Str} {r : V → List V → Hp → VK → Prop} (slot : Slot "str" name id) (ty : typeOf (.builtin id) = pure (.type "method_descriptor")) (rule : MtR X id r) (ho : ED X o ρ (.str s) ρ1)
    (hr : ∀ (C : En) (σ : L2.St) (H0 H : Hp), Sat X.K C ρ1 σ H0 H → ∀ Q : VK, (∀ w H0' H', Ex H0 H0' → Sat X.K C ρ1 σ H0' H' → Rp X.K H0' w d → Q w H') → r (.str s) [] H Q)
    (hb : attributeBase o name X.env (eval o X.env) = eval o X.env) (hl : (apos.endLine == pos.line) = true) : ED X (.Call (.Attribute o name apos) [] [] pos) ρ d ρ1 := fun C σ H0 H S Q q =>
  ⟨_, pe_m0 slot ty rule pe_w hb hl, ho C σ H0 H S _ fun v H1 H1' e1 S1 r1 => by
    cases r1
    exact ⟨⟨s, rfl⟩, hr C σ H1 H1' S1 _ fun w H2 H2' e2 S2 r2 => q w H2 H2' (e1.trans e2) S2 r2⟩⟩
theorem ED.m1 {o : Expr} {id : String} {name : Str} {apos : Pos} {s : Str} {r : V → List V → Hp → VK → Prop} (slot : Slot "str" name id) (ty : typeOf (.builtin id) = pure (.type "method_descriptor")) (rule : MtR X id r) (ho : ED X o ρ (.str s) ρ1) (he : ED X e ρ1 y ρ2)
    (hr : ∀ (C : En) (σ : L2.St) (H0 H : Hp) (u : V), Sat X.K C ρ2 σ H0 H → Rp X.K H0 u y → ∀ Q : VK, (∀ w H0' H', Ex H0 H0' → Sat X.K C ρ2 σ H0' H' → Rp X.K H0' w d → Q w H') → r (.str s) [u] H Q)
    (hs : starEach [e] X.env = [(false, eval e X.env)]) (hb : attributeBase o name X.env (eval o X.env) = eval o X.env) (hl : (apos.endLine == pos.line) = true) : ED X (.Call (.Attribute o name apos) [e] [] pos) ρ d ρ2 := fun C σ H0 H S Q q =>
  ⟨_, pe_m1 slot ty rule pe_w pe_w hs hb hl, ho C σ H0 H S _ fun v H1 H1' e1 S1 r1 => by
    cases r1
    exact ⟨⟨s, rfl⟩, he C σ H1 H1' S1 _ fun u H2 H2' e2 S2 r2 => hr C σ H2 H2' u S2 r2 _ fun w H3 H3' e3 S3 r3 => q w H3 H3' (e1.trans (e2.trans e3)) S3 r3⟩⟩
theorem ED.zfill {o : Expr} {apos : Pos} {s : Str} {i : Int} (ho : ED X o ρ (.str s) ρ1) (he : ED X e ρ1 (.int i) ρ2) (hp : PadOk i = true) (hs : starEach [e] X.env = [(false, eval e X.env)] := by rfl) (hb : attributeBase o "zfill" X.env (eval o X.env) = eval o X.env := by rfl) (hl : (apos.endLine == pos.line) = true := by rfl) :
    ED X (.Call (.Attribute o "zfill" apos) [e] [] pos) ρ (.str (Txt.zfill s i)) ρ2 := .m1 F.slot_str_zfill F.type_str_zfill mt_zfill ho he (fun C σ H0 H u S r Q q => by
  cases r
  exact ⟨s, i, rfl, rfl, hp, q _ H0 H (Evl.Ex.refl _) S (.str _)⟩) hs hb hl
theorem ED.partition {o : Expr} {apos : Pos} {s t : Str} (ho : ED X o ρ (.str s) ρ1) (he : ED X e ρ1 (.str t) ρ2) (ht : (t.length == 0) = false) (hz : s.length ≤ sizeLine) (hs : starEach [e] X.env = [(false, eval e X.env)] := by rfl) (hb : attributeBase o "partition" X.env (eval o X.env) = eval o X.env := by rfl) (hl : (apos.endLine == pos.line) = true := by rfl) :
    ED X (.Call (.Attribute o "partition" apos) [e] [] pos) ρ (.tup [.str (Txt.partition s t).1, .str (Txt.partition s t).2.1, .str (Txt.partition s t).2.2]) ρ2 := .m1 F.slot_str_partition F.type_str_partition mt_partition ho he (fun C σ H0 H u S r Q q => by
  cases r
  exact ⟨s, t, rfl, rfl, ht, hz, fun p hp => q _ _ _ (Evl.Ex.new (S.fresh0 hp)) (S.new hp) (.tup (.inl (.inl upd_same)) (.cons (.str _) (.cons (.str _) (.cons (.str _) .nil))))⟩) hs hb hl
theorem ED.join {o : Expr} {apos : Pos} {s : Str} {ys : List Str} (ho : ED X o ρ (.str s) ρ1) (he : ED X e ρ1 (.lst (ys.map .str)) ρ2) (hz : (ys.map (·.length)).sum + ys.length * s.length ≤ 16777216) (hs : starEach [e] X.env = [(false, eval e X.env)] := by rfl) (hb : attributeBase o "join" X.env (eval o X.env) = eval o X.env := by rfl) (hl : (apos.endLine == pos.line) = true := by rfl) :
    ED X (.Call (.Attribute o "join" apos) [e] [] pos) ρ (.str (Txt.join s ys)) ρ2 := .m1 F.slot_str_join F.type_str_join mt_join ho he (fun C σ H0 H u S r Q q => by
  cases r with
  | lst h1 h2 =>
    rw [h2.strs_of] at h1
    exact ⟨s, _, ys, rfl, rfl, .inl (Evl.ex_l S.ex h1), hz, q _ H0 H (Evl.Ex.refl _) S (.str _)⟩) hs hb hl
theorem EO.split {o : Expr} {apos : Pos} {s t : Str} (ho : ED X o ρ (.str s) ρ1) (he : ED X e ρ1 (.str t) ρ2) (ht : (t.length == 0) = false) (hz : s.length + 2 ≤ sizeLine) (hs : starEach [e] X.env = [(false, eval e X.env)] := by rfl) (hb : attributeBase o "split" X.env (eval o X.env) = eval o X.env := by rfl) (hl : (apos.endLine == pos.line) = true := by rfl) :
    EO X (.Call (.Attribute o "split" apos) [e] [] pos) ρ (.lst ((Txt.split s t).map .str)) ρ2 := fun C σ H0 H S Q q => ⟨_, pe_m1 F.slot_str_split F.type_str_split mt_split pe_w pe_w hs hb hl, ho C σ H0 H S _ fun v H1 H1' e1 S1 r1 => by
  cases r1
  refine ⟨⟨s, rfl⟩, he C σ H1 H1' S1 _ fun u H2 H2' e2 S2 r2 => ?_⟩
  cases r2
  refine ⟨s, t, rfl, rfl, ht, hz, fun p hp => ?_⟩
  obtain ⟨S3, n⟩ := NewL.laid S2 hp (.lst (RpL.strs (Txt.split s t)))
  exact q p H2 _ (e1.trans e2) S3 n⟩
/-- parts of a slice -/
def EP (X : Cx) (e : Option Expr) (ρ : Rho) (o : Option Int) (ρ' : Rho) : Prop := ∀ (C : En) (σ : L2.St) (H0 H : Hp), Sat X.K C ρ σ H0 H → ∀ Q : Option Int → Hp → Prop, (∀ H0' H', Ex H0 H0' → Sat X.K C ρ' σ H0' H' → Q o H') → ∃ t, PO X e t ∧ t σ H Q
theorem EP.none : EP X none ρ none ρ := fun C σ H0 H S Q q => ⟨_, po_none, q H0 H (Evl.Ex.refl _) S⟩
theorem EP.some {i : Int} (h : ED X e ρ (.int i) ρ1) : EP X (some e) ρ (some i) ρ1 := fun C σ H0 H S Q q => ⟨_, po_some pe_w, h C σ H0 H S _ fun v H1 H1' e1 S1 r1 => by cases r1; exact ⟨i, rfl, q H1 H1' e1 S1⟩⟩
def wP (X : Cx) (e : Option Expr) : TO := fun σ H Q => ∃ t, PO X e t ∧ t σ H Q
theorem po_w {X : Cx} {e : Option Expr} : PO X e (wP X e) := ⟨fun pins s σ H Q I h => by obtain ⟨t, h1, h2⟩ := h; exact h1.run pins s σ H Q I h2⟩
theorem ED.slS {s : Str} {lo hi : Option Expr} {l u : Option Int} {p2 : Pos} (ha : ED X a ρ (.str s) ρ1) (hlo : EP X lo ρ1 l ρ2) (hhi : EP X hi ρ2 u ρ3) (hz : s.length ≤ sizeLine) : ED X (.Subscript a (.Slice lo hi .none p2) pos) ρ (.str (cutS s l u)) ρ3 := fun C σ H0 H S Q q =>
  ⟨_, pe_slice sl_str pe_w po_w po_w, ha C σ H0 H S _ fun v H1 H1' e1 S1 r1 => hlo C σ H1 H1' S1 _ fun H2 H2' e2 S2 => hhi C σ H2 H2' S2 _ fun H3 H3' e3 S3 => by
    cases r1
    exact ⟨s, rfl, hz, q _ H3 H3' (e1.trans (e2.trans e3)) S3 (.str _)⟩⟩
def cutD {α : Type} (xs : List α) (lo hi : Option Int) : List α := (xs.drop (HT.sIx xs.length 0 lo)).take (HT.sIx xs.length xs.length hi - HT.sIx xs.length 0 lo)
theorem RpL.cut {K : PySem.W.Frag} {H : Hp} {vs : List V} {ds : List D} (r : RpL K H vs ds) (lo hi : Option Int) : RpL K H (cutV vs lo hi) (cutD ds lo hi) := by
  unfold cutV cutD
  rw [r.length]
  exact (r.drop _).take _
theorem EO.slL {lo hi : Option Expr} {l u : Option Int} {p2 : Pos} (ha : ED X a ρ (.lst ds) ρ1) (hlo : EP X lo ρ1 l ρ2) (hhi : EP X hi ρ2 u ρ3) : EO X (.Subscript a (.Slice lo hi .none p2) pos) ρ (.lst (cutD ds l u)) ρ3 := fun C σ H0 H S Q q =>
  ⟨_, pe_slice sl_list pe_w po_w po_w, ha C σ H0 H S _ fun v H1 H1' e1 S1 r1 => hlo C σ H1 H1' S1 _ fun H2 H2' e2 S2 => hhi C σ H2 H2' S2 _ fun H3 H3' e3 S3 => by
    cases r1 with
    | lst h1 h2 =>
      refine ⟨_, _, rfl, Evl.ex_l S3.ex (Evl.ex_l (e2.trans e3) h1), fun p hp => ?_⟩
      obtain ⟨S4, n⟩ := NewL.laid S3 hp (.lst ((h2.mono (e2.trans e3)).cut l u))
      exact q p H3 _ (e1.trans (e2.trans e3)) S4 n⟩
/-! ### f-strings -/
def EJ (X : Cx) : List Expr → Rho → List Str → Rho → Prop
  | [], ρ, ss, ρ' => ss = [] ∧ ρ' = ρ
  | e :: es, ρ, ss, ρ' => ∃ s r ρ1, ss = s :: r ∧ ED X e ρ (.str s) ρ1 ∧ EJ X es ρ1 r ρ'
def glue (acc : Str) : List Str → Str
  | [] => acc
  | s :: r => glue (acc ++ s) r
theorem EJ.nil : EJ X [] ρ [] ρ := ⟨rfl, rfl⟩
theorem EJ.cons {es : List Expr} {s : Str} {r : List Str} (h : ED X e ρ (.str s) ρ1) (t : EJ X es ρ1 r ρ2) : EJ X (e :: es) ρ (s :: r) ρ2 := ⟨s, r, ρ1, rfl, h, t⟩
theorem glue_len : ∀ {ss : List Str} {acc : Str}, acc.length ≤ (glue acc ss).length
  | [], acc => Nat.le_refl _
  | s :: r, acc => Nat.le_trans (by rw [strLen_append]; exact Nat.le_add_right _ _) (glue_len (ss := r) (acc := acc ++ s))
theorem pj_w : ∀ {es : List Expr}, PJ X es (es.map (wE X))
  | [] => .nil
  | e :: es => .cons pe_w pj_w
theorem EJ.run : ∀ {es : List Expr} {ss : List Str} {acc : Str} {ρ ρ' : Rho}, EJ X es ρ ss ρ' → (glue acc ss).length ≤ sizeLine → ∀ (C : En) (σ : L2.St) (H0 H : Hp), Sat X.K C ρ σ H0 H → ∀ Q : Str → Hp → Prop, (∀ H0' H', Ex H0 H0' → Sat X.K C ρ' σ H0' H' → Q (glue acc ss) H') → tJs (es.map (wE X)) acc σ H Q
  | [], ss, acc, ρ, ρ', h, hz, C, σ, H0, H, S, Q, q => by
    obtain ⟨rfl, rfl⟩ := h
    exact q H0 H (Evl.Ex.refl _) S
  | e :: es, ss, acc, ρ, ρ', h, hz, C, σ, H0, H, S, Q, q => by
    obtain ⟨s, r, ρ1, rfl, h1, h2⟩ := h
    refine h1 C σ H0 H S _ fun v H1 H1' e1 S1 r1 => ?_
    cases r1
    exact ⟨s, rfl, Nat.le_trans (glue_len (ss := r) (acc := acc ++ s)) hz, EJ.run (acc := acc ++ s) h2 hz C σ H1 H1' S1 Q fun H2 H2' e2 S2 => q H2 H2' (e1.trans e2) S2⟩
theorem ED.fstr {v1 v2 : Expr} {rest : List Expr} {ss : List Str} (h : EJ X (v1 :: v2 :: rest) ρ ss ρ1) (hz : (glue Str.empty ss).length ≤ sizeLine) : ED X (.JoinedStr (v1 :: v2 :: rest) pos) ρ (.str (glue Str.empty ss)) ρ1 := fun C σ H0 H S Q q =>
  ⟨_, pe_joined pj_w, EJ.run h hz C σ H0 H S _ fun H1 H1' e1 S1 => q _ H1 H1' e1 S1 (.str _)⟩
theorem ED.fstr1 (h : ED X e ρ d ρ1) : ED X (.JoinedStr [e] pos) ρ d ρ1 := fun C σ H0 H S Q q => ⟨_, pe_joined1 pe_w, h C σ H0 H S Q q⟩
theorem ED.fmtS {s : Str} (h : ED X e ρ (.str s) ρ1) (hz : s.length ≤ sizeLine) : ED X (.FormattedValue e (-1) none pos) ρ (.str s) ρ1 := fun C σ H0 H S Q q => ⟨_, pe_fmt pe_w, h C σ H0 H S _ fun v H1 H1' e1 S1 r1 => by
  cases r1
  exact .inl ⟨s, rfl, hz, q _ H1 H1' e1 S1 (.str _)⟩⟩
theorem ED.fmtI {i : Int} (h : ED X e ρ (.int i) ρ1) (hz : i.natAbs.log2 < 1920) : ED X (.FormattedValue e (-1) none pos) ρ (.str (toString i)) ρ1 := fun C σ H0 H S Q q => ⟨_, pe_fmt pe_w, h C σ H0 H S _ fun v H1 H1' e1 S1 r1 => by
  cases r1
  exact .inr ⟨i, rfl, hz, q _ H1 H1' e1 S1 (.str _)⟩⟩
end
end Rg
namespace Rg
open PySem PySem.Spec PyProof.Rows L2

section
variable {P0 : Program} {w : World} {K : PySem.W.Frag} {mg : Str → Option Value} {base : Heap} {X : Cx} {ρ ρ1 ρ2 ρ3 : Rho} {a b c e tg iter o : Expr} {x y z d : D} {pos apos np : Pos} {N : List Str} {is : List Nat} {gs : List Str} {P : DE} {ds : List D}

/-! ### attributes -/
theorem RpF.lookup {H : Hp} {f : Str} : ∀ {fs : List (Str × V)} {gs : List (Str × D)} {d : D}, RpF K H fs gs → gs.lookup f = some d → ∃ v, fs.lookup f = some v ∧ Rp K H v d
  | _, _, _, .nil, h => by cases h
  | _, _, d, .cons (f := g) (v := v) (vs := vs) (d := d') (ds := ds) r t, h => by
    cases q : (f == g) with
    | true =>
      have h' : (match f == g with | true => some d' | false => ds.lookup f) = some d := h
      rw [q] at h'
      cases h'
      exact ⟨v, by show (match f == g with | true => some v | false => vs.lookup f) = some v; rw [q], r⟩
    | false =>
      have h' : (match f == g with | true => some d' | false => ds.lookup f) = some d := h
      rw [q] at h'
      obtain ⟨u, e1, e2⟩ := RpF.lookup t h'
      exact ⟨u, by show (match f == g with | true => some v | false => vs.lookup f) = some u; rw [q]; exact e1, e2⟩
theorem ED.fld {C : Addr} {fs : List (Str × D)} {f : Str} (B : Bd P0 w K mg base X N is gs) (h : ED X e ρ (.ins C fs) ρ1) (hc : Cls K C) (hn : NoAttr K C f) (hl : fs.lookup f = some d) (hb : attributeBase e f X.env (eval e X.env) = eval e X.env := by rfl) : ED X (.Attribute e f pos) ρ d ρ1 := fun C' σ H0 H S Q q => by
  have eK := B.hK
  subst eK
  exact ⟨_, pe_fld pe_w hb, h C' σ H0 H S _ fun v H1 H1' e1 S1 r1 => by
    cases r1 with
    | ins h1 h2 =>
      obtain ⟨u, g1, g2⟩ := h2.lookup hl
      exact ⟨_, C, _, _, u, rfl, S1.ex _ _ h1, hc, hn, g1, q u H1 H1' e1 S1 g2⟩⟩
/-- a constant of the class, read off an instance -/
theorem ED.con {C : Addr} {fs : List (Str × D)} {f : Str} {v : V} {u : Value} (B : Bd P0 w K mg base X N is gs) (h : ED X e ρ (.ins C fs) ρ1) (hc : Cls K C) (hn : Con K C f v u) (hl : ∀ H vs, RpF X.K H vs fs → vs.lookup f = none) (hv : ∀ (H : Hp), Rp X.K H v d) (hb : attributeBase e f X.env (eval e X.env) = eval e X.env := by rfl) : ED X (.Attribute e f pos) ρ d ρ1 := fun C' σ H0 H S Q q => by
  have eK := B.hK
  subst eK
  exact ⟨_, pe_con pe_w hb, h C' σ H0 H S _ fun v H1 H1' e1 S1 r1 => by
    cases r1 with
    | ins h1 h2 => exact ⟨_, C, _, _, _, _, rfl, S1.ex _ _ h1, hc, hn, hl _ _ h2, q _ H1 H1' e1 S1 (hv _)⟩⟩
/-- an attribute of an object that is being made -/
theorem ED.fldO {C : Addr} {fs : List (Str × D)} {f n : Str} {s : Sl} (B : Bd P0 w K mg base X N is gs) (i : Nat) (hN : N[i]? = some n) (hi : is.contains i = true) (h0 : ρ[i]? = some s) (hs : s = .ol (.ins C fs) ∨ s = .ob (.ins C fs)) (hc : Cls K C) (hn : NoAttr K C f) (hl : fs.lookup f = some d) (hb : attributeBase (.Name n np) f X.env (eval (.Name n np) X.env) = eval (.Name n np) X.env := by rfl) : ED X (.Attribute (.Name n np) f pos) ρ d ρ := fun C' σ H0 H S Q q => by
  have eK := B.hK
  subst eK
  have z := S.sl i s h0
  have key : ∃ p dx vs, σ[i]? = some (some (.ref p)) ∧ H p = some (.ins C dx vs) ∧ RpF X.K H0 vs fs := by
    rcases hs with rfl | rfl
    · obtain ⟨p, o, e1, e2, _, e4, _⟩ := z
      cases e4 with
      | ins e4 => exact ⟨p, _, _, e1, e2, e4⟩
    · obtain ⟨p, o, e1, e2, _, e4, _⟩ := z
      cases e4 with
      | ins e4 => exact ⟨p, _, _, e1, e2, e4⟩
  obtain ⟨p, dx, vs, e1, e2, e3⟩ := key
  obtain ⟨u, g1, g2⟩ := e3.lookup hl
  exact ⟨_, pe_fld (B.pe hN hi) hb, _, e1, p, C, dx, vs, u, rfl, e2, hc, hn, g1, q u H0 H (Evl.Ex.refl _) S g2⟩
/-- self.f = e -/
def putD (f : Str) (v : D) : List (Str × D) → List (Str × D)
  | [] => [(f, v)]
  | (g, x) :: r => if g = f then (g, v) :: r else (g, x) :: putD f v r
theorem RpF.put {H : Hp} {f : Str} {v : V} {d : D} (r : Rp K H v d) : ∀ {fs : List (Str × V)} {gs : List (Str × D)}, RpF K H fs gs → RpF K H (putF f v fs) (putD f d gs)
  | _, _, .nil => .cons r .nil
  | _, _, .cons (f := g) (v := u) (vs := vs) (d := d') (ds := ds) q t => by
    show RpF K H (if g = f then (g, v) :: vs else (g, u) :: putF f v vs) (if g = f then (g, d) :: ds else (g, d') :: putD f d ds)
    by_cases h : g = f
    · rw [if_pos h, if_pos h]
      exact .cons r t
    · rw [if_neg h, if_neg h]
      exact .cons q (RpF.put r t)
theorem RpF.length {H : Hp} : ∀ {fs : List (Str × V)} {gs : List (Str × D)}, RpF K H fs gs → fs.length = gs.length
  | _, _, .nil => rfl
  | _, _, .cons _ t => congrArg Nat.succ (RpF.length t)
theorem SD.fld {C : Addr} {fs : List (Str × D)} {f n : Str} (B : Bd P0 w K mg base X N is gs) (i : Nat) (hN : N[i]? = some n) (hi : is.contains i = true) (he : ED X e ρ d ρ1) (h0 : ρ1[i]? = some (.ob (.ins C fs))) (hc : Cls K C) (hn : NoAttr K C f) (hz : fs.length < 1000) (h : P.nx (ρ1.set i (.ob (.ins C (putD f d fs)))))
    (hs : swapsWith e (some (.Attribute (.Name n np) f apos)) pos.line X.env = pure false := by rfl) : SD X (.Assign [.Attribute (.Name n np) f apos] e pos) ρ P := fun C' σ H0 H E W S F => by
  have eK := B.hK
  subst eK
  refine ⟨_, ps_fld (B.pe hN hi) pe_w hs, he C' σ H0 H S _ fun v H1 H1' e1 S1 r1 => ?_⟩
  obtain ⟨p, o, x1, x2, x3, x4, x5⟩ := S1.sl i _ h0
  cases x4 with
  | ins x4 => exact ⟨_, x1, p, C, _, _, rfl, x2, hc, hn, by rw [x4.length]; exact hz, F.nx _ _ H1 _ e1 (S1.mut h0 (.inr ⟨_, rfl, rfl⟩) x1 (.ins (x4.put r1))) h⟩

/-! ### making an instance -/
theorem Sat.backN {C : En} {σ : L2.St} {H0 H H0' H' : Hp} {x : Addr} {j : Nat} {b0 : Ob} (S : Sat K C ρ σ H0 H) (hC : C.H x = none) (h0 : H0 x = none) (hn : ∀ (j : Nat) (s : Sl), ρ[j]? = some s → s.own = true → σ[j]? ≠ some (some (.ref x))) (b : Back K H0 H [(j, x)] [b0] H0' H') : Sat K C ρ σ H0' H' := by
  have kp : ∀ (a : Addr) (o : HO), H a = some o → a ≠ x → H' a = some o := fun a o h1 h2 => b.keep a o h1 (by simp [h2])
  have ne : ∀ a, C.H a ≠ none → a ≠ x := fun a h1 z => h1 (by rw [z]; exact hC)
  refine ⟨S.len, S.n, S.e0.trans b.e0, b.ex, fun a o h1 h2 => kp a o (S.keep a o h1 h2) (ne a (by rw [h1]; simp)), fun q hq => ?_, fun a h1 h2 => ?_, fun i s e => ?_, S.ap⟩
  · obtain ⟨b1, b2, b3⟩ := S.bk q hq
    refine ⟨b1, fun z => ?_, b3⟩
    cases h : H q.2 with
    | none => exact b2 h
    | some o =>
      rw [kp _ _ h (ne _ b1)] at z
      cases z
  · by_cases h : H a = none
    · exact absurd (S.known h) h1
    · exact b.nw a h (S.nw a h1 h2)
  · refine (S.sl i s e).mono b.e0 (fun p o ow hx z => kp p o z fun q => ?_) fun p _ _ z1 z2 => b.nw p z1 z2
    subst q
    exact hn i s e ow hx
/-- the class that the name x stands for, made by an __init__ with this promise -/
structure Mkr (P : Program) (w : World) (K : PySem.W.Frag) (mg : Str → Option Value) (base : Heap) (x : Str) (C : Addr) (k : Nat) (R : List D → List (Str × D) → Prop) : Prop where
  ex : ∃ (f : Addr) (fd : FuncData) (ps : List Str), Fn P w K mg base false k f fd ps (spOf K fun as r => ∃ ds fs, as = .ob (.ins C []) :: ds.map .sh ∧ R ds fs ∧ r = .ret .non [.ins C fs]) ∧ mg x = some (.ref C) ∧ Mk K C f ∧ Binds K fd ps []
theorem ED.make {n : Str} {es : List Expr} {C : Addr} {k : Nat} {R : List D → List (Str × D) → Prop} {fs : List (Str × D)} (F : Mkr P0 w K mg base n C k R) (hr : Room (k + 1) X.A) (B : Bd P0 w K mg base X N is gs) (m : Nat) (hg : gs[m]? = some n) (ha : EA X (e :: es) ρ ds ρ1) (hR : R ds fs)
    (he : starEach (e :: es) X.env = (false, eval e X.env) :: starEach es X.env := by rfl) (hpl : (backTo pos (starEach es X.env)).any (·.1) = false := by rfl) : ED X (.Call (.Name n np) (e :: es) [] pos) ρ (.ins C fs) ρ1 := fun C' σ H0 H S Q q => by
  obtain ⟨rfl⟩ := B.hP
  obtain ⟨rfl⟩ := B.hw
  obtain ⟨rfl⟩ := B.hK
  obtain ⟨rfl⟩ := B.hm
  obtain ⟨rfl⟩ := B.hb
  obtain ⟨f, fd, ps, F, hm, hk, hb⟩ := F.ex
  refine ⟨_, pe_make hk F.ok hr (B.gl m n hg).1 hm hb .nil passL pa_w (B.gl m n hg).2.1 he hpl, ha C' σ H0 H S _ fun vs H1 H1' e1 S1 r1 x dx nx ndx nex => ?_⟩
  rw [List.append_nil]
  have S2 : Sat X.K C' ρ1 σ H1 (upd (upd H1' dx (.own x)) x (.ins C dx [])) := (S1.fresh ndx).fresh (by rw [upd_ne (Ne.symm nex)]; exact nx)
  have hx0 : H1 x = none := S1.fresh0 nx
  have hxC : C'.H x = none := S1.known nx
  have hxs : ∀ (j : Nat) (s : Sl), ρ1[j]? = some s → s.own = true → σ[j]? ≠ some (some (.ref x)) := fun j s e o z => by
    have w := S1.sl j s e
    cases s with
    | emp => cases o
    | sh d => cases o
    | ol es =>
      obtain ⟨p', vs', z1, z2, _⟩ := w
      rw [z] at z1
      cases z1
      rw [nx] at z2
      cases z2
    | ob es =>
      obtain ⟨p', vs', z1, z2, _⟩ := w
      rw [z] at z1
      cases z1
      rw [nx] at z2
      cases z2
  obtain ⟨a1, a2⟩ := arl_sh (H := upd (upd H1' dx (.own x)) x (.ins C dx [])) r1
  have eb : bsOf 0 (.ref x :: vs) (.ob (.ins C []) :: ds.map .sh) = [(0, x)] := by
    show (0, x) :: bsOf 1 vs (ds.map .sh) = _
    rw [a2]
  refine ⟨H1, .ob (.ins C []) :: ds.map .sh, _, S2.ex, .ob upd_same hx0 (.ins .nil) a1, by rw [eb]; simp, ⟨ds, fs, rfl, hR, rfl⟩, fun v H2 H2' b rv => ?_⟩
  rw [eb] at b
  have S3 := S2.backN hxC hx0 hxs b
  refine ⟨by cases rv; rfl, ?_⟩
  have hn0 : H2 x = none := b.nw x (by rw [upd_same]; simp) hx0
  cases b.outs with
  | cons o1 o2 o3 => exact q _ _ H2' (e1.trans (b.e0.trans (Evl.Ex.new hn0))) (S3.share o1 hn0 hxC hxs) (o2.fz hn0)

/-! ### a list grows -/
theorem SD.app {n : Str} {s0 s1 : Sl} (B : Bd P0 w K mg base X N is gs) (i : Nat) (hN : N[i]? = some n) (hi : is.contains i = true) (he : ED X e ρ d ρ1) (h0 : ρ[i]? = some s0) (h1 : ρ1[i]? = some s0) (hsl : (s0 = .ol (.lst ds) ∧ s1 = .ol (.lst (ds ++ [d]))) ∨ (s0 = .ob (.lst ds) ∧ s1 = .ob (.lst (ds ++ [d])))) (hz : ds.length < sizeLine) (h : P.nx (ρ1.set i s1))
    (hbase : attributeBase (.Name n np) "append" X.env (eval (.Name n np) X.env) = eval (.Name n np) X.env := by rfl) {cpos : Pos}
    (hfew : ((backTo cpos (starEach [e] X.env)).all (fun x => !x.1) && (backToKw cpos (keywordEach [] X.env)).all (fun x => x.1.isSome) && decide ([e].length + ([] : List Keyword).length + (if ([] : List Keyword).isEmpty then 0 else 1) < 30)) = true := by rfl)
    (hline : (apos.endLine == cpos.line) = true := by rfl) (hst : starEach [e] X.env = (false, eval e X.env) :: starEach [] X.env := by rfl)
    (hsw : swapsWith (.Call (.Attribute (.Name n np) "append" apos) [e] [] cpos) none pos.line X.env = pure false := by rfl) : SD X (.Expr (.Call (.Attribute (.Name n np) "append" apos) [e] [] cpos) pos) ρ P := fun C σ H0 H E W S F => by
  have key : ∀ {ρ : Rho} {H0 H : Hp}, Sat X.K C ρ σ H0 H → ρ[i]? = some s0 → ∃ p vs, σ[i]? = some (some (.ref p)) ∧ H p = some (.lst vs) ∧ RpL X.K H0 vs ds := fun {ρ H0 H} S h0 => by
    have z := S.sl i s0 h0
    rcases hsl with ⟨rfl, rfl⟩ | ⟨rfl, rfl⟩
    · obtain ⟨p, o, e1, e2, _, e4, _⟩ := z
      cases e4 with
      | lst e4 => exact ⟨p, _, e1, e2, e4⟩
    · obtain ⟨p, o, e1, e2, _, e4, _⟩ := z
      cases e4 with
      | lst e4 => exact ⟨p, _, e1, e2, e4⟩
  obtain ⟨p, vs, k1, k2, k3⟩ := key S h0
  refine ⟨_, ps_expr (pe_bm PySem.F.plainAttrs_list PySem.F.slot_list_append PySem.F.type_list_append mt_append (B.pe hN hi) (pa_cons pe_w pa_nil hst) hbase hfew hline hst) hsw, .ref p, k1, .inl ⟨rfl, _, .inl (.inl k2)⟩, he C σ H0 H S _ fun v H1 H1' e1 S1 r1 => ?_⟩
  obtain ⟨p', vs', k1', k2', k3'⟩ := key S1 h1
  rw [k1] at k1'
  cases k1'
  exact ⟨p, vs', v, rfl, rfl, k2', by rw [k3'.length]; exact hz, F.nx _ _ H1 _ e1 (S1.mut h1 (by rcases hsl with ⟨rfl, rfl⟩ | ⟨rfl, rfl⟩ <;> simp) k1 (.lst (k3'.append (.cons r1 .nil)))) h⟩

/-! ### isinstance -/
/-- the kind of a datum as isinstance sees it -/
def TyD (X : Cx) (d : D) (t : Value) : Prop := ∀ (H : Hp) (v : V), Rp X.K H v d → TyX X.K H v t
theorem tyd_non : TyD X .non (.type "NoneType") := fun H v r => by cases r; exact .base .non
theorem tyd_bl {k : Bool} : TyD X (.bl k) (.type "bool") := fun H v r => by cases r; exact .base (.bl k)
theorem tyd_int {i : Int} : TyD X (.int i) (.type "int") := fun H v r => by cases r; exact .base (.int i)
theorem tyd_str {s : Str} : TyD X (.str s) (.type "str") := fun H v r => by cases r; exact .base (.str s)
theorem tyd_tup : TyD X (.tup ds) (.type "tuple") := fun H v r => by
  cases r with
  | tup h _ =>
    rcases h with (h | ⟨o, h⟩) | ⟨o, its, n, h1, h2, _⟩
    · exact .base (.tup h)
    · exact .fTuple h
    · exact .kTuple h1 h2
theorem tyd_lst : TyD X (.lst ds) (.type "list") := fun H v r => by
  cases r with
  | lst h _ =>
    rcases h with (h | ⟨o, h⟩) | ⟨o, its, n, h1, h2, _⟩
    · exact .base (.lst h)
    · exact .base (.frz h)
    · exact .kList h1 h2
/-- what isinstance wants of an own class -/
structure InsC (K : PySem.W.Frag) (C : Addr) : Prop where
  cl : Cls K C
  ha : PySem.W.findIn K (.ref C) "__class__" = some (some (.builtin "object.__class__"))
  hn : PySem.W.specialIn K (.builtin "object.__class__") "__get__" = some (some (.builtin "getset_descriptor.__get__"))
  ht : PySem.W.takesIn K (.builtin "object.__class__") = some true
  hm : PySem.W.mroIn K C (.type "object") = some true
theorem tyd_ins {C : Addr} {fs : List (Str × D)} (B : Bd P0 w K mg base X N is gs) (h : InsC K C) : TyD X (.ins C fs) (.ref C) := fun H v r => by
  have eK := B.hK
  subst eK
  cases r with
  | ins h1 _ => exact .base (.ins h1 h.cl h.ha h.hn h.ht h.hm)
/-- a class: a built-in type, an own class -/
def ClD : D → Value → Prop
  | .ty n, u => u = .type n
  | .ref C, u => u = .ref C
  | _, _ => False
theorem ED.isi {t u : Value} {k : Bool} (B : Bd P0 w K mg base X N is gs) (j0 : Nat) (hg : gs[j0]? = some "isinstance") (hm : mg "isinstance" = none) (ha : ED X a ρ x ρ1) (hb : ED X b ρ1 y ρ2) (ht : TyD X x t) (hu : ClD y u) (hk : PySem.W.kitOne K t u = some k)
    (he : starEach [a, b] X.env = (false, eval a X.env) :: starEach [b] X.env := by rfl) (he2 : starEach [b] X.env = (false, eval b X.env) :: starEach [] X.env := by rfl) (hpl : (backTo pos (starEach [b] X.env)).any (·.1) = false := by rfl) : ED X (.Call (.Name "isinstance" np) [a, b] [] pos) ρ (.bl k) ρ2 := by
  have eK := B.hK
  subst eK
  exact .bi call_isi (B.g j0 hg) (B.m hm) (by decide +kernel) (.cons ha (.cons hb .nil he2) he) (fun C σ H0 H vs S r Q q => by
    obtain ⟨v, v', rfl, h, h'⟩ := r.two
    refine ⟨v, v', t, u, k, rfl, ?_, ht H v (h.mono S.ex), hk, q _ H0 H (Evl.Ex.refl _) S (.bl _)⟩
    cases h' with
    | ty n =>
      have hu : u = .type n := hu
      subst hu
      exact .ty n
    | ref C =>
      have hu : u = .ref C := hu
      subst hu
      exact .own C
    | _ => exact False.elim hu) he hpl

/-! ### a written form: repr of plain data -/
mutual
def D.py : D → Option PyData
  | .non => some .none
  | .bl b => some (.bool b)
  | .int i => some (.int i)
  | .str x => some (.str x)
  | .tup ds => (D.pyL ds).map .tuple
  | .lst ds => (D.pyL ds).map .list
  | _ => none
def D.pyL : List D → Option (List PyData)
  | [] => some []
  | d :: ds => match D.py d, D.pyL ds with
    | some a, some b => some (a :: b)
    | _, _ => none
end
mutual
theorem Rp.dp {H : Hp} : ∀ {v : V} {d : D} {p : PyData}, Rp K H v d → d.py = some p → Dp K H v p
  | _, _, _, .non, h => by simp only [D.py] at h; cases h; exact .non
  | _, _, _, .bl b, h => by simp only [D.py] at h; cases h; exact .bl b
  | _, _, _, .int i, h => by simp only [D.py] at h; cases h; exact .int i
  | _, _, _, .str x, h => by simp only [D.py] at h; cases h; exact .str x
  | _, _, _, .ty n, h => by simp only [D.py] at h; cases h
  | _, _, _, .ref a, h => by simp only [D.py] at h; cases h
  | _, _, _, .tup h1 h2, h => by
    simp only [D.py] at h
    obtain ⟨ps, e, rfl⟩ := Option.map_eq_some_iff.mp h
    exact .tup h1 (RpL.dp h2 e)
  | _, _, _, .lst h1 h2, h => by
    simp only [D.py] at h
    obtain ⟨ps, e, rfl⟩ := Option.map_eq_some_iff.mp h
    exact .lst h1 (RpL.dp h2 e)
  | _, _, _, .ins h1 h2, h => by simp only [D.py] at h; cases h
  | _, _, _, .exc C h1 h2, h => by simp only [D.py] at h; cases h
theorem RpL.dp {H : Hp} : ∀ {v : List V} {d : List D} {p : List PyData}, RpL K H v d → D.pyL d = some p → DpAll K H v p
  | _, _, _, .nil, h => by simp only [D.pyL] at h; cases h; exact .nil
  | _, _, _, .cons (d := d) (ds := ds) h1 h2, h => by
    simp only [D.pyL] at h
    cases q1 : d.py with
    | none => rw [q1] at h; cases h
    | some a =>
      cases q2 : D.pyL ds with
      | none => rw [q1, q2] at h; cases h
      | some b =>
        rw [q1, q2] at h
        cases h
        exact .cons (Rp.dp h1 q1) (RpL.dp h2 q2)
end
theorem Dp.noDict {H : Hp} : ∀ (d : PyData) (v : V), Dp K H v d → d.hasDict = false := by
  have all : ∀ (n : Nat), (∀ (d : PyData) (v : V), sizeOf d < n → Dp K H v d → d.hasDict = false) ∧ ∀ (ds : List PyData) (vs : List V), sizeOf ds < n → DpAll K H vs ds → PyData.hasDictAll ds = false := by
    intro n
    induction n with
    | zero => exact ⟨fun _ _ h => absurd h (Nat.not_lt_zero _), fun _ _ h => absurd h (Nat.not_lt_zero _)⟩
    | succ n ih =>
      refine ⟨fun d v hn h => ?_, fun ds vs hn h => ?_⟩
      · cases h with
        | lst h1 h2 =>
          simp only [PyData.hasDict]
          exact ih.2 _ _ (by simp only [PyData.list.sizeOf_spec] at hn; omega) h2
        | tup h1 h2 =>
          simp only [PyData.hasDict]
          exact ih.2 _ _ (by simp only [PyData.tuple.sizeOf_spec] at hn; omega) h2
        | _ => simp only [PyData.hasDict]
      · cases h with
        | nil => simp only [PyData.hasDictAll]
        | cons h1 h2 =>
          simp only [PyData.hasDictAll]
          rw [ih.1 _ _ (by simp only [List.cons.sizeOf_spec] at hn; omega) h1, ih.2 _ _ (by simp only [List.cons.sizeOf_spec] at hn; omega) h2]
          rfl
  exact fun d v h => (all (sizeOf d + 1)).1 d v (Nat.lt_succ_self _) h
/-- what may be shown -/
structure Shows (p : PyData) : Prop where
  sh : p.showable = true
  dp : p.depth ≤ 50
  sz : p.shown.length ≤ sizeLine
theorem call_reprD (hg : X.A.guards = some []) (hu : X.A.units + 64 < cLine) {p : PyData} (sp : Shows p) : CallR X (.builtin "repr") (fun xs H Q => ∃ a, xs = [.ref a] ∧ Dp X.K H (.ref a) p ∧ Q (.str p.shown) H) := by
  intro pins s σ H xs us Q I r h
  obtain ⟨a, rfl, hd, q⟩ := h
  obtain ⟨u, rfl, ru⟩ := vals1 r
  cases ru
  obtain ⟨as, hr⟩ := Dp.reads I p _ _ hd rfl
  have nd := Dp.noDict p _ hd
  have hp := sp.dp
  exact repr_of_reads' hr sp.sh (fun z => by rw [nd] at z; cases z) hg (by omega) (fun _ _ z => z) (fun h' u tk hk => ⟨.str _, H, I.kept hk, ⟨u, rfl⟩, q⟩) sp.sz
theorem ED.repr {p : PyData} {k : Nat} (B : Bd P0 w K mg base X N is gs) (hr : Room k X.A) (hgd : X.A.guards = some []) (j0 : Nat) (hg : gs[j0]? = some "repr") (hm : mg "repr" = none) (ha : ED X a ρ x ρ1) (hx : (∃ ds, x = .lst ds) ∨ ∃ ds, x = .tup ds) (hp : x.py = some p) (sp : Shows p)
    (he : starEach [a] X.env = (false, eval a X.env) :: starEach [] X.env := by rfl) : ED X (.Call (.Name "repr" np) [a] [] pos) ρ (.str p.shown) ρ1 :=
  .bi (call_reprD hgd hr.units sp) (B.g j0 hg) (B.m hm) (by decide +kernel) (.cons ha .nil he) (fun C σ H0 H vs S r Q q => by
    obtain ⟨v, rfl, h⟩ := r.one
    have hd := Rp.dp (h.mono S.ex) hp
    rcases hx with ⟨ds, rfl⟩ | ⟨ds, rfl⟩ <;> (cases h; exact ⟨_, rfl, hd, q _ H0 H (Evl.Ex.refl _) S (.str _)⟩)) he
end
end Rg
namespace Rg
open PySem PySem.Spec PyProof.Rows L2

/-! ### comprehensions -/
def BlkX (X : Cx) (scope : Scope) (X' : Cx) : Prop := ∃ (s : Shared) (H : Hp) (C : Addr) (cl : List (Str × Addr)) (fp : List Addr), X' = X.blk s H scope (compEnvC scope cl C X.env) fp
theorem BlkX.A {X X' : Cx} {scope : Scope} (h : BlkX X scope X') : X'.A = X.A := by
  obtain ⟨s, H, C, cl, fp, rfl⟩ := h
  rfl
theorem BlkX.K {X X' : Cx} {scope : Scope} (h : BlkX X scope X') : X'.K = X.K := by
  obtain ⟨s, H, C, cl, fp, rfl⟩ := h
  rfl
/-- where a comprehension's own part stands; js: the slots of its own names -/
structure Bl (P : Program) (w : World) (K : PySem.W.Frag) (mg : Str → Option Value) (base : Heap) (X : Cx) (N : List Str) (is : List Nat) (gs : List Str) (js : List Nat) : Prop extends Bd P w K mg base X N is gs where
  calm : X.calm = true
  ow : ∀ j, js.contains j = true → ∀ n, N[j]? = some n → Loc X.env.scope n ∧ (X.fn n = true ∨ X.env.scope.names.lookup n = some .local)
def okBlk (N : List Str) (sc : Scope) (is js : List Nat) (gs : List Str) : Bool := (is.all fun i => match N[i]? with
    | some n => (match sc.names.lookup n with
      | some .local => true
      | some .cell => true
      | some .free => true
      | _ => false) && (!(n == ("__debug__" : Str)) && !(n == ("__classdict__" : Str)))
    | none => true) && ((js.all fun i => match N[i]? with
    | some n => (match sc.names.lookup n with
      | some .local => true
      | some .cell => true
      | _ => false)
    | none => true) && gs.all fun n => (match sc.names.lookup n with
    | some .globalImplicit => true
    | _ => false) && (!(n == ("__debug__" : Str)) && !(n == ("__name__" : Str))))
theorem relS_free {sc : Scope} : ∀ {names : List (Str × NameKind)} {x : Str}, names.lookup x = some .free →
    (names.map fun (n, k) => if (k == NameKind.free && sc.kind == .function && sc.names.lookup n == some .cell) then (n, NameKind.cell) else (n, k)).lookup x = some .free ∨ (names.map fun (n, k) => if (k == NameKind.free && sc.kind == .function && sc.names.lookup n == some .cell) then (n, NameKind.cell) else (n, k)).lookup x = some .cell
  | [], _, h => by simp at h
  | (n, k0) :: r, x, h => by
    have ih := @relS_free sc r x
    show List.lookup x ((if (k0 == NameKind.free && sc.kind == .function && sc.names.lookup n == some .cell) = true then (n, NameKind.cell) else (n, k0)) :: (r.map _)) = some .free ∨ List.lookup x ((if (k0 == NameKind.free && sc.kind == .function && sc.names.lookup n == some .cell) = true then (n, NameKind.cell) else (n, k0)) :: (r.map _)) = some .cell
    cases hx : x == n with
    | true =>
      simp only [List.lookup_cons, hx] at h
      cases h
      by_cases hc : (NameKind.free == NameKind.free && sc.kind == .function && sc.names.lookup n == some .cell) = true
      · rw [if_pos hc]
        exact .inr (by simp only [List.lookup_cons, hx])
      · rw [if_neg hc]
        exact .inl (by simp only [List.lookup_cons, hx])
    | false =>
      simp only [List.lookup_cons, hx] at h
      have z := ih h
      by_cases hc : (k0 == NameKind.free && sc.kind == .function && sc.names.lookup n == some .cell) = true
      · rw [if_pos hc]
        simp only [List.lookup_cons, hx]
        exact z
      · rw [if_neg hc]
        simp only [List.lookup_cons, hx]
        exact z
section
variable {P0 : Program} {w : World} {K : PySem.W.Frag} {mg : Str → Option Value} {base : Heap} {X X' : Cx} {ρ ρ1 ρ2 ρ3 : Rho} {a b c e tg iter o elt : Expr} {x y z d : D} {pos apos np : Pos} {N : List Str} {is is' js : List Nat} {gs gs' : List Str} {P : DE} {ds : List D} {scope : Scope}
theorem bl_of (B : Bd P0 w K mg base X N is gs) (hcm : X.calm = true) (h : BlkX X scope X') (hc : okBlk N scope is' js gs' = true) : Bl P0 w K mg base X' N is' gs' js := by
  obtain ⟨s, H, C, cl, fp, rfl⟩ := h
  obtain ⟨h1, h2⟩ := Bool.and_eq_true_iff.mp hc
  obtain ⟨h2, h3⟩ := Bool.and_eq_true_iff.mp h2
  have keep : ∀ {n : Str} {k : NameKind}, k ≠ .free → scope.names.lookup n = some k → (relS scope X.env.scope).names.lookup n = some k := fun {n k} hk e => lookup_relS_keep hk e
  have fr : ∀ {n : Str}, scope.names.lookup n = some .free → (relS scope X.env.scope).names.lookup n = some .free ∨ (relS scope X.env.scope).names.lookup n = some .cell := fun {n} e => relS_free e
  refine { hP := B.hP, hw := B.hw, hK := B.hK, hm := B.hm, hb := B.hb, hN := B.hN, nd := B.nd, vis := fun i hi n e => ?_, gl := fun i n e => ?_, calm := hcm, ow := fun j hj n e => ?_ }
  · have z := List.all_eq_true.mp h1 i (by simpa using hi)
    rw [e] at z
    obtain ⟨z1, z2⟩ := Bool.and_eq_true_iff.mp z
    obtain ⟨z3, z4⟩ := Bool.and_eq_true_iff.mp z2
    refine ⟨?_, by simpa using z3, by simpa using z4⟩
    show Vis (relS scope X.env.scope) n
    split at z1
    · exact .inl (keep (by decide) (by assumption))
    · exact .inr (.inl (keep (by decide) (by assumption)))
    · rcases fr (by assumption) with q | q
      · exact .inr (.inr q)
      · exact .inr (.inl q)
    · cases z1
  · have z := List.all_eq_true.mp h3 n (List.mem_of_getElem? e)
    obtain ⟨z1, z2⟩ := Bool.and_eq_true_iff.mp z
    obtain ⟨z3, z4⟩ := Bool.and_eq_true_iff.mp z2
    refine ⟨?_, by simpa using z3, fun q => ?_⟩
    · show (relS scope X.env.scope).names.lookup n = some .globalImplicit
      split at z1
      · exact keep (by decide) (by assumption)
      · cases z1
    · rw [q] at z4
      simp at z4
  · have z := List.all_eq_true.mp h2 j (by simpa using hj)
    rw [e] at z
    show Loc (relS scope X.env.scope) n ∧ ((scope.names.lookup n == some .cell) = true ∨ (relS scope X.env.scope).names.lookup n = some .local)
    have z : (match scope.names.lookup n with
      | some .local => true
      | some .cell => true
      | _ => false) = true := z
    split at z
    · rename_i q
      exact ⟨.inl (keep (by decide) q), .inr (keep (by decide) q)⟩
    · rename_i q
      exact ⟨.inr (keep (by decide) q), .inl (by rw [q]; rfl)⟩
    · cases z
end
end Rg
namespace Rg
open PySem PySem.Spec PyProof.Rows L2

def toB : Sl → Sl
  | .ol b => .ob b
  | s => s
def emp (ρ : Rho) : List Nat → Rho
  | [] => ρ
  | j :: js => (emp ρ js).set j .emp
def upS : Sl → Sl → Sl
  | .ol _, .ob b => .ol b
  | .ob _, .ob b => .ob b
  | s, _ => s
def upR (ρ τ : Rho) : Rho := List.zipWith upS ρ τ
def nobL (ρ : Rho) (js : List Nat) : Bool := js.all fun j => Sl.nb ρ j
def nown (ρ : Rho) (js : List Nat) : Bool := js.all fun j => match ρ[j]? with
  | some s => !s.own
  | none => true
def noOl (ρ : Rho) : Bool := ρ.all fun s => match s with
  | .ol _ => false
  | _ => true
theorem wipe_set {σ : L2.St} {j : Nat} {x : Option V} : ∀ {js : List Nat}, j ∈ js → wipe (σ.set j x) js = wipe σ js
  | [], h => by cases h
  | k :: js, h => by
    unfold wipe
    by_cases hk : j ∈ js
    · rw [wipe_set hk]
    · rcases List.mem_cons.mp h with rfl | h
      · have : ∀ {ks : List Nat}, j ∉ ks → wipe (σ.set j x) ks = (wipe σ ks).set j x := fun {ks} => by
          induction ks with
          | nil => intro _; rfl
          | cons v vs ih =>
            intro hn
            have h1 : j ≠ v := fun e => hn (by rw [e]; exact List.mem_cons_self)
            unfold wipe
            rw [ih fun q => hn (List.mem_cons_of_mem _ q), List.set_comm _ _ h1]
        rw [this hk, List.set_set]
      · exact absurd h hk
section
variable {K : PySem.W.Frag} {C : En} {ρ τ : Rho} {σ : L2.St} {H0 H : Hp}
theorem emp_at {js : List Nat} : ∀ {i : Nat} {s : Sl}, (emp ρ js)[i]? = some s → s = .emp ∨ ρ[i]? = some s := by
  induction js with
  | nil => intro i s h; exact .inr h
  | cons j js ih =>
    intro i s h
    unfold emp at h
    by_cases e : j = i
    · subst e
      have hl : j < (emp ρ js).length := by
        have := (List.getElem?_eq_some_iff.mp h).1
        rw [List.length_set] at this
        exact this
      rw [List.getElem?_set_self hl] at h
      cases h
      exact .inl rfl
    · rw [List.getElem?_set_ne e] at h
      exact ih h
theorem Sat.wipe1 (S : Sat K C ρ σ H0 H) {i : Nat} (hi : ∀ s : Sl, ρ[i]? = some s → s.bor = false) : Sat K C (ρ.set i .emp) (σ.set i none) H0 H := by
  have nj : ∀ {j : Nat} {s : Sl}, (ρ.set i .emp)[j]? = some s → s.own = true → i ≠ j := fun {j s} e o z => by
    subst z
    have hl : i < ρ.length := by
      have := (List.getElem?_eq_some_iff.mp e).1
      rw [List.length_set] at this
      exact this
    rw [List.getElem?_set_self hl] at e
    cases e
    cases o
  refine ⟨by rw [List.length_set, List.length_set]; exact S.len, by rw [List.length_set]; exact S.n, S.e0, S.ex, S.keep, fun q hq => ?_, S.nw, fun j s e => ?_, fun j k q s t z1 z2 o1 o2 x1 x2 => ?_⟩
  · obtain ⟨b1, b2, ⟨s, b3, b4⟩, b5⟩ := S.bk q hq
    have hne : i ≠ q.1 := fun z => by
      have := hi s (by rw [z]; exact b3)
      rw [b4] at this
      cases this
    exact ⟨b1, b2, ⟨s, by rw [List.getElem?_set_ne hne]; exact b3, b4⟩, by rw [List.getElem?_set_ne hne]; exact b5⟩
  · by_cases hj : i = j
    · subst hj
      have hl : i < ρ.length := by
        have := (List.getElem?_eq_some_iff.mp e).1
        rw [List.length_set] at this
        exact this
      rw [List.getElem?_set_self hl] at e
      cases e
      trivial
    · rw [List.getElem?_set_ne hj] at e
      rw [List.getElem?_set_ne hj]
      exact S.sl j s e
  · have n1 := nj z1 o1
    have n2 := nj z2 o2
    rw [List.getElem?_set_ne n1] at z1 x1
    rw [List.getElem?_set_ne n2] at z2 x2
    exact S.ap j k q s t z1 z2 o1 o2 x1 x2
theorem Sat.wipe (S : Sat K C ρ σ H0 H) : ∀ {js : List Nat}, nobL ρ js = true → Sat K C (emp ρ js) (L2.wipe σ js) H0 H
  | [], _ => S
  | j :: js, h => by
    obtain ⟨h1, h2⟩ := Bool.and_eq_true_iff.mp (show (Sl.nb ρ j && nobL ρ js) = true from h)
    exact (S.wipe h2).wipe1 fun s e => by
      rcases emp_at e with rfl | e
      · rfl
      · exact Sl.nb_ok h1 s e
theorem Sat.low (S : Sat K C ρ σ H0 H) {bs : List (Nat × Addr)} (hb : ∀ q, q ∈ bs ↔ ∃ s, ρ[q.1]? = some s ∧ s.own = true ∧ σ[q.1]? = some (some (.ref q.2))) : Sat K ⟨H0, H, bs, C.n⟩ (ρ.map toB) σ H0 H := by
  have at0 : ∀ {i : Nat} {s : Sl}, (ρ.map toB)[i]? = some s → ∃ s0, ρ[i]? = some s0 ∧ s = toB s0 := fun {i s} e => by
    rw [List.getElem?_map] at e
    obtain ⟨s0, h1, h2⟩ := Option.map_eq_some_iff.mp e
    exact ⟨s0, h1, h2.symm⟩
  have own0 : ∀ s : Sl, (toB s).own = s.own := fun s => by cases s <;> rfl
  refine ⟨by rw [List.length_map]; exact S.len, by rw [List.length_map]; exact S.n, Evl.Ex.refl _, S.ex, fun _ _ h _ => h, fun q hq => ?_, fun _ _ h => h, fun i s e => ?_, fun i j p s t e1 e2 o1 o2 x1 x2 => ?_⟩
  · obtain ⟨s, h1, h2, h3⟩ := (hb q).mp hq
    have ne : H q.2 ≠ none := by
      have z := S.sl q.1 s h1
      cases s with
      | emp => cases h2
      | sh d => cases h2
      | ol b =>
        obtain ⟨p, o, z1, z2, _⟩ := z
        rw [h3] at z1
        cases z1
        rw [z2]
        simp
      | ob b =>
        obtain ⟨p, o, z1, z2, _⟩ := z
        rw [h3] at z1
        cases z1
        rw [z2]
        simp
    refine ⟨ne, ne, ⟨toB s, by rw [List.getElem?_map, h1]; rfl, ?_⟩, h3⟩
    cases s <;> first | rfl | cases h2
  · obtain ⟨s0, h1, rfl⟩ := at0 e
    have z := S.sl i s0 h1
    cases s0 with
    | emp => trivial
    | sh d => exact z
    | ol b =>
      obtain ⟨p, o, z1, z2, z3, z4, z5⟩ := z
      exact ⟨p, o, z1, z2, z3, z4, (hb (i, p)).mpr ⟨_, h1, rfl, z1⟩⟩
    | ob b =>
      obtain ⟨p, o, z1, z2, z3, z4, z5⟩ := z
      exact ⟨p, o, z1, z2, z3, z4, (hb (i, p)).mpr ⟨_, h1, rfl, z1⟩⟩
  · obtain ⟨s0, h1, rfl⟩ := at0 e1
    obtain ⟨t0, h2, rfl⟩ := at0 e2
    rw [own0] at o1 o2
    exact S.ap i j p s0 t0 h1 h2 o1 o2 x1 x2
theorem ex_own (S : Sat K C ρ σ H0 H) : ∃ bs : List (Nat × Addr), ∀ q, q ∈ bs ↔ ∃ s, ρ[q.1]? = some s ∧ s.own = true ∧ σ[q.1]? = some (some (.ref q.2)) := by
  refine ⟨(List.range ρ.length).filterMap fun (i : Nat) => match (ρ[i]? : Option Sl), (σ[i]? : Option (Option V)) with
    | some s, some (some (V.ref p)) => if s.own = true then some (i, p) else none
    | _, _ => none, fun q => ?_⟩
  rw [List.mem_filterMap]
  constructor
  · rintro ⟨i, hi, h⟩
    split at h
    · rename_i s p e1 e2
      split at h
      · rename_i ho
        cases h
        exact ⟨s, e1, ho, e2⟩
      · cases h
    · cases h
  · rintro ⟨s, h1, h2, h3⟩
    refine ⟨q.1, List.mem_range.mpr (List.getElem?_eq_some_iff.mp h1).1, ?_⟩
    rw [h1, h3]
    simp [h2]
/-- a new anchor, the new list's object laid or changed -/
theorem Sat.reA (S : Sat K C ρ σ H0 H) {D : Addr} {H' : Hp} (h0 : H0 D = none) (hD : D ∉ C.bs.map (·.2)) (he : ∀ a, a ≠ D → H' a = H a) (hol : noOl ρ = true) : Sat K ⟨H0, H', C.bs, C.n⟩ ρ σ H0 H' := by
  refine ⟨S.len, S.n, Evl.Ex.refl _, fun a o e => ?_, fun _ _ h _ => h, fun q hq => ?_, fun _ _ h => h, fun i s e => ?_, S.ap⟩
  · rw [he a (ne_of_none e h0)]
    exact S.ex a o e
  · obtain ⟨b1, b2, b3, b4⟩ := S.bk q hq
    have ne : q.2 ≠ D := fun z => hD (by rw [← z]; exact List.mem_map.mpr ⟨q, hq, rfl⟩)
    have z : H' q.2 ≠ none := by rw [he _ ne]; exact b2
    exact ⟨z, z, b3, b4⟩
  · have z := S.sl i s e
    cases s with
    | emp => trivial
    | sh d => exact z
    | ol b =>
      have q := List.all_eq_true.mp hol _ (List.mem_of_getElem? e)
      cases q
    | ob b =>
      obtain ⟨p, o, z1, z2, z3, z4, z5⟩ := z
      have ne : p ≠ D := fun y => hD (by rw [← y]; exact List.mem_map.mpr ⟨(i, p), z5, rfl⟩)
      exact ⟨p, o, z1, by rw [he _ ne]; exact z2, z3, z4, z5⟩
theorem upS_own {s t : Sl} : (upS s t).own = s.own := by cases s <;> cases t <;> rfl
theorem upR_at {i : Nat} {s : Sl} (h : (upR ρ τ)[i]? = some s) : ∃ a b, ρ[i]? = some a ∧ τ[i]? = some b ∧ s = upS a b := by
  unfold upR at h
  rw [List.getElem?_zipWith] at h
  split at h
  · rename_i a b e1 e2
    cases h
    exact ⟨a, b, e1, e2, rfl⟩
  · cases h
/-- back in the outer block -/
theorem Sat.out {H1 H1' Hi0 : Hp} {bs : List (Nat × Addr)} {D : Addr} {js : List Nat} (S1 : Sat K C ρ σ H1 H1') (hb : ∀ q, q ∈ bs ↔ ∃ s, ρ[q.1]? = some s ∧ s.own = true ∧ σ[q.1]? = some (some (.ref q.2))) {n : Nat} {Ha : Hp} {Ha0 : Hp} (S' : Sat K ⟨Ha0, Ha, bs, n⟩ τ (L2.wipe σ js) Hi0 H) (hD : H1' D = none) (e : Ex H1 Hi0)
    (kp : ∀ a o, H1' a = some o → a ∉ bs.map (·.2) → H a = some o) (nw : ∀ a, H1' a ≠ none → H1 a = none → Hi0 a = none) : Sat K C (upR ρ τ) σ Hi0 H := by
  have hl : ρ.length = τ.length := by rw [S1.len, S'.len, wipe_length]
  have inbs : ∀ {i : Nat} {p : Addr} {s : Sl}, ρ[i]? = some s → s.own = true → σ[i]? = some (some (.ref p)) → ∃ b2 o, τ[i]? = some (.ob b2) ∧ H p = some o ∧ Hi0 p = none ∧ RpO K Hi0 o b2 := fun {i p s} h1 h2 h3 => by
    obtain ⟨_, b2, ⟨t, b3, b4⟩, b5⟩ := S'.bk (i, p) ((hb (i, p)).mpr ⟨s, h1, h2, h3⟩)
    have b3 : τ[i]? = some t := b3
    have z := S'.sl i t b3
    cases t with
    | ob b =>
      obtain ⟨p', o, z1, z2, z3, z4, z5⟩ := z
      have b5 : (L2.wipe σ js)[i]? = some (some (.ref p)) := b5
      rw [b5] at z1
      cases z1
      exact ⟨b, o, b3, z2, z3, z4⟩
    | _ => cases b4
  refine ⟨by unfold upR; rw [List.length_zipWith, ← hl, Nat.min_self]; exact S1.len, by unfold upR; rw [List.length_zipWith, ← hl, Nat.min_self]; exact S1.n, S1.e0.trans e, S'.ex, fun a o h1 h2 => ?_, fun q hq => ?_, fun a h1 h2 => ?_, fun i s h => ?_, fun i j p s t e1 e2 o1 o2 x1 x2 => ?_⟩
  · refine kp a o (S1.keep a o h1 h2) fun m => ?_
    obtain ⟨q, hq, rfl⟩ := List.mem_map.mp m
    obtain ⟨s, q1, q2, q3⟩ := (hb q).mp hq
    have z := S1.sl q.1 s q1
    cases s with
    | emp => cases q2
    | sh d => cases q2
    | ol b =>
      obtain ⟨p, o', z1, z2, z3, z4, z5⟩ := z
      rw [q3] at z1
      cases z1
      rw [z5] at h1
      cases h1
    | ob b =>
      obtain ⟨p, o', z1, z2, z3, z4, z5⟩ := z
      rw [q3] at z1
      cases z1
      exact h2 (List.mem_map.mpr ⟨_, z5, rfl⟩)
  · obtain ⟨b1, b2, ⟨s, b3, b4⟩, b5⟩ := S1.bk q hq
    have ho : s.own = true := by cases s <;> first | rfl | cases b4
    obtain ⟨b, o, t1, t2, t3, t4⟩ := inbs b3 ho b5
    refine ⟨b1, by rw [t2]; simp, ⟨upS s (.ob b), ?_, ?_⟩, b5⟩
    · unfold upR
      rw [List.getElem?_zipWith, b3, t1]
    · cases s <;> first | rfl | cases b4
  · refine nw a (fun z => h1 (S1.known z)) (S1.nw a h1 h2)
  · obtain ⟨a, b, h1, h2, rfl⟩ := upR_at h
    have z := S1.sl i a h1
    cases a with
    | emp => exact trivial
    | sh d =>
      obtain ⟨v, z1, z2⟩ := z
      exact ⟨v, z1, z2.mono e⟩
    | ol b0 =>
      obtain ⟨p, o, z1, z2, z3, z4, z5⟩ := z
      obtain ⟨b', o', t1, t2, t3, t4⟩ := inbs h1 rfl z1
      rw [h2] at t1
      cases t1
      exact ⟨p, o', z1, t2, t3, t4, z5⟩
    | ob b0 =>
      obtain ⟨p, o, z1, z2, z3, z4, z5⟩ := z
      obtain ⟨b', o', t1, t2, t3, t4⟩ := inbs h1 rfl z1
      rw [h2] at t1
      cases t1
      exact ⟨p, o', z1, t2, t3, t4, z5⟩
  · obtain ⟨a, b, h1, h2, rfl⟩ := upR_at e1
    obtain ⟨a', b', h1', h2', rfl⟩ := upR_at e2
    rw [upS_own] at o1 o2
    exact S1.ap i j p a a' h1 h1' o1 o2 x1 x2
end

/-! ### the block's targets and tests -/
def SGw (X : Cx) (tg : Expr) (d : D) (ρ : Rho) (js : List Nat) (ρ2 : Rho) : Prop := ∀ (C : En) (σ : L2.St) (H0 H : Hp) (v : V), Sat X.K C ρ σ H0 H → Rp X.K H0 v d → ∀ Q : L2.St → Hp → Prop, (∀ σ', Sat X.K C ρ2 σ' H0 H → wipe σ' js = wipe σ js → Q σ' H) → wG X tg v σ H Q
def wTs (X : Cx) (e : List Expr) : TT := fun σ H Q => ∃ t, PTs X e t ∧ t σ H Q
theorem pts_w {X : Cx} {e : List Expr} : PTs X e (wTs X e) := ⟨fun pins s σ H Q I h => by obtain ⟨t, h1, h2⟩ := h; exact h1.run pins s σ H Q I h2⟩
def EIf (X : Cx) (es : List Expr) (ρ : Rho) (b : Bool) (ρ' : Rho) : Prop := ∀ (C : En) (σ : L2.St) (H0 H : Hp), Sat X.K C ρ σ H0 H → ∀ Q : Bool → Hp → Prop, (∀ H0' H', Ex H0 H0' → Sat X.K C ρ' σ H0' H' → Q b H') → wTs X es σ H Q
section
variable {P0 : Program} {w : World} {K : PySem.W.Frag} {mg : Str → Option Value} {base : Heap} {X X' : Cx} {ρ ρ1 ρ2 ρ3 : Rho} {a b c e tg iter o elt : Expr} {x y z d : D} {pos apos np spos : Pos} {N : List Str} {is is' js : List Nat} {gs gs' : List Str} {P : DE} {ds : List D} {scope sc : Scope} {ifs : List Expr} {own : List (Str × Nat)}
theorem EIf.nil : EIf X [] ρ true ρ := fun C σ H0 H S Q q => ⟨_, pts_nil, q H0 H (Evl.Ex.refl _) S⟩
theorem EIf.one {k : Bool} (h : ET X c ρ k ρ1) : EIf X [c] ρ k ρ1 := fun C σ H0 H S Q q => ⟨_, pts_one pt_w, h C σ H0 H S Q q⟩
theorem Bl.pg (B : Bl P0 w K mg base X N is gs js) {i : Nat} {n : Str} (hN : N[i]? = some n) (hj : js.contains i = true) : PG X (.Name n pos) (gName i) := pg_name B.nd (by rw [B.hN]; exact hN) (B.ow i hj n hN).1 (B.ow i hj n hN).2
theorem SGw.name (B : Bl P0 w K mg base X N is gs js) (i : Nat) {n : Str} (hN : N[i]? = some n) (hj : js.contains i = true) (hb : Sl.nb ρ i = true) : SGw X (.Name n pos) d ρ js (ρ.set i (.sh d)) := fun C σ H0 H v S r Q q =>
  ⟨_, B.pg hN hj, q _ (S.set r (Sl.nb_ok hb)) (wipe_set (by simpa using hj))⟩
theorem SGw.two (B : Bl P0 w K mg base X N is gs js) (i j : Nat) {n m : Str} {np mp : Pos} {k : Nat} {d1 d2 : D} (hi : N[i]? = some n) (hj : N[j]? = some m) (hi' : js.contains i = true) (hj' : js.contains j = true) (hb : Sl.nb ρ i = true) (hb2 : Sl.nb (ρ.set i (.sh d1)) j = true) : SGw X (.Tuple [.Name n np, .Name m mp] k pos) (.tup [d1, d2]) ρ js ((ρ.set i (.sh d1)).set j (.sh d2)) := fun C σ H0 H v S r Q q =>
  ⟨_, pg_tup B.calm (pgs_cons (B.pg hi hi') (pgs_cons (B.pg hj hj') pgs_nil)), by
    cases r with
    | tup t1 t2 =>
      obtain ⟨v1, v2, rfl, q1, q2⟩ := t2.two
      exact ⟨_, _, rfl, Evl.ex_t S.ex t1, rfl, v1, _, rfl, v2, _, rfl, rfl, q _ ((S.set q1 (Sl.nb_ok hb)).set q2 (Sl.nb_ok hb2)) (by rw [wipe_set (by simpa using hj'), wipe_set (by simpa using hi')])⟩⟩
def uG (X : Cx) (scope : Scope) (e : Expr) : TG := fun v σ H Q => ∀ X', BlkX X scope X' → wG X' e v σ H Q
def uT (X : Cx) (scope : Scope) (e : List Expr) : TT := fun σ H Q => ∀ X', BlkX X scope X' → wTs X' e σ H Q
def uE (X : Cx) (scope : Scope) (e : Expr) : TE := fun σ H Q => ∀ X', BlkX X scope X' → wE X' e σ H Q
/-- what a comprehension's turns do -/
structure Turns (X : Cx) (tg : Expr) (ifs : List Expr) (elt : Expr) (scope : Scope) (js : List Nat) (ds : List D) (ρ1 : Rho) (zs : List D) (ρz : Rho) : Prop where
  ex : ∃ (Rn : Nat → Rho) (R2 R3 R4 : Nat → D → Rho) (kk : Nat → D → Bool) (Y : Nat → D → D) (zz : Nat → List D), Rn 0 = emp (ρ1.map toB) js ∧ zz 0 = [] ∧ zz ds.length = zs ∧ ρz = upR ρ1 (Rn ds.length) ∧
    (∀ i, noOl (Rn i) = true) ∧ ∀ i d, ds[i]? = some d → (zz i).length < sizeLine ∧ (∀ X', BlkX X scope X' → SGw X' tg d (Rn i) js (R2 i d)) ∧ (∀ X', BlkX X scope X' → EIf X' ifs (R2 i d) (kk i d) (R3 i d)) ∧
      (kk i d = true → (∀ X', BlkX X scope X' → ED X' elt (R3 i d) (Y i d) (R4 i d)) ∧ nobL (R4 i d) js = true ∧ emp (R4 i d) js = Rn (i + 1) ∧ zz (i + 1) = zz i ++ [Y i d]) ∧
      (kk i d = false → nobL (R3 i d) js = true ∧ emp (R3 i d) js = Rn (i + 1) ∧ zz (i + 1) = zz i)
theorem lc_run {zs : List D} {ρz : Rho} (B : Bd P0 w K mg base X N is gs) (hi : EI X tg iter ρ ds ρ1) (hj : nobL (ρ1.map toB) js = true) (T : Turns X tg ifs elt scope js ds ρ1 zs ρz) :
    ∀ (C : En) (σ : L2.St) (H0 H : Hp), Sat X.K C ρ σ H0 H → ∀ Q : VK, (∀ p H0' H', Ex H0 H0' → Sat X.K C ρz σ H0' H' → NewL X.K C ρz σ H0' H' p (.lst zs) → Q (.ref p) H') → tLc (wI X tg iter) (uG X scope tg) (uT X scope ifs) (uE X scope elt) js σ H Q := fun C σ H0 H S Q q => by
  obtain ⟨Rn, R2, R3, R4, kk, Y, zz, t0, t1, rfl, rfl, tol, turn⟩ := T.ex
  refine hi C σ H0 H S _ fun J H1 H1' e1 S1 wk => fun D hD => ?_
  obtain ⟨bs, hb⟩ := ex_own S1
  have hDb : D ∉ bs.map (·.2) := fun m => by
    obtain ⟨q, hq, e⟩ := List.mem_map.mp m
    have z := (S1.low hb).bk q hq
    rw [e] at z
    exact z.1 hD
  have h1D : H1 D = none := S1.fresh0 hD
  have SD : Sat X.K ⟨H1, upd H1' D (.lst []), bs, C.n⟩ (Rn 0) (wipe σ js) H1 (upd H1' D (.lst [])) := by
    rw [t0]
    exact ((S1.low hb).wipe hj).reA (D := D) h1D hDb (fun a ha => upd_ne ha) (by rw [← t0]; exact tol 0)
  refine ⟨fun i m H => m = ds.length - i ∧ i ≤ ds.length ∧ ∃ Hi0 acc, Ex H1 Hi0 ∧ Sat X.K ⟨Hi0, H, bs, C.n⟩ (Rn i) (wipe σ js) Hi0 H ∧ H D = some (.lst acc) ∧ Hi0 D = none ∧ RpL X.K Hi0 acc (zz i) ∧ (∀ a o, H1' a = some o → a ∉ bs.map (·.2) → H a = some o) ∧ (∀ a, H1' a ≠ none → H a ≠ none) ∧ ∀ a, H1' a ≠ none → H1 a = none → Hi0 a = none,
    ⟨ds.length, by simp, Nat.zero_le _, H1, [], Evl.Ex.refl _, SD, upd_same, h1D, by rw [t1]; exact .nil, fun a o h _ => ?_, fun a h => ?_, fun a _ h => h⟩, fun i m H W => ?_⟩
  · rw [upd_ne (ne_of_none h hD)]
    exact h
  · by_cases e : a = D
    · rw [e, upd_same]
      simp
    · rw [upd_ne e]
      exact h
  obtain ⟨rfl, hil, Hi0, acc, exi, S', hHD, hi0D, racc, kp, pr, nw⟩ := W
  by_cases hlt : i < ds.length
  · obtain ⟨hz, tg', tt', tk, tf⟩ := turn i ds[i] (List.getElem?_eq_getElem hlt)
    refine .inr ⟨wk.goes i Hi0 H exi S'.ex hlt, fun H => ∃ Hi0 acc, Ex H1 Hi0 ∧ Sat X.K ⟨Hi0, H, bs, C.n⟩ (Rn (i + 1)) (wipe σ js) Hi0 H ∧ H D = some (.lst acc) ∧ Hi0 D = none ∧ RpL X.K Hi0 acc (zz (i + 1)) ∧ (∀ a o, H1' a = some o → a ∉ bs.map (·.2) → H a = some o) ∧ (∀ a, H1' a ≠ none → H a ≠ none) ∧ ∀ a, H1' a ≠ none → H1 a = none → Hi0 a = none,
      fun H' n => ⟨ds.length - (i + 1), by omega, rfl, hlt, n⟩, fun x H2 y => ?_⟩
    obtain ⟨H02, ex2, S2, r2, kp2, nw2⟩ := wk.yields _ _ _ i Hi0 H x H2 ds[i] exi S' (List.getElem?_eq_getElem hlt) y
    intro X' hX'
    have eK := hX'.K
    refine tg' X' hX' ⟨Hi0, H, bs, C.n⟩ (wipe σ js) H02 H2 x (by rw [eK]; exact S2) (by rw [eK]; exact r2) _ fun σ2 S3 hw => ?_
    have hww : ∀ σ : L2.St, wipe (wipe σ js) js = wipe σ js := by
      have out : ∀ (σ τ : L2.St) (ks : List Nat), σ.length = τ.length → (∀ i, i ∉ ks → σ[i]? = τ[i]?) → wipe σ ks = wipe τ ks := fun σ τ ks => by
        intro hl h
        apply List.ext_getElem?
        intro i
        have key : ∀ (σ : L2.St) (ks : List Nat), i ∈ ks → (wipe σ ks)[i]? = if i < σ.length then some none else none := fun σ ks => by
          induction ks with
          | nil => intro h; cases h
          | cons k ks ih =>
            intro hm
            unfold wipe
            by_cases e : k = i
            · subst e
              rw [List.getElem?_set]
              simp only [if_true, wipe_length]
            · rw [List.getElem?_set_ne e]
              rcases List.mem_cons.mp hm with rfl | hm
              · exact absurd rfl e
              · exact ih hm
        by_cases hi : i ∈ ks
        · rw [key σ ks hi, key τ ks hi, hl]
        · rw [wipe_out hi, wipe_out hi, h i hi]
      exact fun σ => out _ _ _ (wipe_length σ js) fun i hi => wipe_out hi
    have hw' : wipe σ2 js = wipe σ js := hw.trans (hww σ)
    refine ⟨by rw [hw, hww], fun X2 hX2 => ?_⟩
    have eK2 := hX2.K
    rw [eK] at S3
    refine tt' X2 hX2 _ σ2 H02 H2 (by rw [eK2]; exact S3) _ fun H03 H3 ex3 S4 => ?_
    rw [eK2] at S4
    have ex03 : Ex H1 H03 := exi.trans (ex2.trans ex3)
    -- behind a part of the turn
    have behind : ∀ {ρ' : Rho} {H0x Hx Hy : Hp} {zacc : List V}, Ex H1 H0x → Sat X.K ⟨Hi0, H, bs, C.n⟩ ρ' σ2 H0x Hx → nobL ρ' js = true → emp ρ' js = Rn (i + 1) → (∀ a, a ≠ D → Hy a = Hx a) → Hy D = some (.lst zacc) → RpL X.K H0x zacc (zz (i + 1)) →
        ∃ Hi0 acc, Ex H1 Hi0 ∧ Sat X.K ⟨Hi0, Hy, bs, C.n⟩ (Rn (i + 1)) (wipe σ js) Hi0 Hy ∧ Hy D = some (.lst acc) ∧ Hi0 D = none ∧ RpL X.K Hi0 acc (zz (i + 1)) ∧ (∀ a o, H1' a = some o → a ∉ bs.map (·.2) → Hy a = some o) ∧ (∀ a, H1' a ≠ none → Hy a ≠ none) ∧ ∀ a, H1' a ≠ none → H1 a = none → Hi0 a = none := fun {ρ' H0x Hx Hy zacc} ex S hn he hy hyD hr => by
      have h0x : H0x D = none := S.nw D (by show H D ≠ none; rw [hHD]; simp) hi0D
      have Sw := S.wipe hn
      rw [hw', he] at Sw
      have nD : ∀ a, H1' a ≠ none → a ≠ D := fun a h z => h (by rw [z]; exact hD)
      refine ⟨H0x, zacc, ex, Sw.reA h0x hDb hy (tol _), hyD, h0x, hr, fun a o h1 h2 => ?_, fun a h => ?_, fun a h1 h2 => ?_⟩
      · rw [hy a (nD a (by rw [h1]; simp))]
        exact S.keep a o (kp a o h1 h2) h2
      · rw [hy a (nD a h)]
        by_cases hm : a ∈ bs.map (·.2)
        · obtain ⟨q, hq, rfl⟩ := List.mem_map.mp hm
          exact (S.bk q hq).2.1
        · cases e : H a with
          | none => exact absurd e (pr a h)
          | some o =>
            rw [S.keep a o e hm]
            simp
      · exact S.nw a (pr a h1) (nw a h1 h2)
    have D3 : ∀ {ρ' : Rho} {H0x Hx : Hp}, Sat X.K ⟨Hi0, H, bs, C.n⟩ ρ' σ2 H0x Hx → Hx D = some (.lst acc) := fun S => S.keep D _ hHD hDb
    cases hk : kk i ds[i] with
    | false =>
      obtain ⟨f1, f2, f3⟩ := tf hk
      rw [if_neg (by simp)]
      exact behind ex03 S4 f1 f2 (fun _ _ => rfl) (D3 S4) (by rw [f3]; exact racc.mono (ex2.trans ex3))
    | true =>
      obtain ⟨k1, k2, k3, k4⟩ := tk hk
      rw [if_pos rfl]
      intro X4 hX4
      have eK4 := hX4.K
      refine k1 X4 hX4 _ σ2 H03 H3 (by rw [eK4]; exact S4) _ fun v H04 H4 ex4 S5 r5 => ?_
      rw [eK4] at S5 r5
      refine ⟨acc, D3 S5, by rw [racc.length]; exact hz, behind (ex03.trans ex4) S5 k2 k3 (fun a ha => upd_ne ha) upd_same ?_⟩
      rw [k4]
      exact (racc.mono (ex2.trans (ex3.trans ex4))).append (.cons r5 .nil)
  · have e : i = ds.length := by omega
    subst e
    refine .inl ⟨wk.stops Hi0 H exi S'.ex, ?_⟩
    have So := S1.out hb S' hD exi kp nw
    refine q D Hi0 H (e1.trans exi) So ⟨_, hHD, hi0D, S1.known hD, .lst racc, fun j s e o z => ?_⟩
    obtain ⟨a, b, h1, h2, rfl⟩ := upR_at e
    rw [upS_own] at o
    exact hDb (List.mem_map.mpr ⟨(j, D), (hb (j, D)).mpr ⟨a, h1, o, z⟩, rfl⟩)
theorem EO.lc {zs : List D} {ρz : Rho} (B : Bd P0 w K mg base X N is gs) (hcm : X.calm = true) (hsc : X.env.scope = sc) (own : List (Str × Nat)) (hok : blkC N sc scope own = true) (hi : EI X tg iter ρ ds ρ1) (hj : nobL (ρ1.map toB) (own.map (·.2)) = true) (T : Turns X tg ifs elt scope (own.map (·.2)) ds ρ1 zs ρz) (hs : ∀ x, foldedSetIterable iter X.env x = pure x := by intro _; rfl) :
    EO X (.ListComp elt [⟨tg, iter, ifs, 0⟩] scope pos) ρ (.lst zs) ρz := fun C σ H0 H S Q q =>
  ⟨_, pe_lc hcm B.nd pi_w (by rw [B.hN, hsc]; exact blkOk_by hok) (fun s H C cl fp => ⟨fun pins s' σ' H' v u Q I r h => pg_w.run pins s' σ' H' v u Q I r (h _ ⟨s, H, C, cl, fp, rfl⟩)⟩) (fun s H C cl fp => ⟨fun pins s' σ' H' Q I h => pts_w.run pins s' σ' H' Q I (h _ ⟨s, H, C, cl, fp, rfl⟩)⟩) (fun s H C cl fp => ⟨fun pins s' σ' H' Q I h => pe_w.run pins s' σ' H' Q I (h _ ⟨s, H, C, cl, fp, rfl⟩)⟩) hs,
    lc_run B hi hj T C σ H0 H S Q q⟩
/-- name = [..] -/
theorem SD.asgLc {zs : List D} {ρz : Rho} (B : Df P0 w K mg base X N is gs) (hsc : X.env.scope = sc) (i : Nat) {n : Str} (own : List (Str × Nat)) (hN : N[i]? = some n) (hl : sc.names.lookup n = some .local) (hok : blkC N sc scope own = true) (hi : EI X tg iter ρ ds ρ1) (hj : nobL (ρ1.map toB) (own.map (·.2)) = true) (T : Turns X tg ifs elt scope (own.map (·.2)) ds ρ1 zs ρz)
    (hb : Sl.nb ρz i = true) (h : P.nx (ρz.set i (.sh (.lst zs))) ∨ P.nx (ρz.set i (.ol (.lst zs)))) (hk : sc.kind = .function) (hline : (np.line == pos.line) = true) (ha : (scope.names.any fun (m, k) => m == n && (k == .local || k == .cell)) = false) (hs : ∀ x, foldedSetIterable iter X.env x = pure x := by intro _; rfl) :
    SD X (.Assign [.Name n np] (.ListComp elt [⟨tg, iter, ifs, 0⟩] scope pos) spos) ρ P := fun C σ H0 H E W S F =>
  ⟨_, ps_setLc B.calm B.nd (by rw [B.hN]; exact hN) (by rw [hsc]; exact hl) (sw_true (by rw [hsc]; exact hk) (by rw [hsc]; exact hl) hline ha) pi_w (by rw [B.hN, hsc]; exact blkOk_by hok) (fun s H C cl fp => ⟨fun pins s' σ' H' v u Q I r h => pg_w.run pins s' σ' H' v u Q I r (h _ ⟨s, H, C, cl, fp, rfl⟩)⟩) (fun s H C cl fp => ⟨fun pins s' σ' H' Q I h => pts_w.run pins s' σ' H' Q I (h _ ⟨s, H, C, cl, fp, rfl⟩)⟩) (fun s H C cl fp => ⟨fun pins s' σ' H' Q I h => pe_w.run pins s' σ' H' Q I (h _ ⟨s, H, C, cl, fp, rfl⟩)⟩) hs,
    lc_run B.toBd hi hj T C σ H0 H S _ fun p H1 H1' e1 S1 n1 => by
      rcases h with h | h
      · obtain ⟨H2, e2, S2, r2⟩ := n1.share S1
        exact F.nx _ _ H2 H1' (e1.trans e2) (S2.set r2 (Sl.nb_ok hb)) h
      · obtain ⟨vs, n1, n2, n3, n4, n5⟩ := n1
        exact F.nx _ _ H1 H1' e1 (S1.setO n1 n2 n4 n3 n5 (Sl.nb_ok hb)) h⟩
end
end Rg
namespace Rg
open PySem PySem.Spec PyProof.Rows L2

/-! ### a, b = x, y -/
def isStar : Expr → Bool
  | .Starred .. => true
  | _ => false
theorem swap_two {env : Env} {x y : Str} {px py pt pt2 : Pos} {kt k2 : Nat} {a b : Expr} (hk : env.scope.kind = .function) (hx : env.scope.names.lookup x = some .local) (hy : env.scope.names.lookup y = some .local) (hl : (py.line == px.line) = true) (hne : (y == x) = false) (ha : isStar a = false) (hb' : isStar b = false) (hf : [a, b].all (foldedForSure 8) = false) (hc : [a, b].all (constantsAlone 8) = false) :
    swappedStores [.Tuple [.Name x px, .Name y py] kt pt] (.Tuple [a, b] k2 pt2) env = pure (some [x, y]) := by
  have hb : env.blockKind = .function := by unfold Env.blockKind; rw [hk]; rfl
  have kx : env.kindOf x = some .local := hx
  have ky : env.kindOf y = some .local := hy
  have hl' : py.line = px.line := by simpa using hl
  unfold swappedStores
  simp only [hb, hf, hc, kx, ky, hl', List.head?, Option.map, Option.getD, Expr.pos, List.filterMap, List.length, List.eraseDups]
  simp [hl', List.eraseDups, List.eraseDupsBy, List.eraseDupsBy.loop, kx, ky, hne, Expr.pos]
  rintro (h | h)
  · exact Bool.noConfusion (h.symm.trans ha)
  · exact Bool.noConfusion (h.symm.trans hb')
theorem swap_three {env : Env} {x y z : Str} {px py pz pt pt2 : Pos} {kt k2 : Nat} {a b c : Expr} (hk : env.scope.kind = .function) (hx : env.scope.names.lookup x = some .local) (hy : env.scope.names.lookup y = some .local) (hz : env.scope.names.lookup z = some .local) (hl : (py.line == px.line) = true) (hl2 : (pz.line == px.line) = true) (hne : (y == x) = false) (hne2 : (z == x) = false) (hne3 : (z == y) = false) (ha : isStar a = false) (hb' : isStar b = false) (hc' : isStar c = false) (hf : [a, b, c].all (foldedForSure 8) = false) (hc : [a, b, c].all (constantsAlone 8) = false) :
    swappedStores [.Tuple [.Name x px, .Name y py, .Name z pz] kt pt] (.Tuple [a, b, c] k2 pt2) env = pure (some [x, y, z]) := by
  have hb : env.blockKind = .function := by unfold Env.blockKind; rw [hk]; rfl
  have kx : env.kindOf x = some .local := hx
  have ky : env.kindOf y = some .local := hy
  have kz : env.kindOf z = some .local := hz
  have hl' : py.line = px.line := by simpa using hl
  have hl2' : pz.line = px.line := by simpa using hl2
  unfold swappedStores
  simp only [hb, hf, hc, kx, ky, kz, hl', hl2', List.head?, Option.map, Option.getD, Expr.pos, List.filterMap, List.length, List.eraseDups]
  simp [hl', hl2', List.eraseDups, List.eraseDupsBy, List.eraseDupsBy.loop, kx, ky, kz, hne, hne2, hne3, Expr.pos]
  rintro (h | h | h)
  · exact Bool.noConfusion (h.symm.trans ha)
  · exact Bool.noConfusion (h.symm.trans hb')
  · exact Bool.noConfusion (h.symm.trans hc')
section
variable {P0 : Program} {w : World} {K : PySem.W.Frag} {mg : Str → Option Value} {base : Heap} {X : Cx} {ρ ρ1 ρ2 ρ3 : Rho} {a b c e : Expr} {x y z d d1 d2 d3 : D} {pos pt2 : Pos} {N : List Str} {is : List Nat} {gs : List Str} {P : DE} {ds : List D} {sc : Scope}
theorem SD.par2 (B : Df P0 w K mg base X N is gs) (hsc : X.env.scope = sc) (i j : Nat) {n m : Str} {np mp : Pos} {k k2 : Nat} {tp : Pos} (hi : N[i]? = some n) (hj : N[j]? = some m) (hij : i ≠ j) (hk : sc.kind = .function) (hx : sc.names.lookup n = some .local) (hy : sc.names.lookup m = some .local) (he : EA X [a, b] ρ [d1, d2] ρ1)
    (hb : Sl.nb ρ1 i = true) (hb2 : Sl.nb (ρ1.set i (.sh d1)) j = true) (h : P.nx ((ρ1.set i (.sh d1)).set j (.sh d2)))
    (hl : (mp.line == np.line) = true) (hne : (m == n) = false) (ha : isStar a = false) (hb' : isStar b = false) (hf : [a, b].all (foldedForSure 8) = false) (hc : [a, b].all (constantsAlone 8) = false)
    (hs : swapsWithSole [.Tuple [.Name n np, .Name m mp] k tp] (.Tuple [a, b] k2 pt2) pos.line X.env = pure false := by rfl) : SD X (.Assign [.Tuple [.Name n np, .Name m mp] k tp] (.Tuple [a, b] k2 pt2) pos) ρ P := fun C σ H0 H E W S F =>
  ⟨_, ps_par B.calm B.nd (by rw [B.hN]; exact hi) (by rw [B.hN]; exact hj) hij (by rw [hsc]; exact hx) (by rw [hsc]; exact hy) pa_w (swap_two (by rw [hsc]; exact hk) (by rw [hsc]; exact hx) (by rw [hsc]; exact hy) hl hne ha hb' hf hc) hs, he C σ H0 H S _ fun vs H1 H1' e1 S1 r1 => by
    obtain ⟨v1, v2, rfl, q1, q2⟩ := r1.two
    exact ⟨v1, v2, rfl, F.nx _ _ H1 H1' e1 ((S1.set q1 (Sl.nb_ok hb)).set q2 (Sl.nb_ok hb2)) h⟩⟩
theorem SD.par3 (B : Df P0 w K mg base X N is gs) (hsc : X.env.scope = sc) (i j l : Nat) {n m o : Str} {np mp op : Pos} {k k2 : Nat} {tp : Pos} (hi : N[i]? = some n) (hj : N[j]? = some m) (hl : N[l]? = some o) (hij : i ≠ j) (hil : i ≠ l) (hjl : j ≠ l) (hk : sc.kind = .function) (hx : sc.names.lookup n = some .local) (hy : sc.names.lookup m = some .local) (hz : sc.names.lookup o = some .local) (he : EA X [a, b, c] ρ [d1, d2, d3] ρ1)
    (hb : Sl.nb ρ1 i = true) (hb2 : Sl.nb (ρ1.set i (.sh d1)) j = true) (hb3 : Sl.nb ((ρ1.set i (.sh d1)).set j (.sh d2)) l = true) (h : P.nx (((ρ1.set i (.sh d1)).set j (.sh d2)).set l (.sh d3)))
    (hl1 : (mp.line == np.line) = true) (hl2 : (op.line == np.line) = true) (hne : (m == n) = false) (hne2 : (o == n) = false) (hne3 : (o == m) = false) (ha : isStar a = false) (hb' : isStar b = false) (hc' : isStar c = false) (hf : [a, b, c].all (foldedForSure 8) = false) (hc : [a, b, c].all (constantsAlone 8) = false)
    (hs : swapsWithSole [.Tuple [.Name n np, .Name m mp, .Name o op] k tp] (.Tuple [a, b, c] k2 pt2) pos.line X.env = pure false := by rfl) : SD X (.Assign [.Tuple [.Name n np, .Name m mp, .Name o op] k tp] (.Tuple [a, b, c] k2 pt2) pos) ρ P := fun C σ H0 H E W S F =>
  ⟨_, ps_par3 B.calm B.nd (by rw [B.hN]; exact hi) (by rw [B.hN]; exact hj) (by rw [B.hN]; exact hl) hij hil hjl (by rw [hsc]; exact hx) (by rw [hsc]; exact hy) (by rw [hsc]; exact hz) pa_w (swap_three (by rw [hsc]; exact hk) (by rw [hsc]; exact hx) (by rw [hsc]; exact hy) (by rw [hsc]; exact hz) hl1 hl2 hne hne2 hne3 ha hb' hc' hf hc) hs, he C σ H0 H S _ fun vs H1 H1' e1 S1 r1 => by
    cases r1 with
    | cons q1 t =>
      obtain ⟨v2, v3, rfl, q2, q3⟩ := t.two
      exact ⟨_, v2, v3, rfl, F.nx _ _ H1 H1' e1 (((S1.set q1 (Sl.nb_ok hb)).set q2 (Sl.nb_ok hb2)).set q3 (Sl.nb_ok hb3)) h⟩⟩
end
end Rg
namespace Rg
open PySem PySem.Spec PyProof.Rows L2
open Builtin
theorem gives_pad2 {a : Int} {t u : Tok} (h : a.natAbs.log2 < 1920) : Gives («int.__format__» ⟨[.int a t, .str ("02d" : Str) u], []⟩) (.str (intSpecTextOf "02d" a)) := by
  intro prog w A R s hq
  unfold «int.__format__»
  show wpAny _ _ (do
    let _k ← typeNameOf (.str ("02d" : Str) u)
    let name ← typeNameOfCut 200 (.int a t)
    _) _ _ _
  refine wpAny_bind (wpAny_typeNameOf (T := "str") (typeIs_str _ _ _) (by decide) fun _ => ?_)
  refine wpAny_bind (wpAny_typeNameOfCut_int ?_)
  show wpAny _ _ (do
    let r ← overDigitLimit? a
    _) _ _ _
  rw [PySem.overDigitLimit_small h]
  exact (Gives.of_eq (m := .str (intSpecTextOf "02d" a)) (by kernel_rfl)) prog w A R s hq
theorem gives_pad3 {a : Int} {t u : Tok} (h : a.natAbs.log2 < 1920) : Gives («int.__format__» ⟨[.int a t, .str ("03d" : Str) u], []⟩) (.str (intSpecTextOf "03d" a)) := by
  intro prog w A R s hq
  unfold «int.__format__»
  show wpAny _ _ (do
    let _k ← typeNameOf (.str ("03d" : Str) u)
    let name ← typeNameOfCut 200 (.int a t)
    _) _ _ _
  refine wpAny_bind (wpAny_typeNameOf (T := "str") (typeIs_str _ _ _) (by decide) fun _ => ?_)
  refine wpAny_bind (wpAny_typeNameOfCut_int ?_)
  show wpAny _ _ (do
    let r ← overDigitLimit? a
    _) _ _ _
  rw [PySem.overDigitLimit_small h]
  exact (Gives.of_eq (m := .str (intSpecTextOf "03d" a)) (by kernel_rfl)) prog w A R s hq
theorem pad2_is : ∀ n : Nat, n < 100 → intSpecTextOf "02d" (n : Int) = Txt.zfill (toString (n : Int)) 2 := by decide +kernel
theorem pad3_is : ∀ n : Nat, n < 1000 → intSpecTextOf "03d" (n : Int) = Txt.zfill (toString (n : Int)) 3 := by decide +kernel
section
variable {X : Cx} {ρ ρ1 : Rho} {e : Expr} {pos p2 p3 : Pos} {j : Nat}
theorem fmt_any {sp y : Str} {a : Int} (hp : PE X e (wE X e)) (hne : (sp.length == 0) = false) (hz : sp.length ≤ sizeLine) (hy : y.length ≤ sizeLine) (g : ∀ t u, Gives («int.__format__» ⟨[.int a t, .str sp u], []⟩) (.str y)) :
    PE X (.FormattedValue e (-1) (some (.JoinedStr [.Constant (.str sp) j p2] p3)) pos) (fun σ H Q => wE X e σ H fun v H1 => v = .int a ∧ Q (.str y) H1) := by
  refine ⟨fun pins s σ H Q I h => wpAny_FormattedValue_spec (thn (hp.run pins s σ H _ I h) fun v s1 hv => ?_)⟩
  obtain ⟨x, H1, I1, r1, rfl, q⟩ := hv
  obtain ⟨t, rfl⟩ := r1
  have P := pe_joined1 (X := X) (pos := p3) (pe_str (X := X) (x := sp) (j := j) (pos := p2))
  refine thn (P.run pins s1 σ H1 (fun v H2 => v = .str sp ∧ Q (.str y) H2) I1 ⟨rfl, q⟩) fun r s2 hr => ?_
  obtain ⟨x2, H2, I2, r2, rfl, q2⟩ := hr
  obtain ⟨t2, rfl⟩ := r2
  exact ⟨sp, t2, rfl, wpAny_formatField_spec hne (fun s' => typeIs_int s' a t) F.slot_int_format F.entry_int_format F.args_int_format_2 (fun u => g t u) ⟨.str y, H2, (I2.tok _).tok _, ⟨_, rfl⟩, q2⟩ hz hy⟩
theorem ED.fmtP {sp y : Str} {i : Int} (h : ED X e ρ (.int i) ρ1) (hne : (sp.length == 0) = false) (hz : sp.length ≤ sizeLine) (hy : y.length ≤ sizeLine) (g : ∀ t u, Gives («int.__format__» ⟨[.int i t, .str sp u], []⟩) (.str y)) : ED X (.FormattedValue e (-1) (some (.JoinedStr [.Constant (.str sp) j p2] p3)) pos) ρ (.str y) ρ1 := fun C σ H0 H S Q q =>
  ⟨_, fmt_any pe_w hne hz hy g, h C σ H0 H S _ fun v H1 H1' e1 S1 r1 => by cases r1; exact ⟨rfl, q _ H1 H1' e1 S1 (.str _)⟩⟩
theorem small_log {n : Nat} (h : n < 1000) : (Int.natAbs (n : Int)).log2 < 1920 := by
  rw [Int.natAbs_natCast]
  exact Nat.lt_of_le_of_lt (Nat.log2_le_self n) (by omega)
theorem pad2_len : ∀ n : Nat, n < 100 → (Txt.zfill (toString (n : Int)) 2).length = 2 := by decide +kernel
theorem pad3_len : ∀ n : Nat, n < 1000 → (Txt.zfill (toString (n : Int)) 3).length = 3 := by decide +kernel
theorem ED.fmt2 {i : Int} (h : ED X e ρ (.int i) ρ1) (hi : 0 ≤ i ∧ i < 100) : ED X (.FormattedValue e (-1) (some (.JoinedStr [.Constant (.str "02d") j p2] p3)) pos) ρ (.str (Txt.zfill (toString i) 2)) ρ1 := by
  obtain ⟨n, rfl⟩ := Int.eq_ofNat_of_zero_le hi.1
  have hn : n < 100 := by omega
  refine ED.fmtP h rfl (by show 3 ≤ sizeLine; decide) (by rw [pad2_len n hn]; decide) fun t u => ?_
  rw [← pad2_is n hn]
  exact gives_pad2 (small_log (by omega))
theorem ED.fmt3 {i : Int} (h : ED X e ρ (.int i) ρ1) (hi : 0 ≤ i ∧ i < 1000) : ED X (.FormattedValue e (-1) (some (.JoinedStr [.Constant (.str "03d") j p2] p3)) pos) ρ (.str (Txt.zfill (toString i) 3)) ρ1 := by
  obtain ⟨n, rfl⟩ := Int.eq_ofNat_of_zero_le hi.1
  have hn : n < 1000 := by omega
  refine ED.fmtP h rfl (by show 3 ≤ sizeLine; decide) (by rw [pad3_len n hn]; decide) fun t u => ?_
  rw [← pad3_is n hn]
  exact gives_pad3 (small_log (by omega))
end
end Rg
namespace Rg
open PySem PySem.Spec PyProof.Rows L2

/-! ### the head: the library's facts and more -/
def hookX (n : Nat) (fa : List He.Fa) (fn : List He.DefD) (ex : PySem.W.Frag → Bool) : PySem.W.Hook where
  α := Bool × He.AlD
  obs := fun s => (ex (He.frG s.heap.get? (He.asD s.heap.get? n)), He.obsDG n fa fn s.heap.get?)
  val := fun _ => (true, He.valD fn)
  says := fun _ h => ∃ K : PySem.W.Frag, K.In h ∧ ex K = true ∧ He.SaysD fa fn K
  of := fun _ _ e => ⟨_, He.frG_in, congrArg Prod.fst e, congrArg Prod.snd e⟩
  keeps := fun _ _ _ ⟨K, i, y, c⟩ k => ⟨K, PySem.W.Frag.In.keeps i k, y, c⟩
def obX (n : Nat) (fa : List He.Fa) (fn : List He.DefD) (ex : PySem.W.Frag → Bool) (s : PySem.W.SharedT) : Bool × He.AlD := (ex (He.frG (HandSHeadRun.getT s) (He.asD (HandSHeadRun.getT s) n)), He.obsDG n fa fn (HandSHeadRun.getT s))
theorem obX_eq {n : Nat} {fa : List He.Fa} {fn : List He.DefD} {ex : PySem.W.Frag → Bool} (s : PySem.W.SharedT) : obX n fa fn ex s = (hookX n fa fn ex).obs s.abs := by
  have e : HandSHeadRun.getT s = s.abs.heap.get? := funext (HandSHeadRun.getT_eq s)
  unfold obX
  rw [e]
  rfl
/-- what isinstance asks of an own class, computed -/
def insB (K : PySem.W.Frag) (x : Str) : Bool := (He.Fa.cls x).ok K && (decide (PySem.W.findIn K (.ref (He.ga K x)) "__class__" = some (some (.builtin "object.__class__"))) && (decide (PySem.W.specialIn K (.builtin "object.__class__") "__get__" = some (some (.builtin "getset_descriptor.__get__"))) &&
  (decide (PySem.W.takesIn K (.builtin "object.__class__") = some true) && decide (PySem.W.mroIn K (He.ga K x) (.type "object") = some true))))
theorem insB_ok {K : PySem.W.Frag} {x : Str} (h : insB K x = true) : InsC K (He.ga K x) := by
  unfold insB at h
  simp only [Bool.and_eq_true, decide_eq_true_eq] at h
  exact ⟨He.cls_ok h.1, h.2.1, h.2.2.1, h.2.2.2.1, h.2.2.2.2⟩

/-! ### the law's end -/
section
variable {P : Program} {w : World} {K : PySem.W.Frag} {mg mb : Str → Option Value} {k : Nat} {fa a : Addr} {fd : FuncData} {x : Str} {sp : Sp} {t : Shared} {us : List Value} {ns : List Int}
def EndOk (t : Shared) (r : Result) (t' : Shared) : Prop := r = .ok (.ret (.bool true)) ∧ OldK t.heap t'.heap ∧ t'.os = t.os ∧ AllBare t'.gens
theorem end_at (hK : K.In t.heap) (hG : t.heap.Ns mainGlobals mg) (hB : t.heap.Ns builtinsNs mb) (hbb : ∀ x : Str, x ≠ "__name__" → mb x = bootBuiltins x) (hL : t.heap.NoLimit) (hgen : t.gens = #[])
    (hobj : t.heap.get? a = some { cls := .type "list", data := .seq us.toArray }) (hr : Room k callerA) (F : ∀ base : Heap, K.In base → base.Ns mainGlobals mg → Fn P w K mg base true k fa fd [x] sp) (hbind : ∀ (s : Shared) (u : Value), BindsTo s fd ⟨[u], []⟩ [(x, u)])
    (H : Hp) (hO : Only H) (hsp : sp [.ref a] H (fun v _ => v = .bl true) fun _ _ _ => False) (hok : HOk P w H t.heap) (only : ∀ b, H b ≠ none → b = a) (out : H a ≠ none → K.lookup a = none) :
    codeAny (model P w) callerA (.call (.ref fa) ⟨[.ref a], []⟩) (EndOk t) t := by
  have free : ∀ {b : Addr} {o : Obj}, t.heap.get? b = some o → b ≠ a → (hidT t.heap H).get? b = some o := fun {b o} e ne => by
    refine hidT_get e ?_
    cases q : H b with
    | none => rfl
    | some u => exact absurd (only b (by rw [q]; simp)) ne
  have ns : ∀ {b : Addr} {m : Str → Option Value}, t.heap.Ns b m → (hidT t.heap H).Ns b m := fun {b m} z => by
    obtain ⟨o, es, ep, e, d, r⟩ := z
    refine ⟨o, es, ep, free e fun hb => ?_, d, r⟩
    subst hb
    cases hobj.symm.trans e
    exact nomatch d
  have inK : K.In (hidT t.heap H) := fun b o e => by
    refine hidT_get (hK b o e) ?_
    cases q : H b with
    | none => rfl
    | some u =>
      have hb := only b (by rw [q]; simp)
      subst hb
      exact absurd (out (by rw [q]; simp)) (by rw [e]; simp)
  have md : Mod K mg (hidT t.heap H) := by
    obtain ⟨mc, c1, c2⟩ := hL
    exact ⟨inK, ns hG, ⟨mb, ns hB, hbb⟩, ⟨mc, ns c1, c2⟩⟩
  have env : Env0 P w K mg (hidT t.heap H) callerA [] t H := ⟨rfl, md, fun _ _ z => of_hidT z, Nat.le_of_eq (hidT_size _ _), trivial, fun _ z => (by cases z), hok, .of_eq hgen⟩
  have run := (F _ inK (ns hG)).run callerA [] t H ⟨[.ref a], []⟩ [.ref a] [.ref a] (fun v _ => v = .bl true) (fun _ _ _ => False) (fun _ => rfl) hr env (hbind t (.ref a)) (.cons rfl .nil) hsp
  refine codeAny_mono run fun r t' hq => ?_
  match r, hq with
  | .error e, hq =>
    obtain ⟨_, _, _, _, _, _, _, _, _, _, _, _, z⟩ := hq
    exact z.elim
  | .ok (.ret u), hq =>
    obtain ⟨v, H', os, bare, un, hok', rel, hv⟩ := hq
    have hv : v = .bl true := hv
    subst hv
    have rel : u = Value.bool true := rel
    subst rel
    refine ⟨rfl, OldK.of_keep fun b o e => ?_, os, bare⟩
    rcases hO b with z | ⟨ob, xs, z⟩
    · exact un.keep b o e z (fun m => by cases m) (fun m => by cases m)
    · obtain ⟨i1, _⟩ := hok b _ z
      obtain ⟨i2, _⟩ := hok' b _ (un.frzs b ob _ z)
      rw [← e, i1]
      exact i2
theorem end_run (hK : K.In t.heap) (hG : t.heap.Ns mainGlobals mg) (hB : t.heap.Ns builtinsNs mb) (hbb : ∀ x : Str, x ≠ "__name__" → mb x = bootBuiltins x) (hL : t.heap.NoLimit) (hgen : t.gens = #[])
    (hobj : t.heap.get? a = some { cls := .type "list", data := .seq us.toArray }) (hi : IntsAre us ns) (hz : ns.length ≤ sizeLine) (hr : Room k callerA) (F : ∀ base : Heap, K.In base → base.Ns mainGlobals mg → Fn P w K mg base true k fa fd [x] sp) (hbind : ∀ (s : Shared) (u : Value), BindsTo s fd ⟨[u], []⟩ [(x, u)])
    (hsp : ∀ H : Hp, SqL K H a (ns.map V.int) → sp [.ref a] H (fun v _ => v = .bl true) fun _ _ _ => False) : codeAny (model P w) callerA (.call (.ref fa) ⟨[.ref a], []⟩) (EndOk t) t := by
  have rel := vals_ints hi
  have size : us.toArray.size ≤ sizeLine := by rw [List.size_toArray, hi.length]; exact hz
  cases hk : K.lookup a with
  | some o =>
    cases hobj.symm.trans (hK a o hk)
    exact end_at hK hG hB hbb hL hgen hobj hr F hbind (fun _ => none) (fun _ => .inl rfl) (hsp _ (.inr ⟨_, us.toArray, _, hk, rfl, rfl, rfl, size, by simpa using rel⟩)) (fun b u z => nomatch (show (none : Option HO) = some u from z)) (fun b z => absurd rfl z) fun z => absurd rfl z
  | none =>
    let H : Hp := fun b => if b = a then some (.frz { cls := .type "list", data := .seq us.toArray } (.lst (ns.map V.int))) else none
    have at_a : H a = some (.frz { cls := .type "list", data := .seq us.toArray } (.lst (ns.map V.int))) := if_pos rfl
    have off : ∀ b, b ≠ a → H b = none := fun b hb => if_neg hb
    refine end_at hK hG hB hbb hL hgen hobj hr F hbind H (fun b => ?_) (hsp H (.inl (.inr ⟨_, at_a⟩))) (fun b u z => ?_) (fun b z => ?_) fun _ => hk
    · rcases Nat.decEq b a with q | q
      · exact .inl (off b q)
      · subst q
        exact .inr ⟨_, _, at_a⟩
    · rcases Nat.decEq b a with q | q
      · rw [off b q] at z
        cases z
      · subst q
        cases at_a.symm.trans z
        exact ⟨hobj, by rw [List.length_map]; exact hz, us, _, rel, hobj⟩
    · rcases Nat.decEq b a with q | q
      · exact absurd (off b q) z
      · exact q
end
theorem end_walk {l : PySem.W.OpenLaw} {n k : Nat} {q : Program} {loose : List Str} {XP : (Str → Option Value) → Heap → Prop} {YP : World → Heap → Prop} {d : DefRec} {x : Str} (hn : l.most = some n) (hn2 : n ≤ sizeLine) (hdf : d.params.defaults = []) (hr : Room k callerA)
    (F : ∀ (w : World) (mg : Str → Option Value) (fa : Addr) (h : Heap), YP w h → h.Ns mainGlobals mg → mg d.name = some (.ref fa) → ∃ (K : PySem.W.Frag) (fd : FuncData), K.In h ∧ (∀ (s : Shared) (u : Value), BindsTo s fd ⟨[u], []⟩ [(x, u)]) ∧
      ∀ base : Heap, K.In base → base.Ns mainGlobals mg → Fn l.prog w K mg base true k fa fd [x] (spOf K fun as r => ∃ ns : List Int, as = [.sh (.lst (ns.map .int))] ∧ ns.length ≤ n ∧ (∀ z ∈ ns, Builtin.Int.intBits z ≤ 1048576) ∧ r = .ret (.bl true) [])) :
    PySem.W.WalkO q loose XP YP l.row.toRowW d [] (fun f vs => PySem.call f vs) := by
  refine Att.attach_callB hn hdf fun w s₀ s₁ mg mb fa o pm cd doc a vs ns G Y _ _ _ hmg hobj hints hlen hbits hg => ?_
  obtain ⟨K, fd, KX, hb, hF⟩ := F w mg fa _ Y G.T.g hmg
  refine end_run KX G.T.g G.T.b G.T.builtins G.T.nolimit hg hobj hints (Nat.le_trans hlen hn2) hr hF hb fun H hS => ?_
  exact ⟨H, [.sh (.lst (ns.map .int))], .ret (.bl true) [], Evl.Ex.refl _, .sh (.lst hS (RpL.ints ns)) .nil, List.nodup_nil, ⟨ns, rfl, hlen, hbits, rfl⟩, fun v H0' H' _ r => by cases r; rfl⟩
end Rg
namespace Rg
open PySem PySem.Spec PyProof.Rows L2
section
variable {X : Cx} {ρ ρ1 ρ2 : Rho} {a b c e : Expr} {x y z d : D} {pos : Pos} {P P' : DE} {rest as bs : List Stmt}
theorem SB.nxt {N : Rho → Prop} (h : SB X as ρ { P with nx := N }) (h1 : ∀ ρ, N ρ → P.nx ρ) : SB X as ρ P := fun C σ H0 H E W S F => h C σ H0 H E W S ⟨fun ρ σ a b x s q => F.nx ρ σ a b x s (h1 ρ q), F.bk, F.ct, F.rt, F.ro, F.tk, F.ex⟩
/-- both branches end in the same state -/
theorem SD.iteC {k : Bool} (ρ2 : Rho) (hc : ET X c ρ k ρ1) (h1 : k = true → SB X as ρ1 { P with nx := fun r => r = ρ2 }) (h2 : k = false → SB X bs ρ1 { P with nx := fun r => r = ρ2 }) (h : P.nx ρ2) : SD X (.If c as bs pos) ρ P :=
  .ite hc (fun q => (h1 q).nxt fun r e => by subst e; exact h) fun q => (h2 q).nxt fun r e => by subst e; exact h
/-- .. in states of the same kind -/
theorem SD.iteN {k : Bool} (N : Rho → Prop) (hc : ET X c ρ k ρ1) (h1 : k = true → SB X as ρ1 { P with nx := N }) (h2 : k = false → SB X bs ρ1 { P with nx := N }) (h : ∀ r, N r → P.nx r) : SD X (.If c as bs pos) ρ P :=
  .ite hc (fun q => (h1 q).nxt h) fun q => (h2 q).nxt h
theorem ED.st (h : ED X e ρ d ρ1) (q : ρ1 = ρ2) : ED X e ρ d ρ2 := q ▸ h
theorem ET.st {k : Bool} (h : ET X e ρ k ρ1) (q : ρ1 = ρ2) : ET X e ρ k ρ2 := q ▸ h
theorem ET.is' {k l : Bool} (h : ET X e ρ k ρ1) (q : k = l) : ET X e ρ l ρ1 := q ▸ h
theorem EO.is {b1 b2 : Ob} (h : EO X e ρ b1 ρ1) (q : b1 = b2) : EO X e ρ b2 ρ1 := q ▸ h
end
end Rg
namespace Rg
open PySem PySem.Spec PyProof.Rows L2
section
variable {X : Cx} {ρ1 : Rho} {tg elt : Expr} {scope : Scope} {js : List Nat} {ds : List D}
/-- a comprehension without a test that changes nothing -/
theorem Turns.map (f : D → D) (R : Rho) (R2 : D → Rho) (h0 : R = emp (ρ1.map toB) js) (hol : noOl R = true) (hz : ds.length ≤ sizeLine) (hg : ∀ d ∈ ds, ∀ X', BlkX X scope X' → SGw X' tg d R js (R2 d)) (he : ∀ d ∈ ds, ∀ X', BlkX X scope X' → ED X' elt (R2 d) (f d) (R2 d)) (hn : ∀ d, nobL (R2 d) js = true) (hr : ∀ d, emp (R2 d) js = R) : Turns X tg [] elt scope js ds ρ1 (ds.map f) (upR ρ1 R) := by
  refine ⟨fun _ => R, fun _ d => R2 d, fun _ d => R2 d, fun _ d => R2 d, fun _ _ => true, fun _ d => f d, fun i => (ds.take i).map f, h0, rfl, by show (ds.take ds.length).map f = _; rw [List.take_length], rfl, fun _ => hol, fun i d hd => ⟨?_, hg d (List.mem_of_getElem? hd), fun X' _ => .nil, fun _ => ⟨he d (List.mem_of_getElem? hd), hn d, hr d, ?_⟩, fun h => nomatch h⟩⟩
  · have := (List.getElem?_eq_some_iff.mp hd).1
    show ((ds.take i).map f).length < _
    rw [List.length_map, List.length_take]
    omega
  · show (ds.take (i + 1)).map f = (ds.take i).map f ++ [f d]
    rw [List.take_succ, hd]
    simp
end
end Rg
namespace Rg
open PySem PySem.Spec PyProof.Rows L2

/-! ### exception classes -/
def oexB (K : PySem.W.Frag) (C : Addr) : Bool := (match K.lookup C with
  | some ⟨.type ty, dd, .cls cd, sl⟩ => (match cd.mro, sl.toList with
    | .ref D :: bm, [k0, k1, k2, k3, some (.builtin n), k5] => decide (ty = "type") && (decide (D = C) && (decide (n = "ValueError.__new__") && (!cd.hasDel && (cd.hasDict && PySem.HandSPX.refsVE bm))))
    | _, _ => false)
  | _ => false) && (decide (PySem.W.findIn K (.ref C) "__setattr__" = some (some (.builtin "object.__setattr__"))) && (decide (PySem.W.subIn K (.ref C) (.type "BaseException") = some true) && (decide (PySem.W.typeIn K (.ref C) = some (.type "type")) && PySem.W.keepIn K (.ref C))))
theorem oexB_ok {K : PySem.W.Frag} {C : Addr} (h : oexB K C = true) : OexC K C := by
  unfold oexB at h
  obtain ⟨h, h2⟩ := Bool.and_eq_true_iff.mp h
  simp only [Bool.and_eq_true, decide_eq_true_eq] at h2
  obtain ⟨a1, a2, a3, a4⟩ := h2
  refine ⟨?_, a1, a2, a3, a4⟩
  split at h
  · rename_i ty dd cd sl ho
    split at h
    · rename_i D bm k0 k1 k2 k3 n k5 hm hs
      simp only [Bool.and_eq_true, decide_eq_true_eq, Bool.not_eq_true'] at h
      obtain ⟨t1, t2, t3, t4, t5, t6⟩ := h
      obtain ⟨nm, bs, mro, ns, qn, hd, sn, sub, ab, col, del⟩ := cd
      obtain ⟨l⟩ := sl
      dsimp only at hm t4 t5 hs
      subst t1 t2 t3 t4 t5 hm hs
      exact ⟨nm, qn, ns, bs, bm, sn, sub, ab, col, dd, k0, k1, k2, k3, k5, ho, t6⟩
    · cases h
  · cases h
/-- an own exception class with one field -/
structure XC (K : PySem.W.Frag) (C : Addr) (f : Str) : Prop where
  ox : OexC K C
  xf : XfC K C
  no : PySem.W.findIn K (.ref C) f = some none
def xcB (K : PySem.W.Frag) (C : Addr) (f : Str) : Bool := oexB K C && (xfB K C && decide (PySem.W.findIn K (.ref C) f = some none))
theorem xcB_ok {K : PySem.W.Frag} {C : Addr} {f : Str} (h : xcB K C f = true) : XC K C f := by
  unfold xcB at h
  simp only [Bool.and_eq_true, decide_eq_true_eq] at h
  exact ⟨oexB_ok h.1, xfB_ok h.2.1, h.2.2⟩
/-- its __init__ -/
def initSp (K : PySem.W.Frag) (f : Str) : Sp := fun vs H Q _ => ∃ (a C : Addr) (v : V), vs = [.ref a, v] ∧ XC K C f ∧ H a = some (exo a C none) ∧ ∀ dx, H dx = none → dx ≠ a → Q .non (upd (upd H dx (exd dx [(f, v)])) a (exo a C (some dx)))
structure Mkx (P : Program) (w : World) (K : PySem.W.Frag) (mg : Str → Option Value) (base : Heap) (x : Str) (C : Addr) (k : Nat) (f : Str) : Prop where
  xc : XC K C f
  hmg : mg x = some (.ref C)
  ex : ∃ (fI : Addr) (fd : FuncData) (ps : List Str), FnOk P w K mg base (L2.CX P w) k fI fd ps (initSp K f) ∧ PySem.W.findIn K (.ref C) "__init__" = some (some (.ref fI)) ∧ PySem.W.typeIn K (.ref fI) = some (.type "function") ∧ Binds K fd ps []

/-! ### raising -/
def RD (X : Cx) (e : Expr) (ρ : Rho) (Dx : Addr) (fs : List (Str × D)) (ρ' : Rho) : Prop := ∀ (C : En) (σ : L2.St) (H0 H : Hp) (W : WX), Takes X W → Sat X.K C ρ σ H0 H → (∀ d H0' H', Ex H0 H0' → Sat X.K C ρ' σ H0' H' → XDat X.K H0' d fs → W (.ref Dx) (some d) σ H') → ∀ Q, wE X e σ H Q
def RA (X : Cx) (es : List Expr) (ρ : Rho) (Dx : Addr) (fs : List (Str × D)) (ρ' : Rho) : Prop := ∀ (C : En) (σ : L2.St) (H0 H : Hp) (W : WX), Takes X W → Sat X.K C ρ σ H0 H → (∀ d H0' H', Ex H0 H0' → Sat X.K C ρ' σ H0' H' → XDat X.K H0' d fs → W (.ref Dx) (some d) σ H') → ∀ Q, wA X es σ H Q
def RT (X : Cx) (e : Expr) (ρ : Rho) (Dx : Addr) (fs : List (Str × D)) (ρ' : Rho) : Prop := ∀ (C : En) (σ : L2.St) (H0 H : Hp) (W : WX), Takes X W → Sat X.K C ρ σ H0 H → (∀ d H0' H', Ex H0 H0' → Sat X.K C ρ' σ H0' H' → XDat X.K H0' d fs → W (.ref Dx) (some d) σ H') → ∀ Q, wT X e σ H Q
section
variable {X : Cx} {k : Nat} {f : Addr} {fd : FuncData} {ps : List Str} {sp : Sp} {n : Str} {np pos : Pos} {e : Expr} {es : List Expr} {t : TA} {g : Bool} {E : XK}
theorem run_gS {pins : List (Addr × Obj)} {σ : L2.St} {H : Hp} {s : Shared} {Q : VK} {us : List Value} {vs : List V} (F : Fn X.prog X.w X.K X.mg X.base g k f fd ps sp) (hgd : g = true → X.A.guards = some []) (hr : Room k X.A) (hb : Binds X.K fd ps [])
    (hx : PassesAt (L2.CX X.prog X.w) X σ E) (I : Inv X pins σ H s) (r : Vals vs us) (h : sp vs H Q E) : wpAny (model X.prog X.w) X.A (call (.ref f) us) (L2.EP X pins σ Q) X.xe s := by
  have hl : us.length = ps.length := r.length.symm.trans (F.len _ _ _ _ h)
  have hb' : BindsTo s fd ⟨us, []⟩ (ps.zip us) := by
    have z := hb s us I.kIn (by rw [List.append_nil]; exact hl)
    rw [List.append_nil] at z
    exact z
  refine wpAny_call (codeAny_mono (F.run X.A X.stack s H _ us vs Q E hgd hr I.env0 hb' r h) fun r s' hq => ?_)
  match r, hq with
  | .error e, hq => exact hx pins H s e s' I hq
  | .ok (.ret u), hq => exact I.after hq
theorem pe_callGS {W : WX} (F : Fn X.prog X.w X.K X.mg X.base g k f fd ps sp) (hgd : g = true → X.A.guards = some []) (hr : Room k X.A) (hg : Gl X n) (hm : X.mg n = some (.ref f)) (hk : PySem.W.keepIn X.K (.ref f) = true) (hb : Binds X.K fd ps []) (tk : Takes X W)
    (ha : PA X (e :: es) t) (hd : (n == ("__debug__" : Str)) = false) (he : starEach (e :: es) X.env = (false, eval e X.env) :: starEach es X.env) (hpl : (backTo pos (starEach es X.env)).any (·.1) = false) :
    PE X (.Call (.Name n np) (e :: es) [] pos) (fun σ H Q => t σ H fun vs H1 => sp vs H1 Q (WE W σ)) := by
  refine ⟨fun pins s σ H Q I h => wpAny_Call_Name_kw (ld_glob I hg hm ?_ hd)⟩
  exact PySem.W.callWith_K (h₀ := X.base) I.ok.mod.kin hk (thn (ha.run pos pins s σ H _ I h) fun us s1 q1 => by
    obtain ⟨vs, H1, I1, r, q⟩ := q1
    exact ⟨I1.kIn, run_gS F hgd hr hb (passAt tk σ) I1 r q⟩) he hpl
end
section
variable {P0 : Program} {w : World} {K : PySem.W.Frag} {mg : Str → Option Value} {base : Heap} {X X' : Cx} {ρ ρ1 ρ2 ρ3 : Rho} {a b c e o : Expr} {es : List Expr} {x y z d : D} {pos apos np : Pos} {N : List Str} {is : List Nat} {gs : List Str} {P : DE} {ds : List D} {sc : Scope} {C : Addr} {fs : List (Str × D)} {g : Bool} {k : Nat} {R : Ct} {n f : Str}
theorem RD.call (F : Cal P0 w K mg base g n k R) (hgd : g = true → X.A.guards = some []) (hr : Room k X.A) (B : Bd P0 w K mg base X N is gs) (m : Nat) (hg : gs[m]? = some n) (ha : EA X (e :: es) ρ ds ρ1) (hR : R (ds.map .sh) (.err C fs []))
    (he : starEach (e :: es) X.env = (false, eval e X.env) :: starEach es X.env := by rfl) (hpl : (backTo pos (starEach es X.env)).any (·.1) = false := by rfl) : RD X (.Call (.Name n np) (e :: es) [] pos) ρ C fs ρ1 := fun C' σ H0 H W tk S q Q => by
  obtain ⟨rfl⟩ := B.hP
  obtain ⟨rfl⟩ := B.hw
  obtain ⟨rfl⟩ := B.hK
  obtain ⟨rfl⟩ := B.hm
  obtain ⟨rfl⟩ := B.hb
  obtain ⟨f, fd, ps, F, hm, hk, hb⟩ := F.ex
  refine ⟨_, pe_callGS F hgd hr (B.gl m n hg).1 hm hk hb tk pa_w (B.gl m n hg).2.1 he hpl, ha C' σ H0 H S _ fun vs H1 H1' e1 S1 r1 => ?_⟩
  obtain ⟨a1, a2⟩ := arl_sh (H := H1') r1
  refine ⟨H1, ds.map .sh, _, S1.ex, a1, by rw [a2]; exact List.nodup_nil, hR, fun d H2 H2' b xd => ?_⟩
  rw [a2] at b
  exact q d H2 H2' (e1.trans b.e0) (S1.back b) xd
theorem RA.here (h : RD X e ρ C fs ρ1) (hs : starEach (e :: es) X.env = (false, eval e X.env) :: starEach es X.env := by rfl) : RA X (e :: es) ρ C fs ρ1 := fun C' σ H0 H W tk S q Q => ⟨_, pa_cons pe_w pa_w hs, h C' σ H0 H W tk S q _⟩
theorem RA.next (h : ED X e ρ d ρ1) (r : RA X es ρ1 C fs ρ2) (hs : starEach (e :: es) X.env = (false, eval e X.env) :: starEach es X.env := by rfl) : RA X (e :: es) ρ C fs ρ2 := fun C' σ H0 H W tk S q Q => ⟨_, pa_cons pe_w pa_w hs, h C' σ H0 H S _ fun v H1 H1' e1 S1 _ => r C' σ H1 H1' W tk S1 (fun d H2 H2' e2 => q d H2 H2' (e1.trans e2)) _⟩
theorem RD.lst (h : RA X es ρ C fs ρ1) : RD X (.List es pos) ρ C fs ρ1 := fun C' σ H0 H W tk S q Q => ⟨_, pe_lst pa_w, h C' σ H0 H W tk S q _⟩
theorem RD.tup {kk : Nat} (h : RA X es ρ C fs ρ1) : RD X (.Tuple es kk pos) ρ C fs ρ1 := fun C' σ H0 H W tk S q Q => ⟨_, pe_tup pa_w, h C' σ H0 H W tk S q _⟩
theorem RD.fld {nm : Str} (h : RD X e ρ C fs ρ1) (hb : attributeBase e nm X.env (eval e X.env) = eval e X.env := by rfl) : RD X (.Attribute e nm pos) ρ C fs ρ1 := fun C' σ H0 H W tk S q Q => ⟨_, pe_fld pe_w hb, h C' σ H0 H W tk S q _⟩
/-- an argument raises -/
theorem RD.arg (F : Cal P0 w K mg base g n k R) (hgd : g = true → X.A.guards = some []) (hr : Room k X.A) (B : Bd P0 w K mg base X N is gs) (m : Nat) (hg : gs[m]? = some n) (ha : RA X (e :: es) ρ C fs ρ1)
    (he : starEach (e :: es) X.env = (false, eval e X.env) :: starEach es X.env := by rfl) (hpl : (backTo pos (starEach es X.env)).any (·.1) = false := by rfl) : RD X (.Call (.Name n np) (e :: es) [] pos) ρ C fs ρ1 := fun C' σ H0 H W tk S q Q => by
  obtain ⟨rfl⟩ := B.hP
  obtain ⟨rfl⟩ := B.hw
  obtain ⟨rfl⟩ := B.hK
  obtain ⟨rfl⟩ := B.hm
  obtain ⟨rfl⟩ := B.hb
  obtain ⟨f, fd, ps, F, hm, hk, hb⟩ := F.ex
  exact ⟨_, pe_callG F hgd hr (B.gl m n hg).1 hm hk hb passL pa_w (B.gl m n hg).2.1 he hpl, ha C' σ H0 H W tk S q _⟩
theorem RT.val (h : RD X e ρ C fs ρ1) (he : ∀ whole, isTrue e X.env whole = (do let v ← whole; standAt e.pos; holding [v] (truthy v))) : RT X e ρ C fs ρ1 := fun C' σ H0 H W tk S q Q => ⟨_, pt_val pe_w he, h C' σ H0 H W tk S q _⟩
theorem RT.not (h : RT X e ρ C fs ρ1) : RT X (.UnaryOp .Not e pos) ρ C fs ρ1 := fun C' σ H0 H W tk S q Q => ⟨_, pt_not pt_w, h C' σ H0 H W tk S q _⟩

/-! ### statements that raise -/
theorem SD.exprX (he : RD X e ρ C fs ρ1) (h : P.ex C fs ρ1) (hs : swapsWith e none pos.line X.env = pure false := by rfl) : SD X (.Expr e pos) ρ P := fun C' σ H0 H E W S F => ⟨_, ps_expr pe_w hs, he C' σ H0 H W F.tk S (fun d H1 H1' e1 S1 xd => F.ex ρ1 σ H1 H1' C d fs e1 S1 xd h) _⟩
theorem SD.retX (he : RD X e ρ C fs ρ1) (h : P.ex C fs ρ1) : SD X (.Return (some e) pos) ρ P := fun C' σ H0 H E W S F => ⟨_, ps_ret pe_w, he C' σ H0 H W F.tk S (fun d H1 H1' e1 S1 xd => F.ex ρ1 σ H1 H1' C d fs e1 S1 xd h) _⟩
theorem SD.asgX (B : Df P0 w K mg base X N is gs) (i : Nat) {m : Str} {mp : Pos} (hN : N[i]? = some m) (he : RD X e ρ C fs ρ1) (h : P.ex C fs ρ1)
    (hs : swapsWithSole [.Name m mp] e pos.line X.env = pure false := by rfl) (hw : swappedStores [.Name m mp] e X.env = pure none := by rfl)
    (h1 : (assignEach [.Name m mp] X.env).map (·.2) = [assign (.Name m mp) X.env] := by rfl) (ho : is.contains i = true := by rfl) : SD X (.Assign [.Name m mp] e pos) ρ P := fun C' σ H0 H E W S F =>
  ⟨_, ps_asg pe_w (B.pg hN ho) hs hw h1, he C' σ H0 H W F.tk S (fun d H1 H1' e1 S1 xd => F.ex ρ1 σ H1 H1' C d fs e1 S1 xd h) _⟩
theorem SD.iteX {as bs : List Stmt} (hc : RT X c ρ C fs ρ1) (h : P.ex C fs ρ1) : SD X (.If c as bs pos) ρ P := fun C' σ H0 H E W S F => ⟨_, ps_if pt_w pss_w pss_w, hc C' σ H0 H W F.tk S (fun d H1 H1' e1 S1 xd => F.ex ρ1 σ H1 H1' C d fs e1 S1 xd h) _⟩
/-- l.append(..), the argument raises -/
theorem SD.appX (B : Bd P0 w K mg base X N is gs) (i : Nat) (hN : N[i]? = some n) (hi : is.contains i = true) {s0 : Sl} (he : RD X e ρ C fs ρ1) (h0 : ρ[i]? = some s0) (hsl : s0 = .ol (.lst ds) ∨ s0 = .ob (.lst ds)) (h : P.ex C fs ρ1)
    (hbase : attributeBase (.Name n np) "append" X.env (eval (.Name n np) X.env) = eval (.Name n np) X.env := by rfl) {cpos : Pos}
    (hfew : ((backTo cpos (starEach [e] X.env)).all (fun x => !x.1) && (backToKw cpos (keywordEach [] X.env)).all (fun x => x.1.isSome) && decide ([e].length + ([] : List Keyword).length + (if ([] : List Keyword).isEmpty then 0 else 1) < 30)) = true := by rfl)
    (hline : (apos.endLine == cpos.line) = true := by rfl) (hst : starEach [e] X.env = (false, eval e X.env) :: starEach [] X.env := by rfl)
    (hsw : swapsWith (.Call (.Attribute (.Name n np) "append" apos) [e] [] cpos) none pos.line X.env = pure false := by rfl) : SD X (.Expr (.Call (.Attribute (.Name n np) "append" apos) [e] [] cpos) pos) ρ P := fun C' σ H0 H E W S F => by
  have key : ∃ p vs, σ[i]? = some (some (.ref p)) ∧ H p = some (.lst vs) := by
    have z := S.sl i s0 h0
    rcases hsl with rfl | rfl
    · obtain ⟨p, o, e1, e2, _, e4, _⟩ := z
      cases e4 with
      | lst e4 => exact ⟨p, _, e1, e2⟩
    · obtain ⟨p, o, e1, e2, _, e4, _⟩ := z
      cases e4 with
      | lst e4 => exact ⟨p, _, e1, e2⟩
  obtain ⟨p, vs, k1, k2⟩ := key
  exact ⟨_, ps_expr (pe_bm PySem.F.plainAttrs_list PySem.F.slot_list_append PySem.F.type_list_append mt_append (B.pe hN hi) (pa_cons pe_w pa_nil hst) hbase hfew hline hst) hsw, .ref p, k1, .inl ⟨rfl, _, .inl (.inl k2)⟩, he C' σ H0 H W F.tk S (fun d H1 H1' e1 S1 xd => F.ex ρ1 σ H1 H1' C d fs e1 S1 xd h) _⟩
/-- raise X(e) -/
theorem SD.raise {cp : Pos} (M : Mkx P0 w K mg base n C k f) (hr : Room (k + 1) X.A) (B : Df P0 w K mg base X N is gs) (m : Nat) (hg : gs[m]? = some n) (he : ED X e ρ d ρ1) (h : P.ex C [(f, d)] ρ1)
    (hs : starEach [e] X.env = (false, eval e X.env) :: starEach [] X.env := by rfl) (hpl : (backTo cp (starEach [] X.env)).any (·.1) = false := by rfl) : SD X (.Raise (some (.Call (.Name n np) [e] [] cp)) none pos) ρ P := fun C' σ H0 H E W S F => by
  obtain ⟨rfl⟩ := B.hP
  obtain ⟨rfl⟩ := B.hw
  obtain ⟨rfl⟩ := B.hK
  obtain ⟨rfl⟩ := B.hm
  obtain ⟨rfl⟩ := B.hb
  obtain ⟨fI, fd, ps, F1, iC, tI, hb⟩ := M.ex
  refine ⟨_, ps_raise B.calm F.tk (pmk_oex M.xc.ox iC tI F1 hr hb .nil passL (B.gl m n hg).1 M.hmg (pa_cons pe_w pa_nil hs) (B.gl m n hg).2.1 hs hpl), he C' σ H0 H S _ fun v H1 H1' e1 S1 r1 => ⟨by show 1 ≤ 1000; decide, fun a na => ?_⟩⟩
  refine ⟨a, C, v, rfl, M.xc, upd_same, fun dx nx ne => ⟨rfl, dx, [(f, v)], upd_same, ?_, ?_, ?_⟩⟩
  · rw [upd_ne ne, upd_same]
  · rwa [upd_ne ne] at nx
  · have nd : H1' dx = none := by rwa [upd_ne ne] at nx
    have eq : upd (del (upd (upd (upd H1' a (exo a C none)) dx (exd dx [(f, v)])) a (exo a C (some dx))) a) dx (.xd [(f, v)]) = upd H1' dx (.xd [(f, v)]) := by
      funext b
      by_cases hb : b = dx
      · rw [hb, upd_same, upd_same]
      · rw [upd_ne hb, upd_ne hb]
        by_cases ha : b = a
        · rw [ha, del_same, na]
        · rw [del_ne ha, upd_ne ha, upd_ne hb, upd_ne ha]
    rw [eq]
    exact F.ex ρ1 σ _ _ C dx [(f, d)] (e1.trans (Evl.Ex.new (S1.fresh0 nd))) (S1.new nd) ⟨_, upd_same, .cons (r1.mono (Evl.Ex.new (S1.fresh0 nd))) .nil⟩ h
/-! ### try: body, except x as n: suite -/
def TrX (X X' : Cx) : Prop := ∃ (pn : List (Addr × Obj)) (xe : Value → Shared → Prop), X' = X.tr pn xe
theorem Df.tr (B : Df P0 w K mg base X N is gs) {pn : List (Addr × Obj)} {xe : Value → Shared → Prop} (po : PassesOwn (model X.prog X.w) X.A X.env xe) : Df P0 w K mg base (X.tr pn xe) N is gs :=
  { hP := B.hP, hw := B.hw, hK := B.hK, hm := B.hm, hb := B.hb, hN := B.hN, nd := B.nd, vis := B.vis, gl := B.gl, calm := B.calm, po := po, stk := B.stk, frm := B.frm, lo := B.lo }
theorem Bd.suite (B : Bd P0 w K mg base X N is gs) {a : Addr} {pn : List (Addr × Obj)} : Bd P0 w K mg base (X.suite a pn) N is gs :=
  { hP := B.hP, hw := B.hw, hK := B.hK, hm := B.hm, hb := B.hb, hN := B.hN, nd := B.nd, vis := B.vis, gl := B.gl }
/-- how a suite ends: its name's slot is given up -/
def DE.off (P : DE) (i : Nat) : DE where
  nx := fun ρ => Sl.nb ρ i = true ∧ P.nx (ρ.set i .emp)
  rt := P.rt
  ro := P.ro
  bk := fun ρ => Sl.nb ρ i = true ∧ P.bk (ρ.set i .emp)
  ct := fun ρ => Sl.nb ρ i = true ∧ P.ct (ρ.set i .emp)
theorem SD.tryAs {xn : Str} {cv : Value} {body suite : List Stmt} {b₀ : Stmt} {pos' : Pos} (B : Df P0 w K mg base X N is gs) (hsc : X.env.scope = sc) (i : Nat) (hN : N[i]? = some n) (hl : sc.names.lookup n = some .local) (hc : Names X xn cv) (Pe : Addr → List (Str × D) → Rho → Prop)
    (hb : ∀ X', TrX X X' → Df P0 w K mg base X' N is gs → SB X' body ρ { P with ex := Pe })
    (hx : ∀ C fs ρ', Pe C fs ρ' → ∃ b, PySem.W.exmOne K (.ref C) cv = some b ∧ (b = true → Sl.nb ρ' i = true ∧ ∀ (a d : Addr) (oe : Obj) (pn : List (Addr × Obj)), Zc (.ref C) (some d) oe → (∃ vs, oe.data = .fields vs) → SB (X.suite a ((a, oe) :: pn)) (b₀ :: suite) (ρ'.set i (.sh (.exc a d C fs))) (P.off i)) ∧ (b = false → P.ex C fs ρ')) :
    SD X (.Try body [.ExceptHandler (some (.Name xn np)) (some n) (b₀ :: suite) pos'] [] [] pos) ρ P := fun C' σ H0 H E W S F => by
  have eK := B.hK
  subst eK
  refine ⟨_, ps_try_as (tb := fun W' D σ H => ∀ pn xe, Takes (X.tr pn xe) W' → PassesOwn (model X.prog X.w) X.A X.env xe → wB (X.tr pn xe) body D σ H) (ts := fun a cls d D σ H => ∀ oe pn, Zc cls d oe → (∃ vs, oe.data = .fields vs) → wB (X.suite a ((a, oe) :: pn)) (b₀ :: suite) D σ H)
    B.stk B.frm B.nd (by rw [B.hN]; exact hN) (by show X.env.scope.names.lookup n = some .local; rw [hsc]; exact hl) hc F.tk (fun W' pn xe tk po => ⟨fun pins s σ H D I h => pss_w.run pins s σ H D I (h pn xe tk po)⟩)
    (fun a oe cls d pn hz hv => ⟨fun pins s σ H D I h => pss_w.run pins s σ H D I (h oe pn hz hv)⟩), fun pn xe tk po => ?_⟩
  refine hb _ ⟨pn, xe, rfl⟩ (B.tr po) C' σ H0 H E _ S ⟨F.nx, F.bk, F.ct, F.rt, F.ro, tk, fun ρ' σ' H0' H' C d fs ex S' xd q => ?_⟩
  obtain ⟨b, h1, h2, h3⟩ := hx C fs ρ' q
  refine ⟨b, h1, fun hbt a na oe pn' hz hv => ?_, fun hbf => F.ex ρ' σ' H0' H' C d fs ex S' xd (h3 hbf)⟩
  obtain ⟨hnb, run⟩ := h2 hbt
  obtain ⟨vs, xd1, xd2⟩ := xd
  refine run a d oe pn' hz hv C' (σ'.set i (some (.ref a))) H0' H' _ _ (S'.set (.exc C xd1 xd2) (Sl.nb_ok hnb)) ⟨fun ρ2 σ2 H2 H2' e2 S2 q2 => ?_, fun ρ2 σ2 H2 H2' e2 S2 q2 => ?_, fun ρ2 σ2 H2 H2' e2 S2 q2 => ?_, fun ρ2 σ2 H2 H2' v d2 e2 S2 r2 q2 => ?_, fun ρ2 σ2 H2 H2' p b2 e2 S2 r2 q2 => ?_, takes0, fun ρ2 σ2 H2 H2' _ _ _ _ _ _ q2 => q2.elim⟩
  · exact F.nx _ _ H2 H2' (ex.trans e2) (S2.wipe1 (Sl.nb_ok q2.1)) q2.2
  · exact F.bk _ _ H2 H2' (ex.trans e2) (S2.wipe1 (Sl.nb_ok q2.1)) q2.2
  · exact F.ct _ _ H2 H2' (ex.trans e2) (S2.wipe1 (Sl.nb_ok q2.1)) q2.2
  · exact F.rt ρ2 σ2 H2 H2' v d2 (ex.trans e2) S2 r2 q2
  · exact F.ro ρ2 σ2 H2 H2' p b2 (ex.trans e2) S2 r2 q2
/-- e.f in a suite -/
theorem ED.xf {a dd : Addr} {oe : Obj} {pn : List (Addr × Obj)} (B : Bd P0 w K mg base X N is gs) (T : XC K C f) (hz : Zc (.ref C) (some dd) oe) (hv : ∃ vs, oe.data = .fields vs) (he : ED (X.suite a ((a, oe) :: pn)) e ρ (.exc a dd C fs) ρ1) (hl : fs.lookup f = some y)
    (hb : attributeBase e f X.env (eval e X.env) = eval e X.env := by rfl) : ED (X.suite a ((a, oe) :: pn)) (.Attribute e f pos) ρ y ρ1 := fun C' σ H0 H S Q q => by
  have eK := B.hK
  subst eK
  refine ⟨_, pe_xf (cls := .ref C) (d := some dd) T.xf T.no hz hv pe_w hb, he C' σ H0 H S _ fun v H1 H1' e1 S1 r1 => ?_⟩
  cases r1 with
  | exc _ h1 h2 =>
    obtain ⟨u, g1, g2⟩ := h2.lookup hl
    exact ⟨rfl, rfl, dd, _, u, rfl, S1.ex _ _ h1, g1, q u H1 H1' e1 S1 g2⟩
end
end Rg
namespace Rg
open PySem PySem.Spec PyProof.Rows L2

def exIsB (K : PySem.W.Frag) (C : Addr) : Bool := decide (PySem.W.findIn K (.ref C) "__getattribute__" = some (some (.builtin "BaseException.__getattribute__"))) && (decide (PySem.W.findIn K (.ref C) "__getattr__" = some none) && (decide (PySem.W.subIn K (.ref C) (.type "BaseException") = some true) && (PySem.W.hasDictIn K C &&
  (decide (PySem.W.findIn K (.ref C) "__class__" = some (some (.builtin "object.__class__"))) && (decide (PySem.W.specialIn K (.builtin "object.__class__") "__get__" = some (some (.builtin "getset_descriptor.__get__"))) && (decide (PySem.W.takesIn K (.builtin "object.__class__") = some true) && decide (PySem.W.mroIn K C (.type "object") = some true)))))))
theorem exIsB_ok {K : PySem.W.Frag} {C : Addr} (h : exIsB K C = true) : ExcC K C := by
  unfold exIsB at h
  simp only [Bool.and_eq_true, decide_eq_true_eq] at h
  obtain ⟨h1, h2, h3, h4, h5, h6, h7, h8⟩ := h
  exact ⟨h1, h2, h3, h4, h5, h6, h7, h8⟩
/-- isinstance(e, c): e the exception in hand, with its dict -/
theorem call_isX {X : Cx} {a C dd : Addr} {oe : Obj} {pn : List (Addr × Obj)} (T : ExcC X.K C) (hz : Zc (.ref C) (some dd) oe) (hf : ∃ vs, oe.data = .fields vs) : CallR (X.suite a ((a, oe) :: pn)) (.builtin "isinstance")
    (fun xs H Q => ∃ (c : V) (cv : Value) (b : Bool) (fs : List (Str × V)), xs = [.ref a, c] ∧ (∀ u, RelV c u → u = cv) ∧ PySem.W.kitOne X.K (.ref C) cv = some b ∧ H dd = some (.xd fs) ∧ Q (.bl b) H) := by
  intro pins s σ H xs us Q I r h
  obtain ⟨c, cv, b, fs, rfl, hcv, e, hd, q⟩ := h
  obtain ⟨u1, u2, rfl, r1, r2⟩ : ∃ u1 u2, us = [u1, u2] ∧ RelV (.ref a) u1 ∧ RelV c u2 := by
    cases r with
    | cons x1 y1 =>
      cases y1 with
      | cons x2 y2 =>
        cases y2
        exact ⟨_, _, rfl, x1, x2⟩
  obtain rfl : u1 = Value.ref a := r1
  have e2 := hcv _ r2
  subst e2
  have pinned := I.pin (a, oe) (List.mem_append.mpr (.inl List.mem_cons_self))
  obtain ⟨mA, hns, _⟩ : ObjOk X.prog X.w H s.heap dd (.xd fs) := I.hok dd _ hd
  obtain ⟨od, ho, _⟩ := lookIn_ns hns
  obtain ⟨vs, hv⟩ := hf
  have inst : PySem.W.InstAt s.heap a oe C (some od) := ⟨pinned.1, hz.1, by unfold PySem.W.notCls; rw [hv], by rw [hz.2]; exact ho⟩
  have hcl : (PySem.W.clsIn X.K C).isSome = true := by
    obtain ⟨cd, hc, _⟩ := PySem.W.any_some T.hd
    rw [hc]
    rfl
  exact PySem.W.kia_one (PySem.W.kitx_exc hcl T.hg T.hk T.hs T.ha T.hn T.ht T.hm) I.kIn inst e (fun z => nomatch z) fun tk => ⟨.bl b, H, I.kept (t' := tk) fun _ _ z => z, rfl, q⟩
section
variable {P0 : Program} {w : World} {K : PySem.W.Frag} {mg : Str → Option Value} {base : Heap} {X : Cx} {ρ ρ1 ρ2 : Rho} {b e : Expr} {y : D} {pos np : Pos} {N : List Str} {is : List Nat} {gs : List Str} {C : Addr} {fs : List (Str × D)}
theorem ED.isX {a dd : Addr} {oe : Obj} {pn : List (Addr × Obj)} {u : Value} {k : Bool} (B : Bd P0 w K mg base X N is gs) (T : ExcC K C) (hz : Zc (.ref C) (some dd) oe) (hv : ∃ vs, oe.data = .fields vs) (j0 : Nat) (hg : gs[j0]? = some "isinstance") (hm : mg "isinstance" = none) (he : ED (X.suite a ((a, oe) :: pn)) e ρ (.exc a dd C fs) ρ1) (hb : ED (X.suite a ((a, oe) :: pn)) b ρ1 y ρ2) (hu : ClD y u) (hk : PySem.W.kitOne K (.ref C) u = some k)
    (hs : starEach [e, b] X.env = (false, eval e X.env) :: starEach [b] X.env := by rfl) (hs2 : starEach [b] X.env = (false, eval b X.env) :: starEach [] X.env := by rfl) (hpl : (backTo pos (starEach [b] X.env)).any (·.1) = false := by rfl) : ED (X.suite a ((a, oe) :: pn)) (.Call (.Name "isinstance" np) [e, b] [] pos) ρ (.bl k) ρ2 := by
  have eK := B.hK
  subst eK
  exact .bi (call_isX T hz hv) (B.suite.g j0 hg) (B.suite.m hm) (by decide +kernel) (.cons he (.cons hb .nil hs2) hs) (fun C' σ H0 H vs S r Q q => by
    obtain ⟨v, v', rfl, h, h'⟩ := r.two
    cases h with
    | exc _ h1 h2 =>
      refine ⟨v', u, k, _, rfl, ?_, hk, S.ex _ _ h1, q _ H0 H (Evl.Ex.refl _) S (.bl _)⟩
      intro u' ru
      cases h' with
      | ty n =>
        have hu : u = .type n := hu
        subst hu
        exact ru
      | ref D =>
        have hu : u = .ref D := hu
        subst hu
        exact ru
      | _ => exact False.elim hu) hs hpl
end
end Rg
namespace Rg
open PySem PySem.Spec PyProof.Rows L2
section
variable {P0 : Program} {w : World} {K : PySem.W.Frag} {mg : Str → Option Value} {base : Heap} {X : Cx} {ρ ρ1 ρ2 : Rho} {a b c e : Expr} {x y z d : D} {pos np : Pos} {N : List Str} {is : List Nat} {gs : List Str} {k l : Bool}
/-- lists and tuples of plain data compared -/
theorem EC.eqD {p q : PyData} {kk : Nat} (B : Bd P0 w K mg base X N is gs) (hr : Room kk X.A) (ha : ED X a ρ x ρ1) (hb : ED X b ρ1 y ρ2) (hp : x.py = some p) (hq : y.py = some q) (sp : SeqAt.shaped p = true) (sq : SeqAt.shaped q = true) : EC X .Eq a b ρ (PyData.eqv p q) ρ2 := .mk (op_eqD hr.units) (nomark _) ha hb fun C σ H0 H v u S rv ru Q g =>
  ⟨p, q, Rp.dp (rv.mono S.ex) hp, Rp.dp (ru.mono S.ex) hq, sp, sq, g _ H0 H (Evl.Ex.refl _) S (.bl _)⟩
theorem EC.neD {p q : PyData} {kk : Nat} (B : Bd P0 w K mg base X N is gs) (hr : Room kk X.A) (ha : ED X a ρ x ρ1) (hb : ED X b ρ1 y ρ2) (hp : x.py = some p) (hq : y.py = some q) (sp : SeqAt.shaped p = true) (sq : SeqAt.shaped q = true) : EC X .NotEq a b ρ (!PyData.eqv p q) ρ2 := .mk (op_neD hr.units) (nomark _) ha hb fun C σ H0 H v u S rv ru Q g =>
  ⟨p, q, Rp.dp (rv.mono S.ex) hp, Rp.dp (ru.mono S.ex) hq, sp, sq, g _ H0 H (Evl.Ex.refl _) S (.bl _)⟩
/-- a < b <= c -/
theorem ED.chain {op op' : CmpOp} {r r' : R2} (ho : OpR X (compareOp op) r) (ho' : OpR X (compareOp op') r') (ha : ED X a ρ x ρ1) (hb : ED X b ρ1 y ρ2) (h1 : Rv X ρ2 r x y (.bl k)) (hc : k = true → ED X c ρ2 z ρ2) (h2 : k = true → Rv X ρ2 r' y z (.bl l)) (hm : lastMarks [op, op'] [b, c] = false := by with_unfolding_all rfl) :
    ED X (.Compare a [op, op'] [b, c] pos) ρ (.bl (k && l)) ρ2 := fun C σ H0 H S Q q =>
  ⟨_, pe_chain ho ho' pe_w pe_w pe_w hm, ha C σ H0 H S _ fun v H1 H1' e1 S1 r1 => hb C σ H1 H1' S1 _ fun u H2 H2' e2 S2 r2 => h1 C σ H2 H2' v u S2 (r1.mono e2) r2 _ fun t H3 H3' e3 S3 r3 => by
    cases r3
    refine ⟨k, rfl, ?_⟩
    have ee := e1.trans (e2.trans e3)
    cases k with
    | false => exact iteF (q _ H3 H3' ee S3 (.bl _))
    | true => exact iteT (hc rfl C σ H3 H3' S3 _ fun v4 H4 H4' e4 S4 r4 => h2 rfl C σ H4 H4' u v4 S4 (r2.mono (e3.trans e4)) r4 _ fun v5 H5 H5' e5 S5 r5 => q _ H5 H5' (ee.trans (e4.trans e5)) S5 r5)⟩
theorem rv_lt {i j : Int} : Rv X ρ (rI0 fun i j => .bl (decide (i < j))) (.int i) (.int j) (.bl (decide (i < j))) := .I0 fun _ => .bl _
theorem rv_le {i j : Int} : Rv X ρ (rI0 fun i j => .bl (decide (i ≤ j))) (.int i) (.int j) (.bl (decide (i ≤ j))) := .I0 fun _ => .bl _
theorem ED.ltle {i j m : Int} (ha : ED X a ρ (.int i) ρ1) (hb : ED X b ρ1 (.int j) ρ2) (hc : ED X c ρ2 (.int m) ρ2) (hm : lastMarks [.Lt, .LtE] [b, c] = false := by with_unfolding_all rfl) : ED X (.Compare a [.Lt, .LtE] [b, c] pos) ρ (.bl (decide (i < j) && decide (j ≤ m))) ρ2 := .chain op_lt op_le ha hb rv_lt (fun _ => hc) (fun _ => rv_le) hm
theorem ED.lele {i j m : Int} (ha : ED X a ρ (.int i) ρ1) (hb : ED X b ρ1 (.int j) ρ2) (hc : ED X c ρ2 (.int m) ρ2) (hm : lastMarks [.LtE, .LtE] [b, c] = false := by with_unfolding_all rfl) : ED X (.Compare a [.LtE, .LtE] [b, c] pos) ρ (.bl (decide (i ≤ j) && decide (j ≤ m))) ρ2 := .chain op_le op_le ha hb rv_le (fun _ => hc) (fun _ => rv_le) hm
theorem ED.intB (B : Bd P0 w K mg base X N is gs) (j0 : Nat) (hg : gs[j0]? = some "int") (hm : mg "int" = none) (ha : ED X a ρ (.bl k) ρ1) (he : starEach [a] X.env = (false, eval a X.env) :: starEach [] X.env := by rfl) : ED X (.Call (.Name "int" np) [a] [] pos) ρ (.int (if k = true then 1 else 0)) ρ1 :=
  .bt call_int1 (B.g j0 hg) (B.m hm) (by decide +kernel) (.cons ha .nil he) (fun C σ H0 H vs S r Q q => by
    obtain ⟨v, rfl, h⟩ := r.one
    cases h
    exact .inr ⟨k, rfl, q _ H0 H (Evl.Ex.refl _) S (.int _)⟩) he
end
end Rg
namespace Rg
open PySem PySem.Spec PyProof.Rows L2 SX

/-! ### texts of times -/
def two (n : Nat) : List Nat := [48 + n / 10, 48 + n % 10]
def three (n : Nat) : List Nat := [48 + n / 100, 48 + n / 10 % 10, 48 + n % 10]
theorem zf2 : ∀ n : Nat, n < 100 → Txt.zfill (toString (n : Int)) 2 = S (two n) := by decide +kernel
theorem zf3 : ∀ n : Nat, n < 1000 → Txt.zfill (toString (n : Int)) 3 = S (three n) := by decide +kernel
theorem it2 : ∀ n : Nat, n < 100 → intText? (S (two n)) = some (n : Int) := by decide +kernel
theorem it3 : ∀ n : Nat, n < 1000 → intText? (S (three n)) = some (n : Int) := by decide +kernel
/-- the four parts -/
def tx4 (h m s r : Nat) : List Nat := [48 + h / 10, 48 + h % 10, 58, 48 + m / 10, 48 + m % 10, 58, 48 + s / 10, 48 + s % 10, 46, 48 + r / 100, 48 + r / 10 % 10, 48 + r % 10]
def hms (a : Nat) : List Nat := tx4 (a / 3600000) (a / 60000 % 60) (a / 1000 % 60) (a % 1000)
theorem hms_app (h m s r : Nat) : tx4 h m s r = two h ++ ([58] ++ (two m ++ ([58] ++ (two s ++ ([46] ++ three r))))) := rfl
theorem glue_hms (h m s r : Nat) : glue Str.empty [S (two h), ":", S (two m), ":", S (two s), ".", S (three r)] = S (tx4 h m s r) := by
  have e1 : (":" : Str) = S [58] := rfl
  have e2 : ("." : Str) = S [46] := rfl
  have e3 : Str.empty = S [] := rfl
  simp only [glue, e1, e2, e3, S_cat]
  rfl
theorem join_hms (h m s r : Nat) : Txt.join ":" [S (two h), S (two m), S (two s)] ++ "." ++ S (three r) = S (tx4 h m s r) := by
  have e1 : (":" : Str) = S [58] := rfl
  have e2 : ("." : Str) = S [46] := rfl
  rw [e1, e2, show [S (two h), S (two m), S (two s)] = [two h, two m, two s].map S from rfl, join_S, S_cat, S_cat]
  rfl
theorem tx_len (h m s r : Nat) : (S (tx4 h m s r)).length = 12 := rfl
theorem tx_at2 (h m s r : Nat) : atI (S (tx4 h m s r)).cps.toList 2 = some 58 := rfl
theorem tx_at5 (h m s r : Nat) : atI (S (tx4 h m s r)).cps.toList 5 = some 58 := rfl
theorem tx_at8 (h m s r : Nat) : atI (S (tx4 h m s r)).cps.toList 8 = some 46 := rfl
theorem tx_s1 (h m s r : Nat) : cutS (S (tx4 h m s r)) none (some 2) = S (two h) := rfl
theorem tx_s2 (h m s r : Nat) : cutS (S (tx4 h m s r)) (some 3) (some 5) = S (two m) := rfl
theorem tx_s3 (h m s r : Nat) : cutS (S (tx4 h m s r)) (some 6) (some 8) = S (two s) := rfl
theorem tx_s4 (h m s r : Nat) : cutS (S (tx4 h m s r)) (some 9) none = S (three r) := rfl
def isDig (c : Nat) : Bool := decide (c ∈ ("0123456789" : Str).cps.toList)
def hasDigits (s : Str) : Bool := !decide (s = "") && s.cps.toList.all isDig
theorem isDig_ok : ∀ c : Nat, c < 10 → isDig (48 + c) = true := by decide
theorem isDig_of {c : Nat} (h : 48 ≤ c ∧ c ≤ 57) : isDig c = true := by
  have z := isDig_ok (c - 48) (by omega)
  rwa [show 48 + (c - 48) = c by omega] at z
theorem hasDigits_S {l : List Nat} (hne : l ≠ []) (h : ∀ c ∈ l, 48 ≤ c ∧ c ≤ 57) : hasDigits (S l) = true := by
  have h1 : decide (S l = "") = false := decide_eq_false fun e => hne (S_inj (a := l) (b := []) e)
  have h2 : (S l).cps.toList.all isDig = true := List.all_eq_true.mpr fun c hc => isDig_of (h c hc)
  unfold hasDigits
  rw [h1, h2]
  rfl
theorem two_dig {n : Nat} (h : n < 100) : ∀ c ∈ two n, 48 ≤ c ∧ c ≤ 57 := fun c hc => by
  unfold two at hc
  rcases List.mem_cons.mp hc with rfl | hc
  · omega
  · rw [List.mem_singleton.mp hc]
    omega
theorem three_dig {n : Nat} (h : n < 1000) : ∀ c ∈ three n, 48 ≤ c ∧ c ≤ 57 := fun c hc => by
  unfold three at hc
  rcases List.mem_cons.mp hc with rfl | hc
  · omega
  · rcases List.mem_cons.mp hc with rfl | hc
    · omega
    · rw [List.mem_singleton.mp hc]
      omega
theorem tx_dig {h m s r : Nat} (h1 : h < 100) (h2 : m < 100) (h3 : s < 100) (h4 : r < 1000) : hasDigits (S (two h) ++ S (two m) ++ S (two s) ++ S (three r)) = true := by
  rw [S_cat, S_cat, S_cat]
  refine hasDigits_S (by unfold two; simp) fun c hc => ?_
  rcases List.mem_append.mp hc with hc | hc
  · rcases List.mem_append.mp hc with hc | hc
    · rcases List.mem_append.mp hc with hc | hc
      · exact two_dig h1 c hc
      · exact two_dig h2 c hc
    · exact two_dig h3 c hc
  · exact three_dig h4 c hc
/-! ### counts -/
def isCount (s : Str) : Bool := hasDigits s && (decide ((s.length : Int) ≤ 30) && (decide (s = "0") || !decide (s.cps.toList.head? = some 48)))
theorem numL_head {n : Nat} (h : 0 < n) : (TL.numL n).head? ≠ some 48 := by
  induction n using Nat.strongRecOn with
  | _ n ih =>
    by_cases hn : n < 10
    · rw [TL.numL_lt hn]
      intro e
      have := Option.some.inj e
      omega
    · rw [TL.numL_step (by omega)]
      intro e
      have e2 : (TL.numL (n / 10)).head? = some 48 := by
        cases q : TL.numL (n / 10) with
        | nil => exact absurd q (TL.numL_ne _)
        | cons c r =>
          rw [q] at e
          exact e
      exact ih (n / 10) (by omega) (by omega) e2
theorem isCount_num {n : Nat} (h : n < 10 ^ 30) : isCount (S (TL.numL n)) = true := by
  have h1 : hasDigits (S (TL.numL n)) = true := hasDigits_S (TL.numL_ne n) (TL.numL_digits n)
  have h2 : decide (((S (TL.numL n)).length : Int) ≤ 30) = true := decide_eq_true (by
    rw [S_len]
    have := TL.numL_len (k := 30) (by decide) h
    omega)
  have h3 : (decide (S (TL.numL n) = "0") || !decide ((S (TL.numL n)).cps.toList.head? = some 48)) = true := by
    by_cases z : n = 0
    · subst z
      decide
    · have : decide ((S (TL.numL n)).cps.toList.head? = some 48) = false := decide_eq_false (numL_head (by omega))
      rw [this]
      simp
  unfold isCount
  rw [h1, h2, h3]
  rfl
/-- a whole number with its sign -/
def intL (z : Int) : List Nat := if z < 0 then 45 :: TL.numL z.natAbs else TL.numL z.natAbs
theorem intL_S (z : Int) : Str.ofString (toString z) = S (intL z) := by
  unfold intL
  by_cases h : z < 0
  · rw [if_pos h]
    have e := PyProof.Rows.toString_neg h
    rw [e]
    have e2 : (0 : Int) - z = ((z.natAbs : Nat) : Int) := by omega
    have e3 : Str.ofString ("-" ++ toString (0 - z)) = ("-" : Str) ++ Str.ofString (toString (0 - z)) := by
      rw [PySem.Str.ofString_eq_toList, PySem.Str.ofString_eq_toList (toString (0 - z)), String.toList_append, List.map_append]
      exact (S_cat [45] _).symm
    rw [e3, e2, num_S]
    exact S_cat [45] _
  · rw [if_neg h]
    have e2 : z = ((z.natAbs : Nat) : Int) := by omega
    rw [e2, num_S]
    rfl
end Rg
namespace Rg
open PySem PySem.Spec PyProof.Rows L2 SX
theorem lg {n k : Nat} (h : n < 2 ^ k) (hk : 0 < k) : n.log2 < k := by
  by_cases z : n = 0
  · subst z
    simpa using hk
  · exact (Nat.log2_lt z).mpr h
theorem lgI {i : Int} (h : i.natAbs < 10 ^ 300) : i.natAbs.log2 < 1920 := lg (Nat.lt_of_lt_of_le h (by decide +kernel)) (by decide)
theorem bits_lt {i : Int} {k : Nat} (h : i.natAbs < 2 ^ k) (hk : 0 < k) : Builtin.Int.intBits i ≤ k := by
  unfold Builtin.Int.intBits
  split
  · exact Nat.zero_le _
  · exact lg h hk
theorem mulS {i j : Int} (h : i.natAbs < 2 ^ 250) (h2 : j.natAbs < 2 ^ 250) : CMulX i j := by
  have a := bits_lt h (by decide)
  have b := bits_lt h2 (by decide)
  show (_ : Int) ≤ _
  omega
theorem divS {i j : Int} (h : 0 < j) (h2 : j.natAbs < 2 ^ 250) : CDivW i j := ⟨h, Nat.lt_of_lt_of_le (lg h2 (by decide)) (by decide)⟩
theorem divP {i j : Int} (h : 0 < j) (h2 : j.natAbs < 2 ^ 250) : CDivP i j := by
  refine ⟨h, ?_⟩
  have a : j.natAbs.log2 < 250 := lg h2 (by decide)
  have b : (if (j == 0) = true then 0 else j.natAbs.log2 / 30 + 1) ≤ 300 := by
    split
    · omega
    · omega
  unfold Builtin.divisionGoesByPylong
  simp only [Bool.and_eq_false_iff, decide_eq_false_iff_not]
  left
  exact Nat.not_lt.mpr b
/-! ### what may be shown -/
structure Sh (p : PyData) (dd B : Nat) : Prop where
  s : p.showable = true
  d : p.depth ≤ dd
  l : p.shown.length ≤ B
theorem Sh.int {i : Int} (h : i.natAbs < 10 ^ 300) : Sh (.int i) 0 301 := ⟨decide_eq_true (lgI h), Nat.le_refl _, by
  show (Str.ofString (toString i)).length ≤ 301
  rw [intL_S, S_len]
  have := TL.numL_len (k := 300) (by decide) h
  unfold intL
  split
  · rw [List.length_cons]
    omega
  · omega⟩
theorem Sh.all {dd B : Nat} : ∀ {ps : List PyData}, (∀ p ∈ ps, Sh p dd B) → PyData.showableAll ps = true ∧ PyData.depthAll ps ≤ dd ∧ ((PyData.shownAll ps).map (·.length)).sum ≤ ps.length * B ∧ (PyData.shownAll ps).length = ps.length
  | [], _ => ⟨rfl, Nat.zero_le _, by simp [PyData.shownAll], rfl⟩
  | p :: ps, h => by
    obtain ⟨a, b, c, d⟩ := Sh.all (ps := ps) fun q hq => h q (List.mem_cons_of_mem _ hq)
    obtain ⟨e, f, g⟩ := h p List.mem_cons_self
    refine ⟨?_, ?_, ?_, ?_⟩
    · simp only [PyData.showableAll, e, a, Bool.and_self]
    · simp only [PyData.depthAll]
      omega
    · simp only [PyData.shownAll, List.map_cons, List.sum_cons, List.length_cons]
      rw [Nat.succ_mul]
      omega
    · simp only [PyData.shownAll, List.length_cons, d]
theorem Sh.list {dd B : Nat} {ps : List PyData} (h : ∀ p ∈ ps, Sh p dd B) : Sh (.list ps) (dd + 1) (ps.length * B + 2 * ps.length + 3) := by
  obtain ⟨a, b, c, d⟩ := Sh.all h
  refine ⟨by simpa only [PyData.showable] using a, by simp only [PyData.depth]; omega, ?_⟩
  have z := listText_len_le (PyData.shownAll ps)
  simp only [PyData.shown]
  omega
theorem Sh.tuple {dd B : Nat} {ps : List PyData} (h : ∀ p ∈ ps, Sh p dd B) : Sh (.tuple ps) (dd + 1) (ps.length * B + 2 * ps.length + 3) := by
  obtain ⟨a, b, c, d⟩ := Sh.all h
  refine ⟨by simpa only [PyData.showable] using a, by simp only [PyData.depth]; omega, ?_⟩
  have z := tupleText_len_le (PyData.shownAll ps)
  simp only [PyData.shown]
  omega
theorem Sh.mk' {p : PyData} {dd B : Nat} (h : Sh p dd B) (h1 : dd ≤ 50) (h2 : B ≤ sizeLine) : Shows p := ⟨h.s, Nat.le_trans h.d h1, Nat.le_trans h.l h2⟩
end Rg
namespace Rg
open PySem PySem.Spec PyProof.Rows L2 SX
/-! ### texts by their signs -/
theorem cutTo (l : List Nat) (n : Nat) : cutS (S l) none (some (n : Int)) = S (l.take n) := by
  rw [C8.cutS_slice, slice_to (by omega), Int.toNat_natCast]
theorem cutFrom (l : List Nat) (n : Nat) : cutS (S l) (some (n : Int)) none = S (l.drop n) := by
  rw [C8.cutS_slice, slice_from (by omega), Int.toNat_natCast]
def neg? (l : List Nat) : Bool := decide (l.head? = some 45)
theorem dec_S {a b : List Nat} : decide (S a = S b) = decide (a = b) := by
  by_cases h : a = b
  · subst h
    rw [decide_eq_true rfl, decide_eq_true rfl]
  · rw [decide_eq_false h, decide_eq_false fun e => h (S_inj e)]
theorem neg_is (l : List Nat) : decide (cutS (S l) none (some 1) = ("-" : Str)) = neg? l := by
  have e : cutS (S l) none (some 1) = S (l.take 1) := cutTo l 1
  rw [e, show ("-" : Str) = S [45] from rfl, dec_S]
  unfold neg?
  cases l with
  | nil => rfl
  | cons c r =>
    show decide ([c] = [45]) = decide (some c = some 45)
    by_cases h : c = 45
    · subst h
      rfl
    · rw [decide_eq_false fun z => h (List.cons.inj z).1, decide_eq_false fun z => h (Option.some.inj z)]
def dgs (l : List Nat) : Bool := l.all isDig
theorem isDig_iff {c : Nat} : isDig c = true ↔ 48 ≤ c ∧ c ≤ 57 := by
  constructor
  · intro h
    unfold isDig at h
    have h := of_decide_eq_true h
    have e : ("0123456789" : Str).cps.toList = [48, 49, 50, 51, 52, 53, 54, 55, 56, 57] := by decide
    rw [e] at h
    simp only [List.mem_cons, List.not_mem_nil, or_false] at h
    omega
  · exact isDig_of
theorem dgs_iff {l : List Nat} : dgs l = true ↔ ∀ c ∈ l, 48 ≤ c ∧ c ≤ 57 := by
  unfold dgs
  rw [List.all_eq_true]
  exact ⟨fun h c hc => isDig_iff.mp (h c hc), fun h c hc => isDig_iff.mpr (h c hc)⟩
theorem hasDigits_eq (l : List Nat) : hasDigits (S l) = (!decide (l = []) && dgs l) := by
  unfold hasDigits
  rw [show ("" : Str) = S [] from rfl, dec_S]
  rfl
theorem it_dgs {l : List Nat} (h : dgs l = true) (hne : l ≠ []) (hl : l.length ≤ 640) : intText? (S l) = some ((NumText.digitsVal l : Nat) : Int) := by
  refine int_S (List.all_eq_true.mpr fun c hc => ?_) hne (by omega)
  have z := dgs_iff.mp h c hc
  simp only [Bool.and_eq_true, decide_eq_true_eq]
  exact z
def cnt (l : List Nat) : Bool := isCount (S l)
theorem cnt_dgs {l : List Nat} (h : cnt l = true) : dgs l = true ∧ l ≠ [] ∧ l.length ≤ 30 := by
  unfold cnt isCount at h
  simp only [Bool.and_eq_true, hasDigits_eq, Bool.not_eq_true', decide_eq_false_iff_not, decide_eq_true_eq] at h
  refine ⟨h.1.2, h.1.1, ?_⟩
  have := h.2.1
  rw [S_len] at this
  omega
def val (l : List Nat) : Nat := NumText.digitsVal l
theorem it_cnt {l : List Nat} (h : cnt l = true) : intText? (S l) = some ((val l : Nat) : Int) := by
  obtain ⟨a, b, c⟩ := cnt_dgs h
  exact it_dgs a b (by omega)
theorem val_lt : ∀ {l : List Nat} (acc : Nat), (∀ c ∈ l, 48 ≤ c ∧ c ≤ 57) → l.foldl (fun acc c => acc * 10 + (c - 48)) acc < (acc + 1) * 10 ^ l.length
  | [], acc, _ => by simp
  | c :: r, acc, h => by
    have hc := h c List.mem_cons_self
    have z := val_lt (l := r) (acc * 10 + (c - 48)) fun d hd => h d (List.mem_cons_of_mem _ hd)
    have e : (10 : Nat) ^ (c :: r).length = 10 * 10 ^ r.length := by rw [List.length_cons, Nat.pow_succ, Nat.mul_comm]
    rw [e, List.foldl_cons]
    have m : (acc * 10 + (c - 48) + 1) * 10 ^ r.length ≤ (acc + 1) * (10 * 10 ^ r.length) := by
      rw [← Nat.mul_assoc]
      exact Nat.mul_le_mul_right _ (by omega)
    omega
theorem val_cnt {l : List Nat} (h : cnt l = true) : val l < 10 ^ 30 := by
  obtain ⟨a, b, c⟩ := cnt_dgs h
  have z := val_lt (l := l) 0 (dgs_iff.mp a)
  have e : (10 : Nat) ^ l.length ≤ 10 ^ 30 := Nat.pow_le_pow_right (by decide) c
  have z' : val l < (0 + 1) * 10 ^ l.length := z
  omega
/-! ### times -/
def v2 (a b : Nat) : Nat := (a - 48) * 10 + (b - 48)
def v3 (a b c : Nat) : Nat := (a - 48) * 100 + (b - 48) * 10 + (c - 48)
theorem it_v2 {a b : Nat} (h : dgs [a, b] = true) : intText? (S [a, b]) = some ((v2 a b : Nat) : Int) := by
  rw [it_dgs h (by simp) (by show 2 ≤ 640; decide)]
  refine congrArg some (congrArg Int.ofNat ?_)
  show (0 * 10 + (a - 48)) * 10 + (b - 48) = v2 a b
  unfold v2
  omega
theorem it_v3 {a b c : Nat} (h : dgs [a, b, c] = true) : intText? (S [a, b, c]) = some ((v3 a b c : Nat) : Int) := by
  rw [it_dgs h (by simp) (by show 3 ≤ 640; decide)]
  refine congrArg some (congrArg Int.ofNat ?_)
  show ((0 * 10 + (a - 48)) * 10 + (b - 48)) * 10 + (c - 48) = v3 a b c
  unfold v3
  omega
theorem v2_lt {a b : Nat} (h : dgs [a, b] = true) : v2 a b < 100 := by
  have h1 := dgs_iff.mp h a (by simp)
  have h2 := dgs_iff.mp h b (by simp)
  unfold v2
  omega
theorem v3_lt {a b c : Nat} (h : dgs [a, b, c] = true) : v3 a b c < 1000 := by
  have h1 := dgs_iff.mp h a (by simp)
  have h2 := dgs_iff.mp h b (by simp)
  have h3 := dgs_iff.mp h c (by simp)
  unfold v3
  omega
def tOk (a b c d e f g h i j k m : Nat) : Bool := decide (c = 58) && (decide (f = 58) && (decide (i = 46) && (dgs [a, b, d, e, g, h, j, k, m] && (decide (v2 a b ≤ 23) && (decide (v2 d e ≤ 59) && decide (v2 g h ≤ 59))))))
def rdT : List Nat → Option Nat
  | [a, b, c, d, e, f, g, h, i, j, k, m] => if tOk a b c d e f g h i j k m = true then some (v2 a b * 3600000 + v2 d e * 60000 + v2 g h * 1000 + v3 j k m) else none
  | _ => none
theorem rdT_12 {a b c d e f g h i j k m : Nat} : rdT [a, b, c, d, e, f, g, h, i, j, k, m] = if tOk a b c d e f g h i j k m = true then some (v2 a b * 3600000 + v2 d e * 60000 + v2 g h * 1000 + v3 j k m) else none := rfl
theorem len12 {l : List Nat} (h : l.length = 12) : ∃ a b c d e f g h i j k m, l = [a, b, c, d, e, f, g, h, i, j, k, m] := by
  match l, h with
  | [a, b, c, d, e, f, g, h, i, j, k, m], _ => exact ⟨a, b, c, d, e, f, g, h, i, j, k, m, rfl⟩
theorem rdT_len {l : List Nat} (h : l.length ≠ 12) : rdT l = none := by
  unfold rdT
  split
  · exact absurd rfl h
  · rfl
theorem rdT_sg {l : List Nat} {t : Nat} (h : rdT l = some t) : (∀ c ∈ l, (48 ≤ c ∧ c ≤ 57) ∨ c = 58 ∨ c = 46) ∧ t < 86400000 := by
  by_cases hl : l.length = 12
  · obtain ⟨a, b, c, d, e, f, g, h', i, j, k, m, rfl⟩ := len12 hl
    rw [rdT_12] at h
    split at h
    · rename_i ok
      unfold tOk at ok
      simp only [Bool.and_eq_true, decide_eq_true_eq] at ok
      obtain ⟨o1, o2, o3, o4, o5, o6, o7⟩ := ok
      have dg := dgs_iff.mp o4
      refine ⟨fun x hx => ?_, ?_⟩
      · simp only [List.mem_cons, List.not_mem_nil, or_false] at hx dg
        rcases hx with rfl | rfl | rfl | rfl | rfl | rfl | rfl | rfl | rfl | rfl | rfl | rfl
        · exact .inl (dg _ (by simp))
        · exact .inl (dg _ (by simp))
        · exact .inr (.inl o1)
        · exact .inl (dg _ (by simp))
        · exact .inl (dg _ (by simp))
        · exact .inr (.inl o2)
        · exact .inl (dg _ (by simp))
        · exact .inl (dg _ (by simp))
        · exact .inr (.inr o3)
        · exact .inl (dg _ (by simp))
        · exact .inl (dg _ (by simp))
        · exact .inl (dg _ (by simp))
      · have e3 : v3 j k m < 1000 := v3_lt (dgs_iff.mpr fun x hx => dg x (by simp only [List.mem_cons, List.not_mem_nil, or_false] at hx ⊢; omega))
        have := Option.some.inj h
        omega
    · cases h
  · rw [rdT_len hl] at h
    cases h
/-! ### spans and moments read -/
def body (l : List Nat) : List Nat := if neg? l = true then l.drop 1 else l
def sgn (b : Bool) (n : Nat) : Int := if b = true then -(n : Int) else n
def spanR (l : List Nat) : Option Int := match TL.par [100, 32] [] (body l) with
  | none => none
  | some (p, q) => match rdT q with
    | none => none
    | some t => if cnt p = true then (if neg? l = true ∧ val p * 86400000 + t = 0 then none else some (sgn (neg? l) (val p * 86400000 + t))) else none
def wrt (l : List Nat) : Bool := if neg? l = true then cnt (l.drop 1) && !decide (l = [45, 48]) else cnt l
def ival (l : List Nat) : Int := sgn (neg? l) (val (body l))
def momR (l : List Nat) : Option Int := match TL.spl [32] 0 [] l with
  | [a, b, c] => if a = [100, 97, 121] ∧ wrt b = true then (match rdT c with
    | some t => some (ival b * 86400000 + t)
    | none => none) else none
  | _ => none
end Rg
namespace Rg
open PySem PySem.Spec PyProof.Rows L2 SX
def topS (i : Nat) : Stmt := PySem.Challenge.pw_rangeends_k80_texts_of_spans_and_moments.main.body.getD i (.Pass ⟨0, 0, 0, 0⟩)
def clsS (i j : Nat) : Stmt := (C8.clsBody (topS i)).getD j (.Pass ⟨0, 0, 0, 0⟩)
abbrev FdP (K : PySem.W.Frag) (mg : Str → Option Value) (x : Str) (i : Nat) : Prop := ∃ f fd, FunD K x x (defArgs (topS i)) (defBody (topS i)) (defScope (topS i)) [] [] f fd ∧ mg x = some (.ref f)
abbrev MkP (K : PySem.W.Frag) (mg : Str → Option Value) (x q : Str) (C : Addr) (i j : Nat) : Prop := ∃ f fd, FunD K "__init__" q (defArgs (clsS i j)) (defBody (clsS i j)) (defScope (clsS i j)) [] [] f fd ∧ mg x = some (.ref C) ∧ Mk K C f
/-- an exception class's __init__, as it stands -/
abbrev XkP (K : PySem.W.Frag) (mg : Str → Option Value) (x q : Str) (C : Addr) (i j : Nat) : Prop := ∃ f fd, FunD K "__init__" q (defArgs (clsS i j)) (defBody (clsS i j)) (defScope (clsS i j)) [] [] f fd ∧ mg x = some (.ref C) ∧ PySem.W.findIn K (.ref C) "__init__" = some (some (.ref f)) ∧ PySem.W.typeIn K (.ref f) = some (.type "function")
structure Tx (K : PySem.W.Frag) (mg : Str → Option Value) (cS cM cT : Addr) : Prop where
  DIGITS : ∃ t, mg "DIGITS" = some (.str "0123456789" t)
  DAY : ∃ t, mg "DAY" = some (.int 86400000 t)
  HOUR : ∃ t, mg "HOUR" = some (.int 3600000 t)
  MINUTE : ∃ t, mg "MINUTE" = some (.int 60000 t)
  SECOND : ∃ t, mg "SECOND" = some (.int 1000 t)
  MOST_DIGITS : ∃ t, mg "MOST_DIGITS" = some (.int 30 t)
  isinstance : mg "isinstance" = none
  int : mg "int" = none
  bool : mg "bool" = none
  str : mg "str" = none
  len : mg "len" = none
  abs : mg "abs" = none
  range : mg "range" = none
  min : mg "min" = none
  max : mg "max" = none
  repr : mg "repr" = none
  enumerate : mg "enumerate" = none
  ValueError : mg "ValueError" = none
  clsS : Cls K cS
  clsM : Cls K cM
  noS : NoAttr K cS "amount"
  noM : NoAttr K cM "at"
  xT : XC K cT "place"
  iT : ExcC K cT
  vT : PySem.W.kitOne K (.ref cT) (.type "ValueError") = some true
  eT : PySem.W.exmOne K (.ref cT) (.ref cT) = some true
  vI : PySem.W.findCls K (.type "ValueError") (.type "type") "__init__" = some (.val (.builtin "ValueError.__init__"))
  m_BadText : XkP K mg "BadText" "BadText.__init__" cT 4 0
  d_is_integer : FdP K mg "is_integer" 6
  m_Span : MkP K mg "Span" "Span.__init__" cS 15 0
  m_Moment : MkP K mg "Moment" "Moment.__init__" cM 16 0
  d_has_digits : FdP K mg "has_digits" 24
  d_is_count : FdP K mg "is_count" 25
  d_is_written : FdP K mg "is_written" 26
  d_read_time : FdP K mg "read_time" 27
  d_look_string : FdP K mg "look_string" 28
  d_read_span : FdP K mg "read_span" 29
  d_read_moment : FdP K mg "read_moment" 30
  d_bag : FdP K mg "_law_bag" 32
  d_take : FdP K mg "_law_take" 33
  d_digits : FdP K mg "_law_digits" 34
  d_text : FdP K mg "_law_text" 35
  d_spoiled : FdP K mg "_law_spoiled" 36
  d_is_number : FdP K mg "_law_is_number" 37
  d_time : FdP K mg "_law_time" 38
  d_span : FdP K mg "_law_span" 39
  d_moment : FdP K mg "_law_moment" 40
  d_read : FdP K mg "_law_read" 41
  d_law : FdP K mg "law" 42
section
variable {P : Program} {w : World} {K : PySem.W.Frag} {mg : Str → Option Value} {base : Heap} {cS cM cT : Addr}
theorem sc_BadText : FnScope ["self", "place"] ["self", "place"] (defScope (clsS 4 0)) := ⟨rfl, rfl, rfl, by decide +kernel, rfl, by decide +kernel, by decide +kernel⟩
theorem c_BadText (T : Tx K mg cS cM cT) : Mkx P w K mg base "BadText" cT 1 "place" := by
  obtain ⟨f, fd, F, hm, h1, h2⟩ := T.m_BadText
  refine ⟨T.xT, hm, f, fd, ["self", "place"], F.ok sc_BadText (fun vs H Q E h => by obtain ⟨a, C, v, rfl, _⟩ := h; rfl) (fun cdv A outer s H vs Q E hr h => ?_), h1, h2, F.bindsN fun _ _ _ _ _ _ us hl => match us, hl with | [_, _], _ => rfl⟩
  obtain ⟨a, C, v, rfl, xc, ha, hq⟩ := h
  have B := df_of (P := P) (w := w) (K := K) (mg := mg) (base := base) (qual := "BadText.__init__") (f := f) (is := [0, 1]) (gs := ["ValueError"]) (cdv := cdv) (A := A) (outer := outer) (s := s) (H := H) (E := E) sc_BadText (by decide +kernel)
  refine ⟨_, pss_cons (ps_expr (pe_veinit (B.gl 0 _ rfl).1 T.ValueError T.vI (pa_cons (B.toBd.pe (i := 0) rfl rfl) (pa_cons pe_str pa_nil)))) (pss_one (ps_ost (f := "place") (B.toBd.pe (i := 0) rfl rfl) (B.toBd.pe (i := 1) rfl rfl))), ?_⟩
  refine ⟨.ref a, rfl, ⟨a, C, [.str "not a valid text"], rfl, by show 1 ≤ 1000; decide, xc.ox, ha, v, rfl, .ref a, rfl, a, C, rfl, xc.ox, xc.no, .inl ⟨ha, fun dx n ne => hq dx n ne⟩⟩⟩
def R_is_integer : Ct := fun as r => ∃ i : Int, as = [.sh (.int i)] ∧ r = .ret (.bl true) []
theorem sc_is_integer : FnScope ["thing"] ["thing"] (defScope (topS 6)) := ⟨rfl, rfl, rfl, by decide +kernel, rfl, by decide +kernel, by decide +kernel⟩
theorem c_is_integer (T : Tx K mg cS cM cT) : Cal P w K mg base false "is_integer" 1 R_is_integer := by
  obtain ⟨f, fd, F, hm⟩ := T.d_is_integer
  refine Cal.of (x := "is_integer") [0] ["isinstance", "int", "bool"] ⟨fd, F⟩ hm sc_is_integer (by decide +kernel) (fun as r h => by obtain ⟨i, rfl, rfl⟩ := h; rfl) (fun _ _ _ _ _ _ us hl => match us, hl with | [_], _ => rfl) fun X B hsc hr hg as r h => ?_
  obtain ⟨i, rfl, rfl⟩ := h
  refine SB.cons (SD.ret (ED.andB (k := true) (l := true) (ED.isi B.toBd 0 rfl T.isinstance (.var B.toBd 0 rfl rfl rfl) (.glT (t := "int") B.toBd 1 rfl T.int (by decide +kernel)) tyd_int rfl rfl) fun _ => .bo1 (.not (k := false) (ED.isi B.toBd 0 rfl T.isinstance (.var B.toBd 0 rfl rfl rfl) (.glT (t := "bool") B.toBd 2 rfl T.bool (by decide +kernel)) tyd_int rfl ?_))) rfl)
  first | rfl | decide +kernel
def spn (C : Addr) (z : Int) : D := .ins C [("amount", .int z)]
def mom (C : Addr) (z : Int) : D := .ins C [("at", .int z)]
theorem lk1 (f : Str) (d : D) : [(f, d)].lookup f = some d := by simp [List.lookup]
def R_init (f : Str) : List D → List (Str × D) → Prop := fun ds fs => ∃ i : Int, ds = [.int i] ∧ fs = [(f, .int i)]
theorem sc_Span : FnScope ["self", "amount"] ["self", "amount"] (defScope (clsS 15 0)) := ⟨rfl, rfl, rfl, by decide +kernel, rfl, by decide +kernel, by decide +kernel⟩
theorem c_Span (T : Tx K mg cS cM cT) : Mkr P w K mg base "Span" cS 2 (R_init "amount") := by
  obtain ⟨f, fd, F, hm, hk⟩ := T.m_Span
  refine ⟨f, fd, ["self", "amount"], Fn.mk' (x := "__init__") [0, 1] ["is_integer"] F sc_Span (by decide +kernel) (fun as r h => by obtain ⟨ds, fs, rfl, ⟨i, rfl, rfl⟩, rfl⟩ := h; rfl) fun X B hsc hr hg as r h => ?_, hm, hk, F.bindsN fun _ _ _ _ _ _ us hl => match us, hl with | [_, _], _ => rfl⟩
  obtain ⟨ds, fs, rfl, ⟨i, rfl, rfl⟩, rfl⟩ := h
  refine SB.cons (SD.ite (.not (k := true) (.val (ED.call (c_is_integer T) hg (hr.mono (by decide)) B.toBd 0 rfl (.cons (.var B.toBd 1 rfl rfl rfl) .nil) ⟨i, rfl, rfl⟩) (by intro _; rfl))) (fun h => nomatch h) fun _ => SB.nil ?_)
  exact SB.cons (SD.fld B.toBd 0 rfl rfl (.var B.toBd 1 rfl rfl rfl) rfl T.clsS T.noS (by decide) (SB.nil rfl))
theorem sc_Moment : FnScope ["self", "at"] ["self", "at"] (defScope (clsS 16 0)) := ⟨rfl, rfl, rfl, by decide +kernel, rfl, by decide +kernel, by decide +kernel⟩
theorem c_Moment (T : Tx K mg cS cM cT) : Mkr P w K mg base "Moment" cM 2 (R_init "at") := by
  obtain ⟨f, fd, F, hm, hk⟩ := T.m_Moment
  refine ⟨f, fd, ["self", "at"], Fn.mk' (x := "__init__") [0, 1] ["is_integer"] F sc_Moment (by decide +kernel) (fun as r h => by obtain ⟨ds, fs, rfl, ⟨i, rfl, rfl⟩, rfl⟩ := h; rfl) fun X B hsc hr hg as r h => ?_, hm, hk, F.bindsN fun _ _ _ _ _ _ us hl => match us, hl with | [_, _], _ => rfl⟩
  obtain ⟨ds, fs, rfl, ⟨i, rfl, rfl⟩, rfl⟩ := h
  refine SB.cons (SD.ite (.not (k := true) (.val (ED.call (c_is_integer T) hg (hr.mono (by decide)) B.toBd 0 rfl (.cons (.var B.toBd 1 rfl rfl rfl) .nil) ⟨i, rfl, rfl⟩) (by intro _; rfl))) (fun h => nomatch h) fun _ => SB.nil ?_)
  exact SB.cons (SD.fld B.toBd 0 rfl rfl (.var B.toBd 1 rfl rfl rfl) rfl T.clsM T.noM (by decide) (SB.nil rfl))
end
end Rg
namespace Rg
open PySem PySem.Spec PyProof.Rows L2 SX
section
variable {P : Program} {w : World} {K : PySem.W.Frag} {mg : Str → Option Value} {base : Heap} {cS cM cT : Addr}
def R_has_digits : Ct := fun as r => ∃ s : Str, as = [.sh (.str s)] ∧ r = .ret (.bl (hasDigits s)) []
theorem sc_has_digits : FnScope ["text", "char"] ["text"] (defScope (topS 24)) := ⟨rfl, rfl, rfl, by decide +kernel, rfl, by decide +kernel, by decide +kernel⟩
theorem c_has_digits (T : Tx K mg cS cM cT) : Cal P w K mg base false "has_digits" 1 R_has_digits := by
  obtain ⟨f, fd, F, hm⟩ := T.d_has_digits
  refine Cal.of (x := "has_digits") [0, 1] ["DIGITS"] ⟨fd, F⟩ hm sc_has_digits (by decide +kernel) (fun as r h => by obtain ⟨s, rfl, rfl⟩ := h; rfl) (fun _ _ _ _ _ _ us hl => match us, hl with | [_], _ => rfl) fun X B hsc hr hg as r h => ?_
  obtain ⟨s, rfl, rfl⟩ := h
  refine SB.cons (SD.ite (.ofC (.eqS (.var B.toBd 0 rfl rfl rfl) .str)) (fun h => ?_) fun h => ?_)
  · refine SB.cons (SD.ret .bl ?_)
    show Res.ret _ _ = Res.ret _ _
    unfold hasDigits
    rw [h]
    rfl
  · refine SB.nil (SB.cons (SD.for_ B (fun i ρ => (∃ x, ρ = [.sh (.str s), x] ∧ Sl.nb ρ 1 = true) ∧ ∀ j c, j < i → s.cps.toList[j]? = some c → isDig c = true) (EI.str (.var B.toBd 0 rfl rfl rfl)) ⟨⟨_, rfl, rfl⟩, fun j c hj => by omega⟩ (fun i d ρ' hd hi => ?_) fun ρ' hi => ?_))
    · obtain ⟨⟨x, rfl, hx⟩, hall⟩ := hi
      unfold chars at hd
      rw [List.getElem?_map] at hd
      obtain ⟨c, hc, rfl⟩ := Option.map_eq_some_iff.mp hd
      refine SG.name B 1 rfl hx (SB.cons (SD.ite (.ofC (.ninC (.var B.toBd 1 rfl rfl rfl) (.glS B.toBd 0 rfl T.DIGITS) rfl)) (fun h => ?_) fun h => ?_))
      · refine SB.cons (SD.ret .bl ?_)
        show Res.ret _ _ = Res.ret _ _
        have : s.cps.toList.all isDig = false := by
          rw [List.all_eq_false]
          exact ⟨c, List.mem_of_getElem? hc, by unfold isDig; simpa using h⟩
        unfold hasDigits
        rw [this, Bool.and_false]
        rfl
      · refine SB.nil (SB.nil ⟨⟨_, rfl, rfl⟩, fun j c' hj hc' => ?_⟩)
        by_cases e : j = i
        · subst e
          rw [hc] at hc'
          cases hc'
          unfold isDig
          simpa using h
        · exact hall j c' (by omega) hc'
    · refine SB.cons (SD.ret .bl ?_)
      obtain ⟨⟨x, rfl, hx⟩, hall⟩ := hi
      show Res.ret _ _ = Res.ret _ _
      have : s.cps.toList.all isDig = true := by
        rw [List.all_eq_true]
        intro c hc
        obtain ⟨j, hj, e⟩ := List.mem_iff_getElem.mp hc
        refine hall j c ?_ (by rw [List.getElem?_eq_getElem hj, e])
        unfold chars
        rw [List.length_map]
        exact hj
      unfold hasDigits
      rw [h, this]
      rfl
theorem hasDigits_ne {s : Str} (h : hasDigits s = true) : ∃ n, atI s.cps.toList 0 = some n ∧ s.cps.toList.head? = some n := by
  cases q : s.cps.toList with
  | nil =>
    have e : s = "" := (S_tl s).symm.trans (by rw [q]; rfl)
    subst e
    exact absurd h (by decide)
  | cons c r => exact ⟨c, by unfold atI ixN; simp, rfl⟩
theorem l2 {X : Cx} {ρ : Rho} {e : Expr} {s : Str} {pos p2 p3 p4 : Pos} {j j2 : Nat} (he : ED X e ρ (.str s) ρ) (h : hasDigits s = true) (hz : s.length ≤ sizeLine) : ED X (.Compare (.Subscript e (.Constant (.int 0) j p2) p3) [.NotEq] [.Constant (.str "0") j2 p4] pos) ρ (.bl (!decide (s.cps.toList.head? = some 48))) ρ := by
  obtain ⟨n, h1, h2⟩ := hasDigits_ne h
  refine .is (.ofC (.neS (.ixS he .int hz h1) .str)) ?_
  rw [h2]
  have e : decide ((⟨#[n]⟩ : Str) = "0") = decide (some n = some 48) := by
    by_cases q : n = 48
    · subst q
      rfl
    · have q1 : ¬ (⟨#[n]⟩ : Str) = "0" := fun z => q (List.cons.inj (S_inj (a := [n]) (b := [48]) z)).1
      have q2 : ¬ some n = some 48 := fun z => q (Option.some.inj z)
      rw [decide_eq_false q1, decide_eq_false q2]
  rw [e]
def R_is_count : Ct := fun as r => ∃ s : Str, as = [.sh (.str s)] ∧ s.length ≤ sizeLine ∧ r = .ret (.bl (isCount s)) []
theorem sc_is_count : FnScope ["text"] ["text"] (defScope (topS 25)) := ⟨rfl, rfl, rfl, by decide +kernel, rfl, by decide +kernel, by decide +kernel⟩
theorem c_is_count (T : Tx K mg cS cM cT) : Cal P w K mg base false "is_count" 2 R_is_count := by
  obtain ⟨f, fd, F, hm⟩ := T.d_is_count
  refine Cal.of (x := "is_count") [0] ["has_digits", "MOST_DIGITS", "len"] ⟨fd, F⟩ hm sc_is_count (by decide +kernel) (fun as r h => by obtain ⟨s, rfl, hz, rfl⟩ := h; rfl) (fun _ _ _ _ _ _ us hl => match us, hl with | [_], _ => rfl) fun X B hsc hr hg as r h => ?_
  obtain ⟨s, rfl, hz, rfl⟩ := h
  refine SB.cons (SD.ret (.andB (ED.call (c_has_digits T) hg (hr.mono (by decide)) B.toBd 0 rfl (.cons (.var B.toBd 0 rfl rfl rfl) .nil) ⟨s, rfl, rfl⟩) fun h => .andB (.ofC (.le (.lenS B.toBd 2 rfl T.len (.var B.toBd 0 rfl rfl rfl) hz) (.glI B.toBd 1 rfl T.MOST_DIGITS))) fun _ => .bo1 (.orB (.ofC (.eqS (.var B.toBd 0 rfl rfl rfl) .str)) fun _ => .bo1 (l2 (.var B.toBd 0 rfl rfl rfl) h hz))) rfl)
def R_is_written : Ct := fun as r => ∃ l : List Nat, as = [.sh (.str (S l))] ∧ l.length ≤ 10000 ∧ r = .ret (.bl (wrt l)) []
theorem lsz {l : List Nat} (h : l.length ≤ 10000) : (S l).length ≤ sizeLine := by rw [S_len]; exact Nat.le_trans h (by decide)
theorem sc_is_written : FnScope ["text"] ["text"] (defScope (topS 26)) := ⟨rfl, rfl, rfl, by decide +kernel, rfl, by decide +kernel, by decide +kernel⟩
theorem c_is_written (T : Tx K mg cS cM cT) : Cal P w K mg base false "is_written" 3 R_is_written := by
  obtain ⟨f, fd, F, hm⟩ := T.d_is_written
  refine Cal.of (x := "is_written") [0] ["is_count"] ⟨fd, F⟩ hm sc_is_written (by decide +kernel) (fun as r h => by obtain ⟨l, rfl, hl, rfl⟩ := h; rfl) (fun _ _ _ _ _ _ us hl => match us, hl with | [_], _ => rfl) fun X B hsc hr hg as r h => ?_
  obtain ⟨l, rfl, hl, rfl⟩ := h
  have hz := lsz hl
  have hd : (l.drop 1).length ≤ 10000 := by rw [List.length_drop]; omega
  refine SB.cons (SD.ite (.is' (.ofC (.eqS (.slS (.var B.toBd 0 rfl rfl rfl) .none (.some .int) hz) .str)) (neg_is l)) (fun h => ?_) fun h => ?_)
  · refine SB.cons (SD.ret (.is (.andB (k := cnt (l.drop 1)) (l := !decide (l = [45, 48])) (ED.call (c_is_count T) hg (hr.mono (by decide)) B.toBd 0 rfl (.cons (.is (.slS (.var B.toBd 0 rfl rfl rfl) (.some .int) .none hz) (congrArg D.str (cutFrom l 1))) .nil) ⟨S (l.drop 1), rfl, lsz hd, rfl⟩) fun _ => .bo1 (.is (.ofC (.neS (.var B.toBd 0 rfl rfl rfl) .str)) (by rw [show ("-0" : Str) = S [45, 48] from rfl, dec_S]))) (congrArg D.bl ?_)) rfl)
    unfold wrt
    rw [if_pos h]
  · refine SB.nil (SB.cons (SD.ret (.is (ED.call (c_is_count T) hg (hr.mono (by decide)) B.toBd 0 rfl (.cons (.var B.toBd 0 rfl rfl rfl) .nil) ⟨S l, rfl, hz, rfl⟩) (congrArg D.bl ?_)) rfl))
    unfold wrt
    rw [if_neg (by rw [h]; exact Bool.false_ne_true)]
    rfl
/-! ### times -/
def optD : Option Nat → D
  | some n => .int n
  | none => .non
def R_read_time : Ct := fun as r => ∃ l : List Nat, as = [.sh (.str (S l))] ∧ l.length ≤ 10000 ∧ r = .ret (optD (rdT l)) []
theorem dec1 (a b : Nat) : decide ((⟨#[a]⟩ : Str) = S [b]) = decide (a = b) := by
  rw [show (⟨#[a]⟩ : Str) = S [a] from rfl, dec_S]
  by_cases h : a = b
  · subst h
    rw [decide_eq_true rfl, decide_eq_true rfl]
  · rw [decide_eq_false h, decide_eq_false fun e => h (List.cons.inj e).1]
theorem sc_read_time : FnScope ["text", "hours", "minutes", "seconds"] ["text"] (defScope (topS 27)) := ⟨rfl, rfl, rfl, by decide +kernel, rfl, by decide +kernel, by decide +kernel⟩
theorem c_read_time (T : Tx K mg cS cM cT) : Cal P w K mg base false "read_time" 2 R_read_time := by
  obtain ⟨f, fd, F, hm⟩ := T.d_read_time
  refine Cal.of (x := "read_time") [0, 1, 2, 3] ["has_digits", "int", "len", "SECOND", "HOUR", "MINUTE"] ⟨fd, F⟩ hm sc_read_time (by decide +kernel) (fun as r h => by obtain ⟨l, rfl, hl, rfl⟩ := h; rfl) (fun _ _ _ _ _ _ us hl => match us, hl with | [_], _ => rfl) fun X B hsc hr hg as r h => ?_
  obtain ⟨l, rfl, hl, rfl⟩ := h
  have hz := lsz hl
  by_cases h12 : l.length = 12
  · obtain ⟨a, b, c, d, e, f, g, h', i, j, k, m, rfl⟩ := len12 h12
    rw [rdT_12]
    refine SB.cons (SD.ite (EW.et (.or (k := false) (l := !decide (c = 58) || (!decide (f = 58) || !decide (i = 46))) (.is' (.ofC (.neI (.lenS B.toBd 2 rfl T.len (.var B.toBd 0 rfl rfl rfl) hz) .int)) rfl) fun _ => .or (.is' (.ofC (.neS (.ixS (.var B.toBd 0 rfl rfl rfl) .int hz rfl) .str)) (congrArg (!·) (dec1 c 58))) fun _ => .or (.is' (.ofC (.neS (.ixS (.var B.toBd 0 rfl rfl rfl) .int hz rfl) .str)) (congrArg (!·) (dec1 f 58))) fun _ => .one (.is' (.ofC (.neS (.ixS (.var B.toBd 0 rfl rfl rfl) .int hz rfl) .str)) (congrArg (!·) (dec1 i 46))))) (fun h => ?_) fun h => SB.nil ?_)
    · refine SB.cons (SD.ret .non ?_)
      have : tOk a b c d e f g h' i j k m = false := by
        unfold tOk
        simp only [Bool.false_or, Bool.or_eq_true, Bool.not_eq_true', decide_eq_false_iff_not] at h
        rcases h with h | h | h
        · rw [decide_eq_false h, Bool.false_and]
        · rw [decide_eq_false h, Bool.false_and, Bool.and_false]
        · rw [decide_eq_false h, Bool.false_and, Bool.and_false, Bool.and_false]
      rw [this]
      rfl
    simp only [Bool.false_or, Bool.or_eq_false_iff, Bool.not_eq_false', decide_eq_true_eq] at h
    obtain ⟨o1, o2, o3⟩ := h
    have hdd : hasDigits (S [a, b] ++ S [d, e] ++ S [g, h'] ++ S [j, k, m]) = dgs [a, b, d, e, g, h', j, k, m] := by
      rw [S_cat, S_cat, S_cat, hasDigits_eq]
      rfl
    refine SB.cons (SD.ite (.not (.val (.is (ED.call (c_has_digits T) hg (hr.mono (by decide)) B.toBd 0 rfl (.cons (.addS (.addS (.addS (.is (.slS (.var B.toBd 0 rfl rfl rfl) .none (.some .int) hz) (show D.str _ = .str (S [a, b]) from rfl)) (.is (.slS (.var B.toBd 0 rfl rfl rfl) (.some .int) (.some .int) hz) (show D.str _ = .str (S [d, e]) from rfl)) (by show 4 ≤ sizeLine; decide)) (.is (.slS (.var B.toBd 0 rfl rfl rfl) (.some .int) (.some .int) hz) (show D.str _ = .str (S [g, h']) from rfl)) (by rw [S_cat, S_len, S_len]; show 6 ≤ sizeLine; decide)) (.is (.slS (.var B.toBd 0 rfl rfl rfl) (.some .int) .none hz) (show D.str _ = .str (S [j, k, m]) from rfl)) (by rw [S_cat, S_cat, S_len, S_len]; show 9 ≤ sizeLine; decide)) .nil) ⟨_, rfl, rfl⟩) (congrArg D.bl hdd)) (by intro _; rfl))) (fun h => ?_) fun h => SB.nil ?_)
    · refine SB.cons (SD.ret .non ?_)
      have h : dgs [a, b, d, e, g, h', j, k, m] = false := by simpa using h
      have : tOk a b c d e f g h' i j k m = false := by
        unfold tOk
        rw [h, Bool.false_and, Bool.and_false, Bool.and_false, Bool.and_false]
      rw [this]
      rfl
    have hd9 : dgs [a, b, d, e, g, h', j, k, m] = true := by simpa using h
    have dg := dgs_iff.mp hd9
    have q1 : dgs [a, b] = true := dgs_iff.mpr fun x hx => dg x (by simp only [List.mem_cons, List.not_mem_nil, or_false] at hx ⊢; omega)
    have q2 : dgs [d, e] = true := dgs_iff.mpr fun x hx => dg x (by simp only [List.mem_cons, List.not_mem_nil, or_false] at hx ⊢; omega)
    have q3 : dgs [g, h'] = true := dgs_iff.mpr fun x hx => dg x (by simp only [List.mem_cons, List.not_mem_nil, or_false] at hx ⊢; omega)
    have q4 : dgs [j, k, m] = true := dgs_iff.mpr fun x hx => dg x (by simp only [List.mem_cons, List.not_mem_nil, or_false] at hx ⊢; omega)
    have w1 := v2_lt q1
    have w2 := v2_lt q2
    have w3 := v2_lt q3
    have w4 := v3_lt q4
    refine SB.cons (SD.par3 B hsc 1 2 3 rfl rfl rfl (by decide) (by decide) (by decide) rfl (by decide +kernel) (by decide +kernel) (by decide +kernel) (.cons (.intS B.toBd 1 rfl T.int (.is (.slS (.var B.toBd 0 rfl rfl rfl) .none (.some .int) hz) (show D.str _ = .str (S [a, b]) from rfl)) (it_v2 q1) (by show 2 ≤ 640; decide)) (.cons (.intS B.toBd 1 rfl T.int (.is (.slS (.var B.toBd 0 rfl rfl rfl) (.some .int) (.some .int) hz) (show D.str _ = .str (S [d, e]) from rfl)) (it_v2 q2) (by show 2 ≤ 640; decide)) (.cons (.intS B.toBd 1 rfl T.int (.is (.slS (.var B.toBd 0 rfl rfl rfl) (.some .int) (.some .int) hz) (show D.str _ = .str (S [g, h']) from rfl)) (it_v2 q3) (by show 2 ≤ 640; decide)) .nil))) rfl rfl rfl ?_ (by decide +kernel) (by decide +kernel) (by decide +kernel) (by decide +kernel) (by decide +kernel) rfl rfl rfl rfl rfl)
    refine SB.cons (SD.ite (EW.et (.or (.ofC (.gt (.var B.toBd 1 rfl rfl rfl) .int)) fun _ => .or (.ofC (.gt (.var B.toBd 2 rfl rfl rfl) .int)) fun _ => .one (.ofC (.gt (.var B.toBd 3 rfl rfl rfl) .int)))) (fun h => ?_) fun h => SB.nil ?_)
    · refine SB.cons (SD.ret .non ?_)
      have : tOk a b c d e f g h' i j k m = false := by
        unfold tOk
        simp only [Bool.or_eq_true, decide_eq_true_eq] at h
        rcases h with h | h | h
        · rw [decide_eq_false (show ¬ v2 a b ≤ 23 by omega)]
          simp
        · rw [decide_eq_false (show ¬ v2 d e ≤ 59 by omega)]
          simp
        · rw [decide_eq_false (show ¬ v2 g h' ≤ 59 by omega)]
          simp
      rw [this]
      rfl
    simp only [Bool.or_eq_false_iff, decide_eq_false_iff_not] at h
    have ok : tOk a b c d e f g h' i j k m = true := by
      unfold tOk
      rw [decide_eq_true o1, decide_eq_true o2, decide_eq_true o3, hd9, decide_eq_true (show v2 a b ≤ 23 by omega), decide_eq_true (show v2 d e ≤ 59 by omega), decide_eq_true (show v2 g h' ≤ 59 by omega)]
      rfl
    rw [ok, if_pos rfl]
    refine SB.cons (SD.ret (.is (.add (.add (.add (.mul (.var B.toBd 1 rfl rfl rfl) (.glI B.toBd 4 rfl T.HOUR) (mulS (by omega) (by decide))) (.mul (.var B.toBd 2 rfl rfl rfl) (.glI B.toBd 5 rfl T.MINUTE) (mulS (by omega) (by decide)))) (.mul (.var B.toBd 3 rfl rfl rfl) (.glI B.toBd 3 rfl T.SECOND) (mulS (by omega) (by decide)))) (.intS B.toBd 1 rfl T.int (.is (.slS (.var B.toBd 0 rfl rfl rfl) (.some .int) .none hz) (show D.str _ = .str (S [j, k, m]) from rfl)) (it_v3 q4) (by show 3 ≤ 640; decide))) (congrArg D.int ?_)) rfl)
    omega
  · rw [rdT_len h12]
    refine SB.cons (SD.ite (EW.et (.orT (.is' (.ofC (.neI (.lenS B.toBd 2 rfl T.len (.var B.toBd 0 rfl rfl rfl) hz) .int)) (by rw [S_len, decide_eq_false (by omega)]; rfl)))) (fun _ => SB.cons (SD.ret .non rfl)) fun h => nomatch h)
end
end Rg
namespace Rg
open PySem PySem.Spec PyProof.Rows L2 SX
section
variable {P : Program} {w : World} {K : PySem.W.Frag} {mg : Str → Option Value} {base : Heap} {cS cM cT : Addr}
/-- what is no text -/
structure NoS (K : PySem.W.Frag) (d : D) : Prop where
  ex : ∃ t, (∀ X : Cx, TyD X d t) ∧ PySem.W.kitOne K t (.type "str") = some false
def badT (cT : Addr) (i : Int) : Res := .err cT [("place", .int i)] []
def R_look_string (K : PySem.W.Frag) (cT : Addr) : Ct := fun as r => ∃ d : D, as = [.sh d] ∧ (((∃ s, d = .str s) ∧ r = .ret .non []) ∨ (NoS K d ∧ r = badT cT (-1)))
theorem sc_look_string : FnScope ["text"] ["text"] (defScope (topS 28)) := ⟨rfl, rfl, rfl, by decide +kernel, rfl, by decide +kernel, by decide +kernel⟩
theorem c_look_string (T : Tx K mg cS cM cT) : Cal P w K mg base false "look_string" 3 (R_look_string K cT) := by
  obtain ⟨f, fd, F, hm⟩ := T.d_look_string
  refine Cal.of (x := "look_string") [0] ["isinstance", "str", "BadText"] ⟨fd, F⟩ hm sc_look_string (by decide +kernel) (fun as r h => by obtain ⟨d, rfl, hq⟩ := h; rfl) (fun _ _ _ _ _ _ us hl => match us, hl with | [_], _ => rfl) fun X B hsc hr hg as r h => ?_
  obtain ⟨d, rfl, hq⟩ := h
  rcases hq with ⟨⟨s, rfl⟩, rfl⟩ | ⟨ns, rfl⟩
  · exact SB.cons (SD.ite (.not (k := true) (.val (.isi B.toBd 0 rfl T.isinstance (.var B.toBd 0 rfl rfl rfl) (.glT (t := "str") B.toBd 1 rfl T.str (by decide +kernel)) tyd_str rfl rfl) (by intro _; rfl))) (fun h => nomatch h) fun _ => SB.nil (SB.nil rfl))
  · obtain ⟨t, ht, hk⟩ := ns.ex
    exact SB.cons (SD.ite (.not (k := false) (.val (.isi B.toBd 0 rfl T.isinstance (.var B.toBd 0 rfl rfl rfl) (.glT (t := "str") B.toBd 1 rfl T.str (by decide +kernel)) (ht X) rfl hk) (by intro _; rfl))) (fun _ => SB.cons (SD.raise (c_BadText T) (hr.mono (by decide)) B 2 rfl (.neg .int) rfl)) fun h => nomatch h)
theorem ls_str {s : Str} : R_look_string K cT [.sh (.str s)] (.ret .non []) := ⟨_, rfl, .inl ⟨⟨s, rfl⟩, rfl⟩⟩
theorem ls_no {d : D} (h : NoS K d) : R_look_string K cT [.sh d] (.err cT [("place", .int (-1))] []) := ⟨_, rfl, .inr ⟨h, rfl⟩⟩
def resS (cS cT : Addr) : Option Int → Res
  | some z => .ret (spn cS z) []
  | none => badT cT 0
def resM (cM cT : Addr) : Option Int → Res
  | some z => .ret (mom cM z) []
  | none => badT cT 0
def R_read_span (K : PySem.W.Frag) (cS cT : Addr) : Ct := fun as r => ∃ d : D, as = [.sh d] ∧ ((∃ l, d = .str (S l) ∧ l.length ≤ 1000 ∧ r = resS cS cT (spanR l)) ∨ (NoS K d ∧ r = badT cT (-1)))
theorem body_S (l : List Nat) : (if neg? l = true then cutS (S l) (some 1) none else S l) = S (body l) := by
  unfold body
  by_cases h : neg? l = true
  · rw [if_pos h, if_pos h]
    exact cutFrom l 1
  · rw [if_neg h, if_neg h]
theorem body_len (l : List Nat) : (body l).length ≤ l.length := by
  unfold body
  split
  · rw [List.length_drop]
    omega
  · exact Nat.le_refl _
theorem par_len {sp : List Nat} : ∀ {l acc p q : List Nat}, TL.par sp acc l = some (p, q) → p.length ≤ acc.length + l.length ∧ q.length ≤ acc.length + l.length
  | [], acc, p, q, h => by cases h
  | c :: r, acc, p, q, h => by
    by_cases hh : TL.pre sp (c :: r) = true
    · rw [TL.par_hit hh] at h
      cases h
      rw [List.length_drop]
      omega
    · rw [TL.par_miss (by simpa using hh)] at h
      have z := par_len (l := r) h
      rw [List.length_append] at z
      simp only [List.length_cons, List.length_nil] at z ⊢
      omega
theorem sgn_is (b : Bool) (n : Nat) : sgn b n = if b = true then -(n : Int) else n := rfl
theorem sc_read_span : FnScope ["text", "is_below", "days", "blank", "time", "rest", "amount"] ["text"] (defScope (topS 29)) := ⟨rfl, rfl, rfl, by decide +kernel, rfl, by decide +kernel, by decide +kernel⟩
theorem c_read_span (T : Tx K mg cS cM cT) : Cal P w K mg base false "read_span" 4 (R_read_span K cS cT) := by
  obtain ⟨f, fd, F, hm⟩ := T.d_read_span
  refine Cal.of (x := "read_span") [0, 1, 2, 3, 4, 5, 6] ["look_string", "read_time", "Span", "DAY", "is_count", "int", "BadText"] ⟨fd, F⟩ hm sc_read_span (by decide +kernel) (fun as r h => by obtain ⟨d, rfl, hq⟩ := h; rfl) (fun _ _ _ _ _ _ us hl => match us, hl with | [_], _ => rfl) fun X B hsc hr hg as r h => ?_
  obtain ⟨d, rfl, hq⟩ := h
  have hr2 : Room 2 X.A := hr.mono (by decide)
  rcases hq with ⟨l, rfl, hl, rfl⟩ | ⟨ns, rfl⟩
  · have hz := lsz (l := l) (by omega)
    have bl := body_len l
    have bz := lsz (l := body l) (by omega)
    refine SB.cons (SD.expr (ED.call (c_look_string T) hg hr B.toBd 0 rfl (.cons (.var B.toBd 0 rfl rfl rfl) .nil) ls_str) ?_)
    refine SB.cons (SD.asg B 1 rfl (.is (.ofC (.eqS (.slS (.var B.toBd 0 rfl rfl rfl) .none (.some .int) hz) .str)) (congrArg D.bl (neg_is l))) rfl ?_)
    -- the parts
    cases hp : TL.par [100, 32] [] (body l) with
    | none =>
      have er : spanR l = none := by unfold spanR; rw [hp]
      rw [er]
      have ep : Txt.partition (S (body l)) "d " = (S (body l), S [], S []) := SX.partition_none (a := body l) (b := [100, 32]) (by decide) hp
      refine SB.cons (SD.asg3 B 2 3 4 rfl rfl rfl (d1 := .str (S (body l))) (d2 := .str (S [])) (d3 := .str (S [])) (.is (.partition (s := S (body l)) (.ifx (k := neg? l) (.val (.var B.toBd 1 rfl rfl rfl) (by intro _; rfl)) (fun h => .is (.slS (.var B.toBd 0 rfl rfl rfl) (.some .int) .none hz) (congrArg D.str (by rw [← body_S, if_pos h]))) fun h => .is (.var B.toBd 0 rfl rfl rfl) (congrArg D.str (by rw [← body_S, if_neg (by rw [h]; exact Bool.false_ne_true)]))) .str rfl bz) (by rw [ep])) rfl rfl rfl ?_)
      refine SB.cons (SD.asg B 5 rfl (ED.call (c_read_time T) hg hr2 B.toBd 1 rfl (.cons (.var B.toBd 4 rfl rfl rfl) .nil) ⟨[], rfl, Nat.zero_le _, rfl⟩) rfl ?_)
      refine SB.cons (SD.ite (EW.et (.or (l := true) (.not (.val (ED.call (c_is_count T) hg hr2 B.toBd 4 rfl (.cons (.var B.toBd 2 rfl rfl rfl) .nil) ⟨_, rfl, bz, rfl⟩) (by intro _; rfl))) fun _ => .orT (.is' (.ofC (.eqS (.var B.toBd 3 rfl rfl rfl) .str)) (by decide)))) (fun _ => SB.cons (SD.raise (c_BadText T) hr2 B 6 rfl .int rfl)) fun h => ?_)
      rw [Bool.or_true] at h
      exact nomatch h
    | some pq =>
      obtain ⟨p, q⟩ := pq
      have ep : Txt.partition (S (body l)) "d " = (S p, ("d " : Str), S q) := SX.partition_some (a := body l) (b := [100, 32]) (by decide) hp
      have hlen : p.length ≤ (body l).length ∧ q.length ≤ (body l).length := by
        have z := par_len hp
        simp only [List.length_nil, Nat.zero_add] at z
        omega
      have pz := lsz (l := p) (by omega)
      refine SB.cons (SD.asg3 B 2 3 4 rfl rfl rfl (d1 := .str (S p)) (d2 := .str "d ") (d3 := .str (S q)) (.is (.partition (s := S (body l)) (.ifx (k := neg? l) (.val (.var B.toBd 1 rfl rfl rfl) (by intro _; rfl)) (fun h => .is (.slS (.var B.toBd 0 rfl rfl rfl) (.some .int) .none hz) (congrArg D.str (by rw [← body_S, if_pos h]))) fun h => .is (.var B.toBd 0 rfl rfl rfl) (congrArg D.str (by rw [← body_S, if_neg (by rw [h]; exact Bool.false_ne_true)]))) .str rfl bz) (by rw [ep])) rfl rfl rfl ?_)
      refine SB.cons (SD.asg B 5 rfl (ED.call (c_read_time T) hg hr2 B.toBd 1 rfl (.cons (.var B.toBd 4 rfl rfl rfl) .nil) ⟨q, rfl, by omega, rfl⟩) rfl ?_)
      refine SB.cons (SD.ite (EW.et (.or (.not (.val (.is (ED.call (c_is_count T) hg hr2 B.toBd 4 rfl (.cons (.var B.toBd 2 rfl rfl rfl) .nil) ⟨_, rfl, pz, rfl⟩) (show D.bl _ = .bl (cnt p) from rfl)) (by intro _; rfl))) fun _ => .or (k := false) (.is' (.ofC (.eqS (s := "d ") (.var B.toBd 3 rfl rfl rfl) .str)) (by decide)) fun _ => .one (.ofC (.isN (.var B.toBd 5 rfl rfl rfl))))) (fun h => ?_) fun h => SB.nil ?_)
      · refine SB.cons (SD.raise (c_BadText T) hr2 B 6 rfl .int ?_)
        have er : spanR l = none := by
          unfold spanR
          rw [hp]
          show (match rdT q with | none => none | some t => _) = _
          cases ht : rdT q with
          | none => rfl
          | some t =>
            rw [ht] at h
            have h : cnt p = false := by simpa [optD, D.isNon] using h
            show (if cnt p = true then _ else none) = none
            rw [h]
            rfl
        rw [er]
        rfl
      · cases ht : rdT q with
        | none =>
          rw [ht] at h
          simp [optD, D.isNon] at h
        | some t =>
          rw [ht] at h
          have hc : cnt p = true := by simpa [optD, D.isNon] using h
          have vl := val_cnt hc
          have pl := (cnt_dgs hc).2.2
          have er : spanR l = if neg? l = true ∧ val p * 86400000 + t = 0 then none else some (sgn (neg? l) (val p * 86400000 + t)) := by
            unfold spanR
            rw [hp]
            show (match rdT q with | none => none | some t => _) = _
            rw [ht]
            show (if cnt p = true then _ else none) = _
            rw [if_pos hc]
          rw [er]
          refine SB.cons (SD.asg B 6 rfl (d := .int ((val p * 86400000 + t : Nat) : Int)) (.is (.add (.mul (.intS B.toBd 5 rfl T.int (.var B.toBd 2 rfl rfl rfl) (it_cnt hc) (by rw [S_len]; omega)) (.glI B.toBd 3 rfl T.DAY) (mulS (by rw [Int.natAbs_natCast]; exact Nat.lt_trans vl (by decide)) (by decide))) (.is (.var B.toBd 5 rfl rfl rfl) (show optD (some t) = D.int (t : Int) from rfl))) (congrArg D.int (by omega))) rfl ?_)
          refine SB.cons (SD.ite (EW.et (.and (.val (.var B.toBd 1 rfl rfl rfl) (by intro _; rfl)) fun _ => .one (.ofC (.eqI (.var B.toBd 6 rfl rfl rfl) .int)))) (fun h => ?_) fun h => SB.nil ?_)
          · simp only [Bool.and_eq_true, decide_eq_true_eq] at h
            rw [if_pos ⟨h.1, by omega⟩]
            exact SB.cons (SD.raise (c_BadText T) hr2 B 6 rfl .int rfl)
          · have hn : ¬ (neg? l = true ∧ val p * 86400000 + t = 0) := fun z => by
              rw [z.1, Bool.true_and] at h
              exact of_decide_eq_false h (by omega)
            rw [if_neg hn]
            refine SB.cons (SD.ret (ED.make (c_Span T) hr B.toBd 2 rfl (.cons (.ifx (d := .int (sgn (neg? l) (val p * 86400000 + t))) (k := neg? l) (.val (.var B.toBd 1 rfl rfl rfl) (by intro _; rfl)) (fun h => .is (.neg (.var B.toBd 6 rfl rfl rfl)) (congrArg D.int (by rw [sgn_is, if_pos h]))) fun h => .is (.var B.toBd 6 rfl rfl rfl) (congrArg D.int (by rw [sgn_is, if_neg (by rw [h]; exact Bool.false_ne_true)]))) .nil) ⟨_, rfl, rfl⟩) rfl)
  · exact SB.cons (SD.exprX (RD.call (c_look_string T) hg hr B.toBd 0 rfl (.cons (.var B.toBd 0 rfl rfl rfl) .nil) (ls_no ns)) rfl)

/-! ### a moment read -/
def R_read_moment (K : PySem.W.Frag) (cM cT : Addr) : Ct := fun as r => ∃ d : D, as = [.sh d] ∧ ((∃ l, d = .str (S l) ∧ l.length ≤ 1000 ∧ r = resM cM cT (momR l)) ∨ (NoS K d ∧ r = badT cT (-1)))
theorem spl_len {sp : List Nat} : ∀ {l acc : List Nat} {k : Nat}, ∀ p ∈ TL.spl sp k acc l, p.length ≤ acc.length + l.length
  | [], acc, k, p, h => by
    rw [TL.spl_nil] at h
    rw [List.mem_singleton.mp h]
    simp
  | c :: r, acc, 0, p, h => by
    by_cases hh : TL.pre sp (c :: r) = true
    · rw [TL.spl_hit hh] at h
      rcases List.mem_cons.mp h with rfl | h
      · omega
      · have z := spl_len (l := r) (acc := []) p h
        simp only [List.length_nil, List.length_cons] at z ⊢
        omega
    · rw [TL.spl_miss (by simpa using hh)] at h
      have z := spl_len (l := r) p h
      rw [List.length_append] at z
      simp only [List.length_cons, List.length_nil] at z ⊢
      omega
  | c :: r, acc, k + 1, p, h => by
    have z := spl_len (l := r) (acc := acc) (k := k) p h
    simp only [List.length_cons]
    omega
theorem split_sp (l : List Nat) : Txt.split (S l) " " = (TL.spl [32] 0 [] l).map S := split_S (a := l) (b := [32]) (by decide) (by decide)
theorem it_wrt {l : List Nat} (h : wrt l = true) : intText? (S l) = some (ival l) := by
  unfold wrt at h
  unfold ival sgn body
  by_cases hn : neg? l = true
  · rw [if_pos hn] at h
    rw [if_pos hn, if_pos hn]
    have hc : cnt (l.drop 1) = true := (Bool.and_eq_true_iff.mp h).1
    obtain ⟨a, b, c⟩ := cnt_dgs hc
    have e : l = 45 :: l.drop 1 := by
      cases l with
      | nil => exact absurd rfl b
      | cons x r =>
        have : x = 45 := Option.some.inj (of_decide_eq_true hn)
        rw [this]
        rfl
    have z := intText_neg (x := S l) (cs := l.drop 1) e (dgs_iff.mp a) b (by rw [S_len]; rw [List.length_drop] at c; omega)
    exact z
  · rw [if_neg hn] at h
    rw [if_neg hn, if_neg hn]
    exact it_cnt h
theorem ival_lt {l : List Nat} (h : wrt l = true) : (ival l).natAbs < 10 ^ 30 := by
  unfold wrt at h
  unfold ival sgn body
  by_cases hn : neg? l = true
  · rw [if_pos hn] at h
    rw [if_pos hn, if_pos hn]
    have := val_cnt (Bool.and_eq_true_iff.mp h).1
    omega
  · rw [if_neg hn] at h
    rw [if_neg hn, if_neg hn]
    have := val_cnt h
    omega
theorem wrt_len {l : List Nat} (h : wrt l = true) : l.length ≤ 31 := by
  unfold wrt at h
  by_cases hn : neg? l = true
  · rw [if_pos hn] at h
    have := (cnt_dgs (Bool.and_eq_true_iff.mp h).1).2.2
    rw [List.length_drop] at this
    omega
  · rw [if_neg hn] at h
    have := (cnt_dgs h).2.2
    omega
theorem sc_read_moment : FnScope ["text", "words", "rest"] ["text"] (defScope (topS 30)) := ⟨rfl, rfl, rfl, by decide +kernel, rfl, by decide +kernel, by decide +kernel⟩
theorem c_read_moment (T : Tx K mg cS cM cT) : Cal P w K mg base false "read_moment" 4 (R_read_moment K cM cT) := by
  obtain ⟨f, fd, F, hm⟩ := T.d_read_moment
  refine Cal.of (x := "read_moment") [0, 1, 2] ["look_string", "read_time", "Moment", "len", "is_written", "DAY", "int", "BadText"] ⟨fd, F⟩ hm sc_read_moment (by decide +kernel) (fun as r h => by obtain ⟨d, rfl, hq⟩ := h; rfl) (fun _ _ _ _ _ _ us hl => match us, hl with | [_], _ => rfl) fun X B hsc hr hg as r h => ?_
  obtain ⟨d, rfl, hq⟩ := h
  have hr2 : Room 2 X.A := hr.mono (by decide)
  rcases hq with ⟨l, rfl, hl, rfl⟩ | ⟨ns, rfl⟩
  · have hz : (S l).length + 2 ≤ sizeLine := by rw [S_len]; exact Nat.le_trans (m := 1002) (by omega) (by decide)
    refine SB.cons (SD.expr (ED.call (c_look_string T) hg hr B.toBd 0 rfl (.cons (.var B.toBd 0 rfl rfl rfl) .nil) ls_str) ?_)
    refine SB.cons (SD.asg B 1 rfl (d := .lst (((TL.spl [32] 0 [] l).map S).map .str)) (.is (EO.ed (.split (.var B.toBd 0 rfl rfl rfl) .str rfl hz)) (by rw [← split_sp]; rfl)) rfl ?_)
    have lens := spl_len (sp := [32]) (l := l) (acc := []) (k := 0)
    simp only [List.length_nil, Nat.zero_add] at lens
    have el : (((TL.spl [32] 0 [] l).map S).map D.str).length = (TL.spl [32] 0 [] l).length := by simp
    by_cases h3 : (TL.spl [32] 0 [] l).length = 3
    · obtain ⟨a, b, c, e3⟩ : ∃ a b c, TL.spl [32] 0 [] l = [a, b, c] := by
        match TL.spl [32] 0 [] l, h3 with
        | [a, b, c], _ => exact ⟨a, b, c, rfl⟩
      rw [e3] at lens ⊢
      have la := lens a (by simp)
      have lb := lens b (by simp)
      have lc := lens c (by simp)
      have em : momR l = if a = [100, 97, 121] ∧ wrt b = true then (match rdT c with
          | some t => some (ival b * 86400000 + t)
          | none => none) else none := by
        unfold momR
        rw [e3]
        try rfl
      refine SB.cons (SD.ite (EW.et (.or (k := false) (.is' (.ofC (.neI (.lenL (ds := [.str (S a), .str (S b), .str (S c)]) B.toBd 3 rfl T.len (.var B.toBd 1 rfl rfl rfl)) .int)) rfl) fun _ => .or (k := !decide (a = [100, 97, 121])) (.is' (.ofC (.neS (.ixL (d := .str (S a)) (.var B.toBd 1 rfl rfl rfl) .int rfl) .str)) (by rw [show ("day" : Str) = S [100, 97, 121] from rfl, dec_S])) fun _ => .one (.not (.val (ED.call (c_is_written T) hg hr B.toBd 4 rfl (.cons (.ixL (d := .str (S b)) (.var B.toBd 1 rfl rfl rfl) .int rfl) .nil) ⟨b, rfl, by omega, rfl⟩) (by intro _; rfl))))) (fun h => ?_) fun h => SB.nil ?_)
      · refine SB.cons (SD.raise (c_BadText T) hr2 B 7 rfl .int ?_)
        have hn : ¬ (a = [100, 97, 121] ∧ wrt b = true) := fun z => by
          rw [z.2, decide_eq_true z.1] at h
          exact nomatch h
        rw [em, if_neg hn]
        rfl
      · simp only [Bool.false_or, Bool.or_eq_false_iff, Bool.not_eq_false', decide_eq_true_eq] at h
        rw [em, if_pos h]
        have hw := h
        refine SB.cons (SD.asg B 2 rfl (ED.call (c_read_time T) hg hr2 B.toBd 1 rfl (.cons (.ixL (d := .str (S c)) (.var B.toBd 1 rfl rfl rfl) .int rfl) .nil) ⟨c, rfl, by omega, rfl⟩) rfl ?_)
        refine SB.cons (SD.ite (.ofC (.isN (.var B.toBd 2 rfl rfl rfl))) (fun h => ?_) fun h => SB.nil ?_)
        · cases ht : rdT c with
          | none => exact SB.cons (SD.raise (c_BadText T) hr2 B 7 rfl .int rfl)
          | some t =>
            rw [ht] at h
            exact nomatch h
        · cases ht : rdT c with
          | none =>
            rw [ht] at h
            exact nomatch h
          | some t =>
            have vl := ival_lt hw.2
            have wl := wrt_len hw.2
            exact SB.cons (SD.ret (ED.make (c_Moment T) hr B.toBd 2 rfl (.cons (.add (.mul (.intS B.toBd 6 rfl T.int (.ixL (d := .str (S b)) (.var B.toBd 1 rfl rfl rfl) .int rfl) (it_wrt hw.2) (by rw [S_len]; omega)) (.glI B.toBd 5 rfl T.DAY) (mulS (Nat.lt_trans vl (by decide)) (by decide))) (.is (.var B.toBd 2 rfl rfl rfl) (show optD (some t) = D.int (t : Int) from rfl))) .nil) ⟨_, rfl, rfl⟩) rfl)
    · have em : momR l = none := by
        unfold momR
        split
        · rename_i e3
          rw [e3] at h3
          exact absurd rfl h3
        · rfl
      rw [em]
      refine SB.cons (SD.ite (EW.et (.orT (.is' (.ofC (.neI (.lenL B.toBd 3 rfl T.len (.var B.toBd 1 rfl rfl rfl)) .int)) (by rw [el, decide_eq_false (by omega)]; rfl)))) (fun _ => SB.cons (SD.raise (c_BadText T) hr2 B 7 rfl .int rfl)) fun h => nomatch h)
  · exact SB.cons (SD.exprX (RD.call (c_look_string T) hg hr B.toBd 0 rfl (.cons (.var B.toBd 0 rfl rfl rfl) .nil) (ls_no ns)) rfl)
end
end Rg
namespace Rg
open PySem PySem.Spec PyProof.Rows L2 SX
/-! ### the law's reading -/
def lawS (l : List Nat) : Option Int := match TL.spl [100, 32] 0 [] l with
  | [a, b] => match rdT b with
    | none => none
    | some t => if cnt (if neg? l = true then a.drop 1 else a) = true then (if neg? l = true ∧ val (if neg? l = true then a.drop 1 else a) + t = 0 then none else some ((((val (if neg? l = true then a.drop 1 else a) : Nat) : Int) * 86400000 + t) * (if neg? l = true then -1 else 1))) else none
  | _ => none
def lawM (l : List Nat) : Option Int := match TL.spl [32] 0 [] l with
  | [a, b, c] => if a = [100, 97, 121] then (match rdT c with
    | none => none
    | some t => if cnt (body b) = true then (if neg? b = true ∧ body b = [48] then none else some (((val (body b) : Nat) : Int) * (if neg? b = true then -1 else 1) * 86400000 + t)) else none) else none
  | _ => none
theorem spl_acc {sp : List Nat} : ∀ {l acc x : List Nat}, ∃ h t, TL.spl sp 0 x l = (x ++ h) :: t ∧ TL.spl sp 0 (acc ++ x) l = (acc ++ x ++ h) :: t
  | [], acc, x => ⟨[], [], by rw [TL.spl_nil, List.append_nil], by rw [TL.spl_nil, List.append_nil]⟩
  | c :: r, acc, x => by
    by_cases hh : TL.pre sp (c :: r) = true
    · rw [TL.spl_hit hh, TL.spl_hit hh]
      exact ⟨[], _, by rw [List.append_nil], by rw [List.append_nil]⟩
    · have hh : TL.pre sp (c :: r) = false := by simpa using hh
      rw [TL.spl_miss hh, TL.spl_miss hh]
      obtain ⟨h, t, e1, e2⟩ := @spl_acc sp r acc (x ++ [c])
      refine ⟨c :: h, t, ?_, ?_⟩
      · rw [e1]
        simp
      · rw [List.append_assoc, e2]
        simp
/-- par and spl -/
theorem spl_par {c : Nat} {sp : List Nat} : ∀ {l acc : List Nat}, (TL.par (c :: sp) acc l = none ∧ ∃ x, TL.spl (c :: sp) 0 acc l = [x]) ∨ ∃ p q, TL.par (c :: sp) acc l = some (p, q) ∧ TL.spl (c :: sp) 0 acc l = p :: TL.spl (c :: sp) 0 [] q
  | [], acc => .inl ⟨rfl, acc, TL.spl_nil _ _ _⟩
  | d :: r, acc => by
    by_cases hh : TL.pre (c :: sp) (d :: r) = true
    · refine .inr ⟨acc, (d :: r).drop (c :: sp).length, TL.par_hit hh, ?_⟩
      rw [TL.spl_hit hh, TL.spl_pass]
      rfl
    · have hh : TL.pre (c :: sp) (d :: r) = false := by simpa using hh
      rw [TL.par_miss hh, TL.spl_miss hh]
      exact @spl_par c sp r (acc ++ [d])
theorem spl_one {c : Nat} {sp l : List Nat} (h : c ∉ l) : TL.spl (c :: sp) 0 [] l = [l] := by
  have z := TL.spl_last1 (S := sp) (acc := []) h
  rwa [List.nil_append] at z
theorem spl_join_back {c : Nat} {sp : List Nat} : ∀ {l acc x : List Nat}, TL.spl (c :: sp) 0 acc l = [x] → x = acc ++ l
  | [], acc, x, h => by
    rw [TL.spl_nil] at h
    cases h
    rw [List.append_nil]
  | d :: r, acc, x, h => by
    by_cases hh : TL.pre (c :: sp) (d :: r) = true
    · rw [TL.spl_hit hh, TL.spl_pass] at h
      have e := (List.cons.inj h).2
      obtain ⟨h', t, e2, _⟩ := @spl_acc (c :: sp) (r.drop ((c :: sp).length - 1)) [] []
      rw [e2] at e
      cases e
    · have hh : TL.pre (c :: sp) (d :: r) = false := by simpa using hh
      rw [TL.spl_miss hh] at h
      have z := spl_join_back h
      rw [z]
      simp
theorem nil_nospl {sp : List Nat} (l : List Nat) : TL.spl sp 0 [] l ≠ [] := by
  obtain ⟨h, t, e, _⟩ := @spl_acc sp l [] []
  rw [e]
  simp
/-- the two readings of a span -/
theorem span_same (l : List Nat) : spanR l = lawS l := by
  -- what stands behind the sign
  have key : ∀ (b : List Nat), (∃ x, TL.par [100, 32] [] b = none ∧ TL.spl [100, 32] 0 [] b = [x]) ∨ ∃ p q, TL.par [100, 32] [] b = some (p, q) ∧ TL.spl [100, 32] 0 [] b = p :: TL.spl [100, 32] 0 [] q := fun b => by
    rcases @spl_par 100 [32] b [] with ⟨h1, x, h2⟩ | h
    · exact .inl ⟨x, h1, h2⟩
    · exact .inr h
  -- the whole text's words
  have words : ∀ (w : List Nat) (ws : List (List Nat)), TL.spl [100, 32] 0 [] (body l) = w :: ws → ∃ a, TL.spl [100, 32] 0 [] l = a :: ws ∧ (if neg? l = true then a.drop 1 else a) = w := fun w ws e => by
    by_cases hn : neg? l = true
    · unfold body at e
      rw [if_pos hn] at e
      have el : l = 45 :: l.drop 1 := by
        cases l with
        | nil => exact absurd hn (by decide)
        | cons x r =>
          have : x = 45 := Option.some.inj (of_decide_eq_true hn)
          rw [this]
          rfl
      obtain ⟨h, t, e1, e2⟩ := @spl_acc [100, 32] (l.drop 1) [45] []
      rw [List.nil_append] at e1
      rw [e1] at e
      obtain ⟨rfl, rfl⟩ := List.cons.inj e
      refine ⟨45 :: h, ?_, by rw [if_pos hn]; rfl⟩
      rw [el, TL.spl_miss (by
        unfold TL.pre
        cases hd : l.drop 1 with
        | nil => decide
        | cons x r =>
          show (([45, x] == [100, 32]) : Bool) = false
          simp)]
      exact e2
    · unfold body at e
      rw [if_neg hn] at e
      exact ⟨w, e, by rw [if_neg hn]⟩
  unfold spanR lawS
  rcases key (body l) with ⟨x, h1, h2⟩ | ⟨p, q, h1, h2⟩
  · obtain ⟨a, e1, e2⟩ := words _ _ h2
    rw [h1, e1]
  · obtain ⟨a, e1, e2⟩ := words _ _ h2
    rw [h1, e1]
    show (match rdT q with | none => none | some t => _) = _
    cases ht : rdT q with
    | none =>
      show none = _
      split
      · rename_i x y ee
        obtain ⟨rfl, e3⟩ := List.cons.inj ee
        -- y is all of q
        rcases key q with ⟨z, k1, k2⟩ | ⟨p', q', k1, k2⟩
        · rw [k2] at e3
          cases e3
          have : y = q := by
            have := spl_join_back k2
            rwa [List.nil_append] at this
          rw [this, ht]
        · rw [k2] at e3
          exact absurd (List.cons.inj e3).2 (nil_nospl q')
      · rfl
    | some t =>
      have nq : 100 ∉ q := fun m => by
        have := (rdT_sg ht).1 100 m
        omega
      rw [spl_one nq]
      show _ = (match rdT q with | none => none | some t => _)
      rw [ht, e2]
      show (if cnt p = true then _ else none) = (if cnt p = true then _ else none)
      by_cases hc : cnt p = true
      · rw [if_pos hc, if_pos hc]
        by_cases hz : neg? l = true ∧ val p * 86400000 + t = 0
        · rw [if_pos hz, if_pos ⟨hz.1, by omega⟩]
        · rw [if_neg hz, if_neg fun z => hz ⟨z.1, by omega⟩]
          unfold sgn
          by_cases hn : neg? l = true
          · rw [if_pos hn, if_pos hn]
            exact congrArg some (by omega)
          · rw [if_neg hn, if_neg hn]
            exact congrArg some (by omega)
      · rw [if_neg hc, if_neg hc]
theorem mom_same (l : List Nat) : momR l = lawM l := by
  unfold momR lawM
  split
  · rename_i a b c e
    try rw [e]
    try dsimp only
    by_cases ha : a = [100, 97, 121]
    · rw [if_pos ha]
      cases ht : rdT c with
      | none =>
        show (if _ then (none : Option Int) else none) = none
        split <;> rfl
      | some t =>
        show (if a = [100, 97, 121] ∧ wrt b = true then some (ival b * 86400000 + (t : Int)) else none) = _
        dsimp only
        unfold wrt ival sgn
        by_cases hn : neg? b = true
        · have eb : b = 45 :: b.drop 1 := by
            cases b with
            | nil => exact absurd hn (by decide)
            | cons x r =>
              have : x = 45 := Option.some.inj (of_decide_eq_true hn)
              rw [this]
              rfl
          have ebd : body b = b.drop 1 := by unfold body; rw [if_pos hn]
          rw [if_pos hn, if_pos hn, ebd]
          by_cases hc : cnt (b.drop 1) = true
          · by_cases h0 : b.drop 1 = [48]
            · have : decide (b = [45, 48]) = true := decide_eq_true (by rw [eb, h0])
              rw [hc, this, if_neg (by simp), if_pos rfl, if_pos ⟨hn, h0⟩]
            · have : decide (b = [45, 48]) = false := decide_eq_false fun z => h0 (by rw [z]; rfl)
              rw [hc, this, if_pos ⟨ha, rfl⟩, if_pos rfl, if_neg fun z => h0 z.2, if_pos hn]
              exact congrArg some (by omega)
          · rw [if_neg fun z => hc (Bool.and_eq_true_iff.mp z.2).1, if_neg hc]
        · have ebd : body b = b := by unfold body; rw [if_neg hn]
          rw [if_neg hn, if_neg hn, ebd]
          by_cases hc : cnt b = true
          · rw [if_pos ⟨ha, hc⟩, if_pos hc, if_neg fun z => hn z.1, if_neg hn]
            exact congrArg some (by omega)
          · rw [if_neg fun z => hc z.2, if_neg hc]
    · rw [if_neg fun z => ha z.1, if_neg ha]
  · rename_i e
    first
      | rfl
      | (split
         · rename_i a b c e2
           exact absurd e2 (e a b c)
         · rfl)
end Rg
namespace Rg
open PySem PySem.Spec PyProof.Rows L2 SX
section
variable {P : Program} {w : World} {K : PySem.W.Frag} {mg : Str → Option Value} {base : Heap} {cS cM cT : Addr}
def R_is_number : Ct := fun as r => ∃ l : List Nat, as = [.sh (.str (S l))] ∧ l.length ≤ 10000 ∧ r = .ret (.bl (cnt l)) []
theorem cnt_iff (l : List Nat) : cnt l = (dgs l && ((decide (0 < (l.length : Int)) && decide ((l.length : Int) ≤ 30)) && (decide ((l.length : Int) = 1) || !decide (l.head? = some 48)))) := by
  unfold cnt isCount
  rw [hasDigits_eq, S_len, show ("0" : Str) = S [48] from rfl, dec_S]
  show (!decide (l = []) && dgs l && (decide ((l.length : Int) ≤ 30) && (decide (l = [48]) || !decide (l.head? = some 48)))) = _
  match l with
  | [] => rfl
  | [c] =>
    by_cases h : c = 48
    · subst h
      decide
    · have e1 : decide ([c] = [48]) = false := decide_eq_false fun e => h (List.cons.inj e).1
      have e2 : decide ([c].head? = some 48) = false := decide_eq_false fun e => h (Option.some.inj e)
      have e3 : decide ([c] = ([] : List Nat)) = false := rfl
      rw [e1, e2, e3]
      cases dgs [c] <;> rfl
  | c :: d :: r =>
    have e1 : decide (c :: d :: r = [48]) = false := decide_eq_false fun e => by cases (List.cons.inj e).2
    have e3 : decide (c :: d :: r = ([] : List Nat)) = false := rfl
    have e4 : decide ((((c :: d :: r).length : Nat) : Int) = 1) = false := decide_eq_false (by simp only [List.length_cons]; omega)
    have e5 : decide (0 < (((c :: d :: r).length : Nat) : Int)) = true := decide_eq_true (by simp only [List.length_cons]; omega)
    rw [e1, e3, e4, e5, Bool.true_and, Bool.false_or]
    rfl
theorem in10 {X : Cx} : True := trivial
theorem dig_lit {c : Nat} : decide (c ∈ ("0123456789" : Str).cps.toList) = isDig c := rfl
theorem sc_is_number : FnScope ["_law_text_here", "_law_char"] ["_law_text_here"] (defScope (topS 37)) := ⟨rfl, rfl, rfl, by decide +kernel, rfl, by decide +kernel, by decide +kernel⟩
theorem c_is_number (T : Tx K mg cS cM cT) : Cal P w K mg base false "_law_is_number" 1 R_is_number := by
  obtain ⟨f, fd, F, hm⟩ := T.d_is_number
  refine Cal.of (x := "_law_is_number") [0, 1] ["len"] ⟨fd, F⟩ hm sc_is_number (by decide +kernel) (fun as r h => by obtain ⟨l, rfl, hl, rfl⟩ := h; rfl) (fun _ _ _ _ _ _ us hl => match us, hl with | [_], _ => rfl) fun X B hsc hr hg as r h => ?_
  obtain ⟨l, rfl, hl, rfl⟩ := h
  have hz := lsz hl
  refine SB.cons (SD.for_ B (fun i ρ => (∃ x, ρ = [.sh (.str (S l)), x] ∧ Sl.nb ρ 1 = true) ∧ ∀ j c, j < i → l[j]? = some c → isDig c = true) (EI.str (.var B.toBd 0 rfl rfl rfl)) ⟨⟨_, rfl, rfl⟩, fun j c hj => by omega⟩ (fun i d ρ' hd hi => ?_) fun ρ' hi => ?_)
  · obtain ⟨⟨x, rfl, hx⟩, hall⟩ := hi
    unfold chars at hd
    rw [List.getElem?_map] at hd
    obtain ⟨c, hc, rfl⟩ := Option.map_eq_some_iff.mp hd
    refine SG.name B 1 rfl hx (SB.cons (SD.ite (.ofC (.ninC (.var B.toBd 1 rfl rfl rfl) .str rfl)) (fun h => ?_) fun h => ?_))
    · refine SB.cons (SD.ret .bl ?_)
      have hd0 : isDig c = false := by
        unfold isDig
        simpa using h
      have : dgs l = false := by
        unfold dgs
        rw [List.all_eq_false]
        exact ⟨c, List.mem_of_getElem? hc, by rw [hd0]; exact Bool.false_ne_true⟩
      show Res.ret _ _ = Res.ret _ _
      rw [cnt_iff, this]
      rfl
    · refine SB.nil (SB.nil ⟨⟨_, rfl, rfl⟩, fun j c' hj hc' => ?_⟩)
      by_cases e : j = i
      · subst e
        have e2 : some c' = some c := hc'.symm.trans hc
        cases e2
        unfold isDig
        simpa using h
      · exact hall j c' (by omega) hc'
  · obtain ⟨⟨x, rfl, hx⟩, hall⟩ := hi
    have hd : dgs l = true := by
      unfold dgs
      rw [List.all_eq_true]
      intro c hc
      obtain ⟨j, hj, e⟩ := List.mem_iff_getElem.mp hc
      refine hall j c ?_ (by rw [List.getElem?_eq_getElem hj, e])
      unfold chars
      rw [List.length_map]
      exact hj
    have hat : ∀ h : (decide (0 < (l.length : Int)) && decide ((l.length : Int) ≤ 30)) = true, ∃ n, atI (S l).cps.toList 0 = some n ∧ l.head? = some n := fun h => by
      cases l with
      | nil => exact absurd h (by decide)
      | cons c r => exact ⟨c, by unfold atI ixN; simp, rfl⟩
    refine SB.cons (SD.ret (.is (.andB (l := decide ((l.length : Int) = 1) || !decide (l.head? = some 48)) (.is (.ltle .int (.is (.lenS B.toBd 0 rfl T.len (.var B.toBd 0 rfl rfl rfl) hz) (congrArg D.int (congrArg Int.ofNat (S_len l)))) .int) rfl) fun h => .bo1 (.orB (.is (.ofC (.eqI (.is (.lenS B.toBd 0 rfl T.len (.var B.toBd 0 rfl rfl rfl) hz) (congrArg D.int (congrArg Int.ofNat (S_len l)))) .int)) rfl) fun _ => .bo1 ?_)) (congrArg D.bl ?_)) rfl)
    · obtain ⟨n, h1, h2⟩ := hat h
      refine .is (.ofC (.neS (.ixS (.var B.toBd 0 rfl rfl rfl) .int hz h1) .str)) (congrArg D.bl ?_)
      rw [h2, show ("0" : Str) = S [48] from rfl, dec1]
      by_cases q : n = 48
      · subst q
        rfl
      · rw [decide_eq_false q, decide_eq_false fun z => q (Option.some.inj z)]
    · rw [cnt_iff, hd]
      rfl
def optI : Option Nat → D
  | some n => .int n
  | none => .int (-1)
def R_time : Ct := fun as r => ∃ l : List Nat, as = [.sh (.str (S l))] ∧ l.length ≤ 10000 ∧ (∀ c ∈ l, c < 128) ∧ r = .ret (optI (rdT l)) []
theorem eqv3 (a b c : Nat) : PyData.eqv (.list [.str ⟨#[a]⟩, .str ⟨#[b]⟩, .str ⟨#[c]⟩]) (.list [.str (":" : Str), .str (":" : Str), .str ("." : Str)]) = (decide (a = 58) && (decide (b = 58) && decide (c = 46))) := by
  have e : ∀ (x y : Nat), ((⟨#[x]⟩ : Str) == S [y]) = decide (x = y) := fun x y => by
    rw [show (⟨#[x]⟩ : Str) = S [x] from rfl, S_beq_eq]
    by_cases h : x = y
    · subst h
      rw [decide_eq_true rfl, decide_eq_true rfl]
    · rw [decide_eq_false h, decide_eq_false fun q => h (List.cons.inj q).1]
  rw [show (":" : Str) = S [58] from rfl, show ("." : Str) = S [46] from rfl]
  simp only [PyData.eqv, PyData.eqvAll, e, Bool.and_true]
theorem str1 : ∀ c : Nat, c < 128 → PyData.canLay0 (.str ⟨#[c]⟩) = true := by decide +kernel
theorem shp3 {a b c : Nat} (ha : a < 128) (hb : b < 128) (hc : c < 128) : SeqAt.shaped (.list [.str ⟨#[a]⟩, .str ⟨#[b]⟩, .str ⟨#[c]⟩]) = true := by
  unfold SeqAt.shaped
  rw [Bool.and_eq_true]
  refine ⟨?_, rfl⟩
  simp only [PyData.canLay0, PyData.canLayAll0, Bool.and_true]
  have e1 := str1 a ha
  have e2 := str1 b hb
  have e3 := str1 c hc
  simp only [PyData.canLay0] at e1 e2 e3
  rw [e1, e2, e3]
  rfl
theorem sc_time : FnScope ["_law_text_here", "_law_char", "_law_parts"] ["_law_text_here"] (defScope (topS 38)) := ⟨rfl, rfl, rfl, by decide +kernel, rfl, by decide +kernel, by decide +kernel⟩
theorem c_time (T : Tx K mg cS cM cT) : Cal P w K mg base false "_law_time" 1 R_time := by
  obtain ⟨f, fd, F, hm⟩ := T.d_time
  refine Cal.of (x := "_law_time") [0, 1, 2] ["len", "int"] ⟨fd, F⟩ hm sc_time (by decide +kernel) (fun as r h => by obtain ⟨l, rfl, hl, hac, rfl⟩ := h; rfl) (fun _ _ _ _ _ _ us hl => match us, hl with | [_], _ => rfl) fun X B hsc hr hg as r h => ?_
  obtain ⟨l, rfl, hl, hac, rfl⟩ := h
  have hz := lsz hl
  by_cases h12 : l.length = 12
  · obtain ⟨a, b, c, d, e, f, g, h', i, j, k, m, rfl⟩ := len12 h12
    rw [rdT_12]
    refine SB.cons (SD.ite (EW.et (.or (k := false) (l := !(decide (c = 58) && (decide (f = 58) && decide (i = 46)))) (.is' (.ofC (.neI (.lenS B.toBd 0 rfl T.len (.var B.toBd 0 rfl rfl rfl) hz) .int)) rfl) fun _ => .one (.is' (.ofC (.neD B.toBd hr (EO.ed (.lst (.cons (.ixS (.var B.toBd 0 rfl rfl rfl) .int hz rfl) (.cons (.ixS (.var B.toBd 0 rfl rfl rfl) .int hz rfl) (.cons (.ixS (.var B.toBd 0 rfl rfl rfl) .int hz rfl) .nil))) (by show 3 ≤ sizeLine; decide))) (EO.ed (.lst (.cons .str (.cons .str (.cons .str .nil))) (by show 3 ≤ sizeLine; decide))) rfl rfl (shp3 (hac c (by simp)) (hac f (by simp)) (hac i (by simp))) (by decide +kernel))) (congrArg (!·) (eqv3 c f i))))) (fun h => ?_) fun h => SB.nil ?_)
    · refine SB.cons (SD.ret (.neg .int) ?_)
      have : tOk a b c d e f g h' i j k m = false := by
        unfold tOk
        simp only [Bool.false_or, Bool.not_eq_true'] at h
        cases h1 : decide (c = 58) with
        | false => rfl
        | true =>
          cases h2 : decide (f = 58) with
          | false => rfl
          | true =>
            cases h3 : decide (i = 46) with
            | false => rfl
            | true =>
              rw [h1, h2, h3] at h
              cases h
      rw [this]
      rfl
    simp only [Bool.false_or, Bool.not_eq_false', Bool.and_eq_true, decide_eq_true_eq] at h
    obtain ⟨o1, o2, o3⟩ := h
    have hcat : S [a, b] ++ S [d, e] ++ S [g, h'] ++ S [j, k, m] = S [a, b, d, e, g, h', j, k, m] := by
      rw [S_cat, S_cat, S_cat]
      rfl
    refine SB.cons (SD.for_ B (fun n ρ => (∃ x y, ρ = [.sh (.str (S [a, b, c, d, e, f, g, h', i, j, k, m])), x, y] ∧ Sl.nb ρ 1 = true ∧ Sl.nb ρ 2 = true) ∧ ∀ n' c', n' < n → [a, b, d, e, g, h', j, k, m][n']? = some c' → isDig c' = true) (ds := chars (S [a, b, d, e, g, h', j, k, m])) (.str (.is (.addS (.addS (.addS (.is (.slS (.var B.toBd 0 rfl rfl rfl) .none (.some .int) hz) (show D.str _ = .str (S [a, b]) from rfl)) (.is (.slS (.var B.toBd 0 rfl rfl rfl) (.some .int) (.some .int) hz) (show D.str _ = .str (S [d, e]) from rfl)) (by show 4 ≤ sizeLine; decide)) (.is (.slS (.var B.toBd 0 rfl rfl rfl) (.some .int) (.some .int) hz) (show D.str _ = .str (S [g, h']) from rfl)) (by rw [S_cat, S_len, S_len]; show 6 ≤ sizeLine; decide)) (.is (.slS (.var B.toBd 0 rfl rfl rfl) (.some .int) .none hz) (show D.str _ = .str (S [j, k, m]) from rfl)) (by rw [S_cat, S_cat, S_len, S_len]; show 9 ≤ sizeLine; decide)) (congrArg D.str hcat))) ⟨⟨_, _, rfl, rfl, rfl⟩, fun _ _ hj => by omega⟩ (fun n x ρ' hd hi => ?_) fun ρ' hi => ?_)
    · obtain ⟨⟨x1, x2, rfl, hx1, hx2⟩, hall⟩ := hi
      unfold chars at hd
      rw [List.getElem?_map] at hd
      obtain ⟨c', hc, rfl⟩ := Option.map_eq_some_iff.mp hd
      refine SG.name B 1 rfl hx1 (SB.cons (SD.ite (.ofC (.ninC (.var B.toBd 1 rfl rfl rfl) .str rfl)) (fun h => ?_) fun h => ?_))
      · refine SB.cons (SD.ret (.neg .int) ?_)
        have hd0 : isDig c' = false := by
          unfold isDig
          simpa using h
        have : tOk a b c d e f g h' i j k m = false := by
          have hdd : dgs [a, b, d, e, g, h', j, k, m] = false := by
            unfold dgs
            rw [List.all_eq_false]
            exact ⟨c', List.mem_of_getElem? hc, by rw [hd0]; exact Bool.false_ne_true⟩
          unfold tOk
          rw [hdd, Bool.false_and, Bool.and_false, Bool.and_false, Bool.and_false]
        rw [this]
        rfl
      · refine SB.nil (SB.nil ⟨⟨_, _, rfl, rfl, hx2⟩, fun n' c'' hj hc' => ?_⟩)
        by_cases e' : n' = n
        · subst e'
          have e2 : some c'' = some c' := hc'.symm.trans hc
          cases e2
          unfold isDig
          simpa using h
        · exact hall n' c'' (by omega) hc'
    · obtain ⟨⟨x1, x2, rfl, hx1, hx2⟩, hall⟩ := hi
      have hd9 : dgs [a, b, d, e, g, h', j, k, m] = true := by
        unfold dgs
        rw [List.all_eq_true]
        intro c' hc
        obtain ⟨n', hj, e'⟩ := List.mem_iff_getElem.mp hc
        exact hall n' c' hj (by rw [List.getElem?_eq_getElem hj, e'])
      have dg := dgs_iff.mp hd9
      have q1 : dgs [a, b] = true := dgs_iff.mpr fun x hx => dg x (by simp only [List.mem_cons, List.not_mem_nil, or_false] at hx ⊢; omega)
      have q2 : dgs [d, e] = true := dgs_iff.mpr fun x hx => dg x (by simp only [List.mem_cons, List.not_mem_nil, or_false] at hx ⊢; omega)
      have q3 : dgs [g, h'] = true := dgs_iff.mpr fun x hx => dg x (by simp only [List.mem_cons, List.not_mem_nil, or_false] at hx ⊢; omega)
      have q4 : dgs [j, k, m] = true := dgs_iff.mpr fun x hx => dg x (by simp only [List.mem_cons, List.not_mem_nil, or_false] at hx ⊢; omega)
      have w1 := v2_lt q1
      have w2 := v2_lt q2
      have w3 := v2_lt q3
      have w4 := v3_lt q4
      refine SB.cons (SD.asg B 2 rfl (EO.ed (ds := .lst [.int (v2 a b : Nat), .int (v2 d e : Nat), .int (v2 g h' : Nat), .int (v3 j k m : Nat)]) (.lst (.cons (.intS B.toBd 1 rfl T.int (.is (.slS (.var B.toBd 0 rfl rfl rfl) .none (.some .int) hz) (show D.str _ = .str (S [a, b]) from rfl)) (it_v2 q1) (by show 2 ≤ 640; decide)) (.cons (.intS B.toBd 1 rfl T.int (.is (.slS (.var B.toBd 0 rfl rfl rfl) (.some .int) (.some .int) hz) (show D.str _ = .str (S [d, e]) from rfl)) (it_v2 q2) (by show 2 ≤ 640; decide)) (.cons (.intS B.toBd 1 rfl T.int (.is (.slS (.var B.toBd 0 rfl rfl rfl) (.some .int) (.some .int) hz) (show D.str _ = .str (S [g, h']) from rfl)) (it_v2 q3) (by show 2 ≤ 640; decide)) (.cons (.intS B.toBd 1 rfl T.int (.is (.slS (.var B.toBd 0 rfl rfl rfl) (.some .int) .none hz) (show D.str _ = .str (S [j, k, m]) from rfl)) (it_v3 q4) (by show 3 ≤ 640; decide)) .nil)))) (by show 4 ≤ sizeLine; decide))) hx2 ?_)
      refine SB.cons (SD.ite (EW.et (.or (k := decide (23 < ((v2 a b : Nat) : Int))) (.ofC (.gt (.ixL (.var B.toBd 2 rfl rfl rfl) .int rfl) .int)) fun _ => .or (k := decide (59 < ((v2 d e : Nat) : Int))) (.ofC (.gt (.ixL (.var B.toBd 2 rfl rfl rfl) .int rfl) .int)) fun _ => .one (k := decide (59 < ((v2 g h' : Nat) : Int))) (.ofC (.gt (.ixL (.var B.toBd 2 rfl rfl rfl) .int rfl) .int)))) (fun h => ?_) fun h => SB.nil ?_)
      · refine SB.cons (SD.ret (.neg .int) ?_)
        have : tOk a b c d e f g h' i j k m = false := by
          unfold tOk
          simp only [Bool.or_eq_true, decide_eq_true_eq] at h
          rcases h with h | h | h
          · rw [decide_eq_false (show ¬ v2 a b ≤ 23 by omega)]
            simp
          · rw [decide_eq_false (show ¬ v2 d e ≤ 59 by omega)]
            simp
          · rw [decide_eq_false (show ¬ v2 g h' ≤ 59 by omega)]
            simp
        rw [this]
        rfl
      simp only [Bool.or_eq_false_iff, decide_eq_false_iff_not] at h
      have ok : tOk a b c d e f g h' i j k m = true := by
        unfold tOk
        rw [decide_eq_true o1, decide_eq_true o2, decide_eq_true o3, hd9, decide_eq_true (show v2 a b ≤ 23 by omega), decide_eq_true (show v2 d e ≤ 59 by omega), decide_eq_true (show v2 g h' ≤ 59 by omega)]
        rfl
      rw [ok, if_pos rfl]
      refine SB.cons (SD.ret (.is (.add (.mul (.add (.mul (.add (.mul (.ixL (d := .int (v2 a b : Nat)) (.var B.toBd 2 rfl rfl rfl) .int rfl) .int (mulS (by omega) (by decide))) (.ixL (d := .int (v2 d e : Nat)) (.var B.toBd 2 rfl rfl rfl) .int rfl)) .int (mulS (by omega) (by decide))) (.ixL (d := .int (v2 g h' : Nat)) (.var B.toBd 2 rfl rfl rfl) .int rfl)) .int (mulS (by omega) (by decide))) (.ixL (d := .int (v3 j k m : Nat)) (.var B.toBd 2 rfl rfl rfl) .int rfl)) (congrArg D.int ?_)) rfl)
      omega
  · rw [rdT_len h12]
    refine SB.cons (SD.ite (EW.et (.orT (.is' (.ofC (.neI (.lenS B.toBd 0 rfl T.len (.var B.toBd 0 rfl rfl rfl) hz) .int)) (by rw [S_len, decide_eq_false (by omega)]; rfl)))) (fun _ => SB.cons (SD.ret (.neg .int) rfl)) fun h => nomatch h)
end
end Rg
namespace Rg
open PySem PySem.Spec PyProof.Rows L2 SX
section
variable {P : Program} {w : World} {K : PySem.W.Frag} {mg : Str → Option Value} {base : Heap} {cS cM cT : Addr}
def asc (l : List Nat) : Prop := ∀ c ∈ l, c < 128
def badO : Ob := .lst [.str "bad", .int 0, .bl true]
def lawOb : Option Int → Ob
  | some z => .lst [.str "read", .int z]
  | none => badO
def R_span : Ct := fun as r => ∃ l : List Nat, as = [.sh (.str (S l))] ∧ l.length ≤ 1000 ∧ asc l ∧ r = .new (lawOb (lawS l)) []
theorem spl_sub {sp : List Nat} : ∀ {l acc : List Nat} {k : Nat}, ∀ p ∈ TL.spl sp k acc l, ∀ c ∈ p, c ∈ acc ∨ c ∈ l
  | [], acc, k, p, h, c, hc => by
    rw [TL.spl_nil] at h
    rw [List.mem_singleton.mp h] at hc
    exact .inl hc
  | d :: r, acc, 0, p, h, c, hc => by
    by_cases hh : TL.pre sp (d :: r) = true
    · rw [TL.spl_hit hh] at h
      rcases List.mem_cons.mp h with rfl | h
      · exact .inl hc
      · rcases spl_sub (l := r) (acc := []) p h c hc with z | z
        · cases z
        · exact .inr (List.mem_cons_of_mem _ z)
    · rw [TL.spl_miss (by simpa using hh)] at h
      rcases spl_sub (l := r) p h c hc with z | z
      · rcases List.mem_append.mp z with z | z
        · exact .inl z
        · rw [List.mem_singleton.mp z]
          exact .inr List.mem_cons_self
      · exact .inr (List.mem_cons_of_mem _ z)
  | d :: r, acc, k + 1, p, h, c, hc => by
    rcases spl_sub (l := r) (acc := acc) (k := k) p h c hc with z | z
    · exact .inl z
    · exact .inr (List.mem_cons_of_mem _ z)
theorem bi_is (b : Bool) : (if b = true then (1 : Int) else 0) = ((if b = true then 1 else 0 : Nat) : Int) := by cases b <;> rfl
theorem cut_b (l : List Nat) (b : Bool) : cutS (S l) (some (if b = true then (1 : Int) else 0)) none = S (if b = true then l.drop 1 else l) := by
  rw [bi_is]
  cases b with
  | true => exact cutFrom l 1
  | false => exact cutFrom l 0
theorem drop_len (l : List Nat) (b : Bool) : (if b = true then l.drop 1 else l).length ≤ l.length := by
  cases b with
  | true => show (l.drop 1).length ≤ _; rw [List.length_drop]; omega
  | false => exact Nat.le_refl _
theorem split_d (l : List Nat) : Txt.split (S l) "d " = (TL.spl [100, 32] 0 [] l).map S := split_S (a := l) (b := [100, 32]) (by decide) (by decide)
def fac (b : Bool) : Int := if b = true then -1 else 1
theorem sc_span : FnScope ["_law_text_here", "_law_is_below", "_law_words", "_law_days", "_law_rest"] ["_law_text_here"] (defScope (topS 39)) := ⟨rfl, rfl, rfl, by decide +kernel, rfl, by decide +kernel, by decide +kernel⟩
theorem c_span (T : Tx K mg cS cM cT) : Cal P w K mg base false "_law_span" 2 R_span := by
  obtain ⟨f, fd, F, hm⟩ := T.d_span
  refine Cal.of (x := "_law_span") [0, 1, 2, 3, 4] ["len", "int", "_law_time", "_law_is_number"] ⟨fd, F⟩ hm sc_span (by decide +kernel) (fun as r h => by obtain ⟨l, rfl, hl, ha, rfl⟩ := h; rfl) (fun _ _ _ _ _ _ us hl => match us, hl with | [_], _ => rfl) fun X B hsc hr hg as r h => ?_
  obtain ⟨l, rfl, hl, ha, rfl⟩ := h
  have hz := lsz (l := l) (by omega)
  have hz2 : (S l).length + 2 ≤ sizeLine := by rw [S_len]; exact Nat.le_trans (m := 1002) (by omega) (by decide)
  refine SB.cons (SD.asg B 1 rfl (.is (.ofC (.eqS (.slS (.var B.toBd 0 rfl rfl rfl) .none (.some .int) hz) .str)) (congrArg D.bl (neg_is l))) rfl ?_)
  refine SB.cons (SD.asg B 2 rfl (d := .lst (((TL.spl [100, 32] 0 [] l).map S).map .str)) (.is (EO.ed (.split (.var B.toBd 0 rfl rfl rfl) .str rfl hz2)) (by rw [← split_d]; rfl)) rfl ?_)
  have el : (((TL.spl [100, 32] 0 [] l).map S).map D.str).length = (TL.spl [100, 32] 0 [] l).length := by simp
  have lens := spl_len (sp := [100, 32]) (l := l) (acc := []) (k := 0)
  have subs := spl_sub (sp := [100, 32]) (l := l) (acc := []) (k := 0)
  simp only [List.length_nil, Nat.zero_add] at lens
  by_cases h2 : (TL.spl [100, 32] 0 [] l).length = 2
  · obtain ⟨a, b, e2⟩ : ∃ a b, TL.spl [100, 32] 0 [] l = [a, b] := by
      match TL.spl [100, 32] 0 [] l, h2 with
      | [a, b], _ => exact ⟨a, b, rfl⟩
    have em : lawS l = (match rdT b with
      | none => none
      | some t => if cnt (if neg? l = true then a.drop 1 else a) = true then (if neg? l = true ∧ val (if neg? l = true then a.drop 1 else a) + t = 0 then none else some ((((val (if neg? l = true then a.drop 1 else a) : Nat) : Int) * 86400000 + t) * (if neg? l = true then -1 else 1))) else none) := by
      unfold lawS
      rw [e2]
      try rfl
    rw [e2] at lens subs ⊢
    have la := lens a (by simp)
    have lb := lens b (by simp)
    have hab : asc b := fun c hc => by
      rcases subs b (by simp) c hc with z | z
      · cases z
      · exact ha c z
    have ld := drop_len a (neg? l)
    rw [em]
    clear em
    generalize hd : (if neg? l = true then a.drop 1 else a) = d at ld ⊢
    have hadz := lsz (l := a) (by omega)
    refine SB.cons (SD.ite (.is' (.ofC (.neI (.lenL (ds := [.str (S a), .str (S b)]) B.toBd 0 rfl T.len (.var B.toBd 2 rfl rfl rfl)) .int)) rfl) (fun h => nomatch h) fun _ => SB.nil ?_)
    refine SB.cons (SD.par2 B hsc 3 4 rfl rfl (by decide) rfl (by decide +kernel) (by decide +kernel) (.cons (.is (.slS (.ixL (d := .str (S a)) (.var B.toBd 2 rfl rfl rfl) .int rfl) (.some (.intB B.toBd 1 rfl T.int (.var B.toBd 1 rfl rfl rfl))) .none hadz) (show D.str _ = .str (S d) by rw [cut_b, hd])) (.cons (ED.call (c_time T) hg (hr.mono (by decide)) B.toBd 2 rfl (.cons (.ixL (d := .str (S b)) (.var B.toBd 2 rfl rfl rfl) .int rfl) .nil) ⟨b, rfl, by omega, hab, rfl⟩) .nil)) rfl rfl ?_ (by decide +kernel) (by decide +kernel) rfl rfl rfl rfl)
    have ldz := lsz (l := d) (by omega)
    cases ht : rdT b with
    | none =>
      refine SB.cons (SD.ite (EW.et (.or (l := true) (.not (.val (ED.call (c_is_number T) hg (hr.mono (by decide)) B.toBd 3 rfl (.cons (.var B.toBd 3 rfl rfl rfl) .nil) ⟨d, rfl, by omega, rfl⟩) (by intro _; rfl))) fun _ => .orT (.is' (.ofC (.lt (.is (.var B.toBd 4 rfl rfl rfl) (show optI none = D.int (-1) from rfl)) .int)) rfl))) (fun _ => SB.cons (SD.retO (.lst (.cons .str (.cons .int (.cons .bl .nil))) (by show 3 ≤ sizeLine; decide)) (.inl rfl))) fun h => ?_)
      rw [Bool.or_true] at h
      exact nomatch h
    | some t =>
      show SB X _ _ (deOf 1 (.new (lawOb (if cnt d = true then (if neg? l = true ∧ val d + t = 0 then none else some ((((val d : Nat) : Int) * 86400000 + t) * (if neg? l = true then -1 else 1))) else none)) []))
      by_cases hc : cnt d = true
      · rw [if_pos hc]
        have vl := val_cnt hc
        have pl := (cnt_dgs hc).2.2
        refine SB.cons (SD.ite (EW.et (.or (k := false) (.not (k := true) (.val (.is (ED.call (c_is_number T) hg (hr.mono (by decide)) B.toBd 3 rfl (.cons (.var B.toBd 3 rfl rfl rfl) .nil) ⟨d, rfl, by omega, rfl⟩) (congrArg D.bl hc)) (by intro _; rfl))) fun _ => .or (k := false) (.is' (.ofC (.lt (.is (.var B.toBd 4 rfl rfl rfl) (show optI (some t) = D.int (t : Int) from rfl)) .int)) (decide_eq_false (by omega))) fun _ => .one (EW.et (.and (.val (.var B.toBd 1 rfl rfl rfl) (by intro _; rfl)) fun _ => .one (.ofC (.eqI (.add (.intS B.toBd 1 rfl T.int (.var B.toBd 3 rfl rfl rfl) (it_cnt hc) (by rw [S_len]; omega)) (.is (.var B.toBd 4 rfl rfl rfl) (show optI (some t) = D.int (t : Int) from rfl))) .int)))))) (fun h => ?_) fun h => SB.nil ?_)
        · simp only [Bool.false_or, Bool.and_eq_true, decide_eq_true_eq] at h
          rw [if_pos ⟨h.1, by omega⟩]
          exact SB.cons (SD.retO (.lst (.cons .str (.cons .int (.cons .bl .nil))) (by show 3 ≤ sizeLine; decide)) (.inl rfl))
        · rw [if_neg fun z => by
            rw [z.1] at h
            simp only [Bool.false_or, Bool.true_and, decide_eq_false_iff_not] at h
            omega]
          refine SB.cons (SD.retO (.is (.lst (.cons .str (.cons (.mul (.add (.mul (.intS B.toBd 1 rfl T.int (.var B.toBd 3 rfl rfl rfl) (it_cnt hc) (by rw [S_len]; omega)) .int (mulS (by rw [Int.natAbs_natCast]; exact Nat.lt_trans vl (by decide)) (by decide))) (.is (.var B.toBd 4 rfl rfl rfl) (show optI (some t) = D.int (t : Int) from rfl))) (.ifx (d := .int (fac (neg? l))) (k := neg? l) (.val (.var B.toBd 1 rfl rfl rfl) (by intro _; rfl)) (fun h => .is (.neg .int) (by unfold fac; rw [if_pos h])) fun h => .is .int (by unfold fac; rw [if_neg (by rw [h]; exact Bool.false_ne_true)])) (mulS (Nat.lt_of_le_of_lt (by have := (rdT_sg ht).2; omega : ((((val d : Nat) : Int) * 86400000 + t)).natAbs ≤ 10 ^ 40) (by decide)) (by unfold fac; split <;> decide))) .nil)) (by show 2 ≤ sizeLine; decide)) rfl) (.inl rfl))
      · rw [if_neg hc]
        have hc : cnt d = false := by simpa using hc
        exact SB.cons (SD.ite (EW.et (.orT (.not (k := false) (.val (.is (ED.call (c_is_number T) hg (hr.mono (by decide)) B.toBd 3 rfl (.cons (.var B.toBd 3 rfl rfl rfl) .nil) ⟨d, rfl, by omega, rfl⟩) (congrArg D.bl hc)) (by intro _; rfl))))) (fun _ => SB.cons (SD.retO (.lst (.cons .str (.cons .int (.cons .bl .nil))) (by show 3 ≤ sizeLine; decide)) (.inl rfl))) fun h => nomatch h)
  · have em : lawS l = none := by
      unfold lawS
      split
      · rename_i e3
        rw [e3] at h2
        exact absurd rfl h2
      · rfl
    rw [em]
    exact SB.cons (SD.ite (.is' (l := true) (.ofC (.neI (.lenL B.toBd 0 rfl T.len (.var B.toBd 2 rfl rfl rfl)) .int)) (by rw [el, decide_eq_false (by omega)]; rfl)) (fun _ => SB.cons (SD.retO (.lst (.cons .str (.cons .int (.cons .bl .nil))) (by show 3 ≤ sizeLine; decide)) (.inl rfl))) fun h => nomatch h)

def R_moment : Ct := fun as r => ∃ l : List Nat, as = [.sh (.str (S l))] ∧ l.length ≤ 1000 ∧ asc l ∧ r = .new (lawOb (lawM l)) []
theorem sc_moment : FnScope ["_law_text_here", "_law_words", "_law_is_below", "_law_days", "_law_rest"] ["_law_text_here"] (defScope (topS 40)) := ⟨rfl, rfl, rfl, by decide +kernel, rfl, by decide +kernel, by decide +kernel⟩
theorem c_moment (T : Tx K mg cS cM cT) : Cal P w K mg base false "_law_moment" 2 R_moment := by
  obtain ⟨f, fd, F, hm⟩ := T.d_moment
  refine Cal.of (x := "_law_moment") [0, 1, 2, 3, 4] ["len", "int", "_law_time", "_law_is_number"] ⟨fd, F⟩ hm sc_moment (by decide +kernel) (fun as r h => by obtain ⟨l, rfl, hl, ha, rfl⟩ := h; rfl) (fun _ _ _ _ _ _ us hl => match us, hl with | [_], _ => rfl) fun X B hsc hr hg as r h => ?_
  obtain ⟨l, rfl, hl, ha, rfl⟩ := h
  have hz2 : (S l).length + 2 ≤ sizeLine := by rw [S_len]; exact Nat.le_trans (m := 1002) (by omega) (by decide)
  refine SB.cons (SD.asg B 1 rfl (d := .lst (((TL.spl [32] 0 [] l).map S).map .str)) (.is (EO.ed (.split (.var B.toBd 0 rfl rfl rfl) .str rfl hz2)) (by rw [← split_sp]; rfl)) rfl ?_)
  have el : (((TL.spl [32] 0 [] l).map S).map D.str).length = (TL.spl [32] 0 [] l).length := by simp
  have lens := spl_len (sp := [32]) (l := l) (acc := []) (k := 0)
  have subs := spl_sub (sp := [32]) (l := l) (acc := []) (k := 0)
  simp only [List.length_nil, Nat.zero_add] at lens
  by_cases h3 : (TL.spl [32] 0 [] l).length = 3
  · obtain ⟨a, b, c, e3⟩ : ∃ a b c, TL.spl [32] 0 [] l = [a, b, c] := by
      match TL.spl [32] 0 [] l, h3 with
      | [a, b, c], _ => exact ⟨a, b, c, rfl⟩
    have em : lawM l = (if a = [100, 97, 121] then (match rdT c with
      | none => none
      | some t => if cnt (body b) = true then (if neg? b = true ∧ body b = [48] then none else some (((val (body b) : Nat) : Int) * (if neg? b = true then -1 else 1) * 86400000 + t)) else none) else none) := by
      unfold lawM
      rw [e3]
      try rfl
    rw [e3] at lens subs ⊢
    have la := lens a (by simp)
    have lb := lens b (by simp)
    have lc := lens c (by simp)
    have hac : asc c := fun x hx => by
      rcases subs c (by simp) x hx with z | z
      · cases z
      · exact ha x z
    have ld := body_len b
    rw [em]
    clear em
    have hbz := lsz (l := b) (by omega)
    by_cases hday : a = [100, 97, 121]
    · rw [if_pos hday]
      refine SB.cons (SD.ite (EW.et (.or (k := false) (.is' (.ofC (.neI (.lenL (ds := [.str (S a), .str (S b), .str (S c)]) B.toBd 0 rfl T.len (.var B.toBd 1 rfl rfl rfl)) .int)) rfl) fun _ => .one (.is' (l := false) (.ofC (.neS (.ixL (d := .str (S a)) (.var B.toBd 1 rfl rfl rfl) .int rfl) .str)) (by rw [show ("day" : Str) = S [100, 97, 121] from rfl, dec_S, decide_eq_true hday]; rfl)))) (fun h => nomatch h) fun _ => SB.nil ?_)
      refine SB.cons (SD.asg B 2 rfl (.is (.ofC (.eqS (.slS (.ixL (d := .str (S b)) (.var B.toBd 1 rfl rfl rfl) .int rfl) .none (.some .int) hbz) .str)) (congrArg D.bl (neg_is b))) rfl ?_)
      have hbd : (if neg? b = true then b.drop 1 else b) = body b := rfl
      refine SB.cons (SD.par2 B hsc 3 4 rfl rfl (by decide) rfl (by decide +kernel) (by decide +kernel) (.cons (.is (.slS (.ixL (d := .str (S b)) (.var B.toBd 1 rfl rfl rfl) .int rfl) (.some (.intB B.toBd 1 rfl T.int (.var B.toBd 2 rfl rfl rfl))) .none hbz) (show D.str _ = .str (S (body b)) by rw [cut_b, hbd])) (.cons (ED.call (c_time T) hg (hr.mono (by decide)) B.toBd 2 rfl (.cons (.ixL (d := .str (S c)) (.var B.toBd 1 rfl rfl rfl) .int rfl) .nil) ⟨c, rfl, by omega, hac, rfl⟩) .nil)) rfl rfl ?_ (by decide +kernel) (by decide +kernel) rfl rfl rfl rfl)
      have ldz := lsz (l := body b) (by omega)
      generalize body b = d at ld ldz ⊢
      cases ht : rdT c with
      | none =>
        refine SB.cons (SD.ite (EW.et (.or (l := true) (.not (.val (ED.call (c_is_number T) hg (hr.mono (by decide)) B.toBd 3 rfl (.cons (.var B.toBd 3 rfl rfl rfl) .nil) ⟨d, rfl, by omega, rfl⟩) (by intro _; rfl))) fun _ => .orT (.is' (.ofC (.lt (.is (.var B.toBd 4 rfl rfl rfl) (show optI none = D.int (-1) from rfl)) .int)) rfl))) (fun _ => SB.cons (SD.retO (.lst (.cons .str (.cons .int (.cons .bl .nil))) (by show 3 ≤ sizeLine; decide)) (.inl rfl))) fun h => ?_)
        rw [Bool.or_true] at h
        exact nomatch h
      | some t =>
        show SB X _ _ (deOf 1 (.new (lawOb (if cnt d = true then (if neg? b = true ∧ d = [48] then none else some (((val d : Nat) : Int) * (if neg? b = true then -1 else 1) * 86400000 + t)) else none)) []))
        by_cases hc : cnt d = true
        · rw [if_pos hc]
          have vl := val_cnt hc
          have pl := (cnt_dgs hc).2.2
          refine SB.cons (SD.ite (EW.et (.or (k := false) (.not (k := true) (.val (.is (ED.call (c_is_number T) hg (hr.mono (by decide)) B.toBd 3 rfl (.cons (.var B.toBd 3 rfl rfl rfl) .nil) ⟨d, rfl, by omega, rfl⟩) (congrArg D.bl hc)) (by intro _; rfl))) fun _ => .or (k := false) (.is' (.ofC (.lt (.is (.var B.toBd 4 rfl rfl rfl) (show optI (some t) = D.int (t : Int) from rfl)) .int)) (decide_eq_false (by omega))) fun _ => .one (EW.et (.and (.val (.var B.toBd 2 rfl rfl rfl) (by intro _; rfl)) fun _ => .one (.is' (l := decide (d = [48])) (.ofC (.eqS (.var B.toBd 3 rfl rfl rfl) .str)) (by rw [show ("0" : Str) = S [48] from rfl, dec_S])))))) (fun h => ?_) fun h => SB.nil ?_)
          · simp only [Bool.false_or, Bool.and_eq_true, decide_eq_true_eq] at h
            rw [if_pos h]
            exact SB.cons (SD.retO (.lst (.cons .str (.cons .int (.cons .bl .nil))) (by show 3 ≤ sizeLine; decide)) (.inl rfl))
          · rw [if_neg fun z => by
              rw [z.1, decide_eq_true z.2] at h
              exact nomatch h]
            refine SB.cons (SD.retO (.is (.lst (.cons .str (.cons (.add (.mul (.mul (.intS B.toBd 1 rfl T.int (.var B.toBd 3 rfl rfl rfl) (it_cnt hc) (by rw [S_len]; omega)) (.ifx (d := .int (fac (neg? b))) (k := neg? b) (.val (.var B.toBd 2 rfl rfl rfl) (by intro _; rfl)) (fun h => .is (.neg .int) (by unfold fac; rw [if_pos h])) fun h => .is .int (by unfold fac; rw [if_neg (by rw [h]; exact Bool.false_ne_true)])) (mulS (by rw [Int.natAbs_natCast]; exact Nat.lt_trans vl (by decide)) (by unfold fac; split <;> decide))) .int (mulS (Nat.lt_of_le_of_lt (by unfold fac; split <;> omega : (((val d : Nat) : Int) * fac (neg? b)).natAbs ≤ 10 ^ 40) (by decide)) (by decide))) (.is (.var B.toBd 4 rfl rfl rfl) (show optI (some t) = D.int (t : Int) from rfl))) .nil)) (by show 2 ≤ sizeLine; decide)) rfl) (.inl rfl))
        · rw [if_neg hc]
          have hc : cnt d = false := by simpa using hc
          exact SB.cons (SD.ite (EW.et (.orT (.not (k := false) (.val (.is (ED.call (c_is_number T) hg (hr.mono (by decide)) B.toBd 3 rfl (.cons (.var B.toBd 3 rfl rfl rfl) .nil) ⟨d, rfl, by omega, rfl⟩) (congrArg D.bl hc)) (by intro _; rfl))))) (fun _ => SB.cons (SD.retO (.lst (.cons .str (.cons .int (.cons .bl .nil))) (by show 3 ≤ sizeLine; decide)) (.inl rfl))) fun h => nomatch h)
    · rw [if_neg hday]
      exact SB.cons (SD.ite (EW.et (.or (k := false) (l := true) (.is' (.ofC (.neI (.lenL (ds := [.str (S a), .str (S b), .str (S c)]) B.toBd 0 rfl T.len (.var B.toBd 1 rfl rfl rfl)) .int)) rfl) fun _ => .one (.is' (l := true) (.ofC (.neS (.ixL (d := .str (S a)) (.var B.toBd 1 rfl rfl rfl) .int rfl) .str)) (by rw [show ("day" : Str) = S [100, 97, 121] from rfl, dec_S, decide_eq_false hday]; rfl)))) (fun _ => SB.cons (SD.retO (.lst (.cons .str (.cons .int (.cons .bl .nil))) (by show 3 ≤ sizeLine; decide)) (.inl rfl))) fun h => nomatch h)
  · have em : lawM l = none := by
      unfold lawM
      split
      · rename_i e4
        rw [e4] at h3
        exact absurd rfl h3
      · rfl
    rw [em]
    exact SB.cons (SD.ite (EW.et (.orT (.is' (l := true) (.ofC (.neI (.lenL B.toBd 0 rfl T.len (.var B.toBd 1 rfl rfl rfl)) .int)) (by rw [el, decide_eq_false (by omega)]; rfl)))) (fun _ => SB.cons (SD.retO (.lst (.cons .str (.cons .int (.cons .bl .nil))) (by show 3 ≤ sizeLine; decide)) (.inl rfl))) fun h => nomatch h)
end
end Rg
namespace Rg
open PySem PySem.Spec PyProof.Rows L2 SX
section
variable {P : Program} {w : World} {K : PySem.W.Frag} {mg : Str → Option Value} {base : Heap} {cS cM cT : Addr}
theorem SD.nxt {X : Cx} {ρ : Rho} {P : DE} {st : Stmt} {N : Rho → Prop} (h : SD X st ρ { P with nx := N }) (h1 : ∀ ρ, N ρ → P.nx ρ) : SD X st ρ P := fun C σ H0 H E W S F => h C σ H0 H E W S ⟨fun ρ σ a b x s q => F.nx ρ σ a b x s (h1 ρ q), F.bk, F.ct, F.rt, F.ro, F.tk, F.ex⟩
/-! ### the program asked -/
def plc (i : Int) : List (Str × D) := [("place", .int i)]
theorem plc_at (i : Int) : (plc i).lookup ("place" : Str) = some (D.int i) := lk1 _ _
def badI (i : Int) : Ob := .lst [.str "bad", .int i, .bl true]
def R_read (K : PySem.W.Frag) : Ct := fun as r => ∃ d : D, as = [.sh d] ∧ ((∃ l, d = .str (S l) ∧ l.length ≤ 1000 ∧ r = .new (.lst [(lawOb (spanR l)).d, (lawOb (momR l)).d]) []) ∨ (NoS K d ∧ r = .new (.lst [(badI (-1)).d, (badI (-1)).d]) []))
theorem sc_read : FnScope ["_law_text_here", "_law_found", "e"] ["_law_text_here"] (defScope (topS 41)) := ⟨rfl, rfl, rfl, by decide +kernel, rfl, by decide +kernel, by decide +kernel⟩
theorem c_read (T : Tx K mg cS cM cT) : Cal P w K mg base false "_law_read" 5 (R_read K) := by
  obtain ⟨f, fd, F, hm⟩ := T.d_read
  refine Cal.of (x := "_law_read") [0, 1, 2] ["read_span", "read_moment", "BadText", "isinstance", "ValueError"] ⟨fd, F⟩ hm sc_read (by decide +kernel) (fun as r h => by obtain ⟨d, rfl, hq⟩ := h; rfl) (fun _ _ _ _ _ _ us hl => match us, hl with | [_], _ => rfl) fun X B hsc hr hg as r h => ?_
  obtain ⟨d, rfl, hq⟩ := h
  obtain ⟨_, _, _, hmT, _⟩ := T.m_BadText
  have nm : Names X "BadText" (.ref cT) := ⟨B.g 2 rfl, by decide, .inl (B.m hmT)⟩
  refine SB.cons (SD.asgO B 1 rfl (.lst .nil (by show 0 ≤ sizeLine; decide)) rfl ?_)
  suffices two : ∀ (o1 o2 : Res) (x1 x2 : D), ((∃ z, o1 = .ret (spn cS z) [] ∧ x1 = .lst [.str "read", .int z]) ∨ (∃ i, o1 = badT cT i ∧ x1 = (badI i).d)) → ((∃ z, o2 = .ret (mom cM z) [] ∧ x2 = .lst [.str "read", .int z]) ∨ (∃ i, o2 = badT cT i ∧ x2 = (badI i).d)) → R_read_span K cS cT [.sh d] o1 → R_read_moment K cM cT [.sh d] o2 →
      SB X ((defBody (topS 41)).drop 1) [.sh d, .ol (.lst []), .emp] (deOf 1 (.new (.lst [x1, x2]) [])) by
    rcases hq with ⟨l, rfl, hl, rfl⟩ | ⟨ns, rfl⟩
    · refine two (resS cS cT (spanR l)) (resM cM cT (momR l)) _ _ ?_ ?_ ⟨_, rfl, .inl ⟨l, rfl, hl, rfl⟩⟩ ⟨_, rfl, .inl ⟨l, rfl, hl, rfl⟩⟩
      · cases spanR l with
        | none => exact .inr ⟨0, rfl, rfl⟩
        | some z => exact .inl ⟨z, rfl, rfl⟩
      · cases momR l with
        | none => exact .inr ⟨0, rfl, rfl⟩
        | some z => exact .inl ⟨z, rfl, rfl⟩
    · exact two (badT cT (-1)) (badT cT (-1)) _ _ (.inr ⟨-1, rfl, rfl⟩) (.inr ⟨-1, rfl, rfl⟩) ⟨_, rfl, .inr ⟨ns, rfl⟩⟩ ⟨_, rfl, .inr ⟨ns, rfl⟩⟩
  intro o1 o2 x1 x2 k1 k2 r1 r2
  refine SB.cons (SD.nxt (N := fun ρ => ρ = [.sh d, .ol (.lst [x1]), .emp]) (SD.tryAs B hsc 2 rfl (by decide +kernel) nm (fun C fs ρ' => ∃ i, x1 = (badI i).d ∧ C = cT ∧ fs = plc i ∧ ρ' = [.sh d, .ol (.lst []), .emp]) (fun X' hX' B' => ?_) (fun C fs ρ' hp => ?_)) (fun ρ e => ?_))
  · have hA : X'.A = X.A := by
      obtain ⟨pn, xe, rfl⟩ := hX'
      rfl
    have hr' : Room 4 X'.A := by rw [hA]; exact hr
    have no : false = true → X'.A.guards = some [] := fun h => nomatch h
    rcases k1 with ⟨z, rfl, rfl⟩ | ⟨i, rfl, rfl⟩
    · exact SB.cons (SD.app B'.toBd 1 rfl rfl (EO.ed (.lst (.cons .str (.cons (.fld B'.toBd (ED.call (c_read_span T) no hr' B'.toBd 0 rfl (.cons (.var B'.toBd 0 rfl rfl rfl) .nil) r1) T.clsS T.noS (lk1 _ _)) .nil)) (by show 2 ≤ sizeLine; decide))) rfl rfl (.inl ⟨rfl, rfl⟩) (by show 0 < sizeLine; decide) (SB.nil rfl))
    · refine SB.cons (SD.appX B'.toBd 1 rfl rfl (RD.lst (.next .str (.here (.fld (RD.call (c_read_span T) no hr' B'.toBd 0 rfl (.cons (.var B'.toBd 0 rfl rfl rfl) .nil) r1))))) rfl (.inl rfl) ?_)
      exact ⟨i, rfl, rfl, rfl, rfl⟩
  · obtain ⟨i, rfl, rfl, rfl, rfl⟩ := hp
    refine ⟨true, T.eT, fun _ => ⟨rfl, fun a dd oe pn hz hv => ?_⟩, fun h => nomatch h⟩
    refine SB.cons (SD.app B.toBd.suite 1 rfl rfl (EO.ed (.lst (.cons .str (.cons (.xf B.toBd T.xT hz hv (.var B.toBd.suite 2 rfl rfl rfl) (plc_at i)) (.cons (.isX B.toBd T.iT hz hv 3 rfl T.isinstance (.var B.toBd.suite 2 rfl rfl rfl) (.glT (t := "ValueError") B.toBd.suite 4 rfl T.ValueError (by decide +kernel)) rfl T.vT) .nil))) (by show 3 ≤ sizeLine; decide))) rfl rfl (.inl ⟨rfl, rfl⟩) (by show 0 < sizeLine; decide) (SB.nil ?_))
    exact ⟨rfl, rfl⟩
  subst e
  refine SB.cons (SD.nxt (N := fun ρ => ρ = [.sh d, .ol (.lst [x1, x2]), .emp]) (SD.tryAs B hsc 2 rfl (by decide +kernel) nm (fun C fs ρ' => ∃ i, x2 = (badI i).d ∧ C = cT ∧ fs = plc i ∧ ρ' = [.sh d, .ol (.lst [x1]), .emp]) (fun X' hX' B' => ?_) (fun C fs ρ' hp => ?_)) (fun ρ e => ?_))
  · have hA : X'.A = X.A := by
      obtain ⟨pn, xe, rfl⟩ := hX'
      rfl
    have hr' : Room 4 X'.A := by rw [hA]; exact hr
    have no : false = true → X'.A.guards = some [] := fun h => nomatch h
    rcases k2 with ⟨z, rfl, rfl⟩ | ⟨i, rfl, rfl⟩
    · exact SB.cons (SD.app B'.toBd 1 rfl rfl (EO.ed (.lst (.cons .str (.cons (.fld B'.toBd (ED.call (c_read_moment T) no hr' B'.toBd 1 rfl (.cons (.var B'.toBd 0 rfl rfl rfl) .nil) r2) T.clsM T.noM (lk1 _ _)) .nil)) (by show 2 ≤ sizeLine; decide))) rfl rfl (.inl ⟨rfl, rfl⟩) (by show 1 < sizeLine; decide) (SB.nil rfl))
    · refine SB.cons (SD.appX B'.toBd 1 rfl rfl (RD.lst (.next .str (.here (.fld (RD.call (c_read_moment T) no hr' B'.toBd 1 rfl (.cons (.var B'.toBd 0 rfl rfl rfl) .nil) r2))))) rfl (.inl rfl) ?_)
      exact ⟨i, rfl, rfl, rfl, rfl⟩
  · obtain ⟨i, rfl, rfl, rfl, rfl⟩ := hp
    refine ⟨true, T.eT, fun _ => ⟨rfl, fun a dd oe pn hz hv => ?_⟩, fun h => nomatch h⟩
    refine SB.cons (SD.app B.toBd.suite 1 rfl rfl (EO.ed (.lst (.cons .str (.cons (.xf B.toBd T.xT hz hv (.var B.toBd.suite 2 rfl rfl rfl) (plc_at i)) (.cons (.isX B.toBd T.iT hz hv 3 rfl T.isinstance (.var B.toBd.suite 2 rfl rfl rfl) (.glT (t := "ValueError") B.toBd.suite 4 rfl T.ValueError (by decide +kernel)) rfl T.vT) .nil))) (by show 3 ≤ sizeLine; decide))) rfl rfl (.inl ⟨rfl, rfl⟩) (by show 1 < sizeLine; decide) (SB.nil ?_))
    exact ⟨rfl, rfl⟩
  subst e
  exact SB.cons (SD.retO (EO.slot B.toBd 1 rfl rfl rfl) (.inl rfl))
end
end Rg
namespace Rg
open PySem PySem.Spec PyProof.Rows L2 SX
/-! ### the law's own numbers -/
def mixAt (ns : List Int) (m0 : Int) : Nat → Int
  | 0 => m0
  | i + 1 => (mixAt ns m0 i * 40014 + ns.getD i 0 % 2147483587 + 103 * (i : Int)) % 2147483563
theorem mixAt_ok {ns : List Int} {m0 : Int} (h : 0 ≤ m0 ∧ m0 < 2 ^ 40) : ∀ i, 0 ≤ mixAt ns m0 i ∧ mixAt ns m0 i < 2 ^ 40
  | 0 => h
  | i + 1 => by
    have a := Int.emod_nonneg (mixAt ns m0 i * 40014 + ns.getD i 0 % 2147483587 + 103 * (i : Int)) (show (2147483563 : Int) ≠ 0 by decide)
    have b := Int.emod_lt_of_pos (mixAt ns m0 i * 40014 + ns.getD i 0 % 2147483587 + 103 * (i : Int)) (show (0 : Int) < 2147483563 by decide)
    refine ⟨a, Int.lt_trans b (by decide)⟩
def absI (z : Int) : Int := if z < 0 then -z else z
def cellOf (ns : List Int) (at_ : Nat) : Int := if 10 ^ 18 ≤ absI (ns.getD at_ 0) then absI (ns.getD at_ 0) else 0
def mixOf (ns : List Int) (at_ : Nat) : Int := mixAt (ns.take 63) (599 * at_ + 103) (ns.take 63).length
def nextM (m : Int) : Int := (m * 45742 + 157) % 2147483579
def takeV (c m n : Int) : Int := if 0 < c then c % n else nextM m / 8 * 48271 % 2147483629 / 16 % n
def takeC (c m n : Int) : Int := if 0 < c then c / n else c
def takeM (c m n : Int) : Int := if 0 < c then m else nextM m
def bag (c m : Int) : Ob := .lst [.int c, .int m]
def mOk (m : Int) : Prop := 0 ≤ m ∧ m < 2 ^ 40
theorem nextM_ok (m : Int) : mOk (nextM m) := ⟨Int.emod_nonneg _ (by decide), Int.lt_trans (Int.emod_lt_of_pos _ (by decide)) (by decide)⟩
theorem takeM_ok {c m n : Int} (h : mOk m) : mOk (takeM c m n) := by
  unfold takeM
  split
  · exact h
  · exact nextM_ok m
theorem takeV_ok {c m n : Int} (h : 0 < n) : 0 ≤ takeV c m n ∧ takeV c m n < n := by
  unfold takeV
  split
  · exact ⟨Int.emod_nonneg _ (by omega), Int.emod_lt_of_pos _ h⟩
  · exact ⟨Int.emod_nonneg _ (by omega), Int.emod_lt_of_pos _ h⟩
theorem abs_lt {i : Int} {k : Nat} (h : 0 ≤ i) (h2 : i < 2 ^ k) : i.natAbs < 2 ^ k := by
  have e : ((i.natAbs : Nat) : Int) = i := by omega
  have e2 : ((2 ^ k : Nat) : Int) = (2 : Int) ^ k := by simp
  have : ((i.natAbs : Nat) : Int) < ((2 ^ k : Nat) : Int) := by rw [e, e2]; exact h2
  exact Int.ofNat_lt.mp this
theorem mOk.sm {m : Int} (h : mOk m) : m.natAbs < 2 ^ 250 := Nat.lt_of_lt_of_le (abs_lt h.1 h.2) (by decide)
section
variable {P : Program} {w : World} {K : PySem.W.Frag} {mg : Str → Option Value} {base : Heap} {cS cM cT : Addr}
def R_bag : Ct := fun as r => ∃ (ns : List Int) (a : Nat), as = [.sh (.lst (ns.map .int)), .sh (.int a)] ∧ a < 64 ∧ r = .new (bag (cellOf ns a) (mixOf ns a)) []
theorem atI_ints {ns : List Int} {a : Nat} (h : a < ns.length) : atI (ns.map D.int) (a : Int) = some (.int (ns.getD a 0)) := by
  unfold atI ixN
  rw [List.length_map, if_pos (by omega), if_pos (by omega)]
  simp [h]
theorem cut63 (ns : List Int) : cutD (ns.map D.int) none (some 63) = (ns.take 63).map D.int := by
  unfold cutD
  rw [show HT.sIx (ns.map D.int).length 0 none = 0 from rfl, List.drop_zero, Nat.sub_zero, List.map_take]
  have : HT.sIx (ns.map D.int).length (ns.map D.int).length (some 63) = min 63 (ns.map D.int).length := by
    unfold HT.sIx
    simp
  rw [this]
  by_cases h : 63 ≤ (ns.map D.int).length
  · rw [Nat.min_eq_left h]
  · rw [Nat.min_eq_right (by omega), List.take_of_length_le (Nat.le_refl _), List.take_of_length_le (by omega)]
theorem getD_ints {xs : List Int} {i : Nat} (h : i < xs.length) : (xs.map D.int).getD i .non = .int (xs.getD i 0) := by
  rw [List.getD_eq_getElem?_getD, List.getElem?_map, List.getD_eq_getElem?_getD, List.getElem?_eq_getElem h]
  rfl
theorem sc_bag : FnScope ["_law_script", "_law_at", "_law_cell", "_law_mixed", "_law_k", "_law_each"] ["_law_script", "_law_at"] (defScope (topS 32)) := ⟨rfl, rfl, rfl, by decide +kernel, rfl, by decide +kernel, by decide +kernel⟩
theorem c_bag (T : Tx K mg cS cM cT) : Cal P w K mg base false "_law_bag" 1 R_bag := by
  obtain ⟨f, fd, F, hm⟩ := T.d_bag
  refine Cal.of (x := "_law_bag") [0, 1, 2, 3, 4, 5] ["enumerate", "len", "int", "abs"] ⟨fd, F⟩ hm sc_bag (by decide +kernel) (fun as r h => by obtain ⟨ns, a, rfl, ha, rfl⟩ := h; rfl) (fun _ _ _ _ _ _ us hl => match us, hl with | [_, _], _ => rfl) fun X B hsc hr hg as r h => ?_
  obtain ⟨ns, a, rfl, ha, rfl⟩ := h
  refine SB.cons (SD.asg B 2 rfl (d := .int (ns.getD a 0)) (.ifx (k := decide ((a : Int) < ((ns.map D.int).length : Nat))) (.ofC (.lt (.var B.toBd 1 rfl rfl rfl) (.lenL B.toBd 1 rfl T.len (.var B.toBd 0 rfl rfl rfl)))) (fun h => .ixL (.var B.toBd 0 rfl rfl rfl) (.var B.toBd 1 rfl rfl rfl) (atI_ints (by have := of_decide_eq_true h; rw [List.length_map] at this; omega))) fun h => .is .int (congrArg D.int ?_)) rfl ?_)
  · have := of_decide_eq_false h
    rw [List.length_map] at this
    rw [List.getD_eq_getElem?_getD, List.getElem?_eq_none (by omega)]
    rfl
  refine SB.cons (SD.asg B 3 rfl (.add (.mul .int (.var B.toBd 1 rfl rfl rfl) (mulS (by decide) (by omega))) .int) rfl ?_)
  have m0 : 0 ≤ (599 * (a : Int) + 103) ∧ (599 * (a : Int) + 103) < 2 ^ 40 := by omega
  refine SB.cons (SD.for_ B (fun i ρ => ∃ x y, ρ = [.sh (.lst (ns.map .int)), .sh (.int a), .sh (.int (ns.getD a 0)), .sh (.int (mixAt (ns.take 63) (599 * (a : Int) + 103) i)), x, y] ∧ Sl.nb ρ 4 = true ∧ Sl.nb ρ 5 = true) (ds := numbered ((ns.take 63).map D.int)) (.enumL B.toBd 0 rfl T.enumerate (.is (EO.ed (.slL (.var B.toBd 0 rfl rfl rfl) .none (.some .int))) (congrArg D.lst (cut63 ns)))) ⟨_, _, rfl, rfl, rfl⟩ (fun i d ρ' hd hi => ?_) fun ρ' hi => ?_)
  · obtain ⟨x, y, rfl, h4, h5⟩ := hi
    have hil : i < (ns.take 63).length := by
      have := (List.getElem?_eq_some_iff.mp hd).1
      unfold numbered at this
      simpa using this
    have ed : d = .tup [.int (i : Nat), .int ((ns.take 63).getD i 0)] := by
      unfold numbered at hd
      rw [List.getElem?_map, List.getElem?_range (by simpa using hil)] at hd
      have := (Option.some.inj hd).symm
      rw [this]
      show D.tup [.int (i : Nat), ((ns.take 63).map D.int).getD i .non] = _
      rw [getD_ints hil]
    subst ed
    have mo := mixAt_ok (ns := ns.take 63) m0 i
    refine SG.two B 4 5 rfl rfl h4 h5 (SB.cons (SD.asg B 3 rfl (.is (.mod (.intI B.toBd 2 rfl T.int (.add (.add (.mul (.var B.toBd 3 rfl rfl rfl) .int (mulS (mOk.sm mo) (by decide))) (.mod (.intI B.toBd 2 rfl T.int (.var B.toBd 5 rfl rfl rfl)) .int (by decide))) (.mul .int (.var B.toBd 4 rfl rfl rfl) (mulS (by decide) (by have : i < 63 := Nat.lt_of_lt_of_le hil (by simp; omega); omega))))) .int (by decide)) rfl) rfl ?_))
    exact SB.nil ⟨_, _, rfl, rfl, rfl⟩
  · obtain ⟨x, y, rfl, h4, h5⟩ := hi
    have el : (numbered ((ns.take 63).map D.int)).length = (ns.take 63).length := by unfold numbered; simp
    rw [el]
    refine SB.cons (SD.retO (.lst (.cons (.is (.ifx (d := .int (cellOf ns a)) (k := decide ((10 : Int) ^ 18 ≤ absI (ns.getD a 0))) (.is' (.ofC (.ge (.absI B.toBd 3 rfl T.abs (.var B.toBd 2 rfl rfl rfl)) (.pow .int .int ⟨by decide, by decide, by decide⟩))) rfl) (fun h => .is (.absI B.toBd 3 rfl T.abs (.var B.toBd 2 rfl rfl rfl)) (congrArg D.int ?_)) fun h => .is .int (congrArg D.int ?_)) rfl) (.cons (.var B.toBd 3 rfl rfl rfl) .nil)) (by show 2 ≤ sizeLine; decide)) (.inl rfl))
    · unfold cellOf
      rw [if_pos (of_decide_eq_true h)]
      rfl
    · unfold cellOf
      rw [if_neg (of_decide_eq_false h)]
def R_take : Ct := fun as r => ∃ c m n : Int, as = [.ob (bag c m), .sh (.int n)] ∧ mOk m ∧ 0 < n ∧ n ≤ 10 ^ 9 ∧ r = .ret (.int (takeV c m n)) [bag (takeC c m n) (takeM c m n)]
theorem sc_take : FnScope ["_law_bag_here", "_law_many", "_law_digit"] ["_law_bag_here", "_law_many"] (defScope (topS 33)) := ⟨rfl, rfl, rfl, by decide +kernel, rfl, by decide +kernel, by decide +kernel⟩
theorem c_take (T : Tx K mg cS cM cT) : Cal P w K mg base false "_law_take" 1 R_take := by
  obtain ⟨f, fd, F, hm⟩ := T.d_take
  refine Cal.of (x := "_law_take") [0, 1, 2] ["int"] ⟨fd, F⟩ hm sc_take (by decide +kernel) (fun as r h => by obtain ⟨c, m, n, rfl, hm', hn, hn2, rfl⟩ := h; rfl) (fun _ _ _ _ _ _ us hl => match us, hl with | [_, _], _ => rfl) fun X B hsc hr hg as r h => ?_
  obtain ⟨c, m, n, rfl, hm', hn, hn2, rfl⟩ := h
  refine SB.cons (SD.ite (.ofC (.gt (.ixO B.toBd 0 rfl rfl rfl (.inr rfl) .int rfl) .int)) (fun h => ?_) fun h => ?_)
  · have h := of_decide_eq_true h
    refine SB.cons (SD.asg B 2 rfl (.mod (.intI B.toBd 0 rfl T.int (.ixO B.toBd 0 rfl rfl rfl (.inr rfl) .int rfl)) (.var B.toBd 1 rfl rfl rfl) hn) rfl ?_)
    refine SB.cons (SD.setI B 0 rfl rfl (.fdiv (.ixO B.toBd 0 rfl rfl rfl (.inr rfl) .int rfl) (.var B.toBd 1 rfl rfl rfl) (divS hn (by omega))) rfl (.inr ⟨rfl, rfl⟩) .int (m := 0) rfl ?_)
    refine SB.cons (SD.ret (.var B.toBd 2 rfl rfl rfl) ?_)
    show Res.ret _ _ = Res.ret _ _
    unfold takeV takeC takeM
    rw [if_pos h, if_pos h, if_pos h]
    rfl
  · have h := of_decide_eq_false h
    have b0 := nextM_ok m
    refine SB.nil (SB.cons (SD.setI (d := .int (nextM m)) B 0 rfl rfl (.mod (.intI B.toBd 0 rfl T.int (.add (.mul (.ixO B.toBd 0 rfl rfl rfl (.inr rfl) .int rfl) .int (mulS hm'.sm (by decide))) .int)) .int (by decide)) rfl (.inr ⟨rfl, rfl⟩) .int (m := 1) rfl ?_))
    refine SB.cons (SD.ret (.mod (.fdiv (.mod (.intI B.toBd 0 rfl T.int (.mul (.fdiv (.ixO (d := .int (nextM m)) B.toBd 0 rfl rfl rfl (.inr rfl) .int rfl) .int (divS (by decide) (by decide))) .int (mulS (by have := b0.1; have := b0.2; omega) (by decide)))) .int (by decide)) .int (divS (by decide) (by decide))) (.var B.toBd 1 rfl rfl rfl) hn) ?_)
    show Res.ret _ _ = Res.ret _ _
    unfold takeV takeC takeM
    rw [if_neg h, if_neg h, if_neg h]
    rfl
structure B2 where
  c : Int
  m : Int
def B2.ob (b : B2) : Ob := bag b.c b.m
def B2.nx (b : B2) (n : Int) : B2 := ⟨takeC b.c b.m n, takeM b.c b.m n⟩
def B2.v (b : B2) (n : Int) : Int := takeV b.c b.m n
structure B2.ok (b : B2) : Prop where
  m : mOk b.m
theorem B2.ok.nx {b : B2} {n : Int} (h : b.ok) : (b.nx n).ok := ⟨takeM_ok (n := n) h.m⟩
theorem B2.v_ok {b : B2} {n : Int} (h : 0 < n) : 0 ≤ b.v n ∧ b.v n < n := takeV_ok h
theorem rt {b : B2} {n : Int} (h : b.ok) (h1 : 0 < n) (h2 : n ≤ 10 ^ 9) : R_take [.ob b.ob, .sh (.int n)] (.ret (.int (b.v n)) [(b.nx n).ob]) := ⟨b.c, b.m, n, rfl, h.m, h1, h2, rfl⟩
theorem bag_ok (ns : List Int) (a : Nat) (h : a < 64) : (⟨cellOf ns a, mixOf ns a⟩ : B2).ok := ⟨mixAt_ok (by omega) _⟩
end
end Rg
namespace Rg
open PySem PySem.Spec PyProof.Rows L2 SX
section
variable {P0 : Program} {w : World} {K : PySem.W.Frag} {mg : Str → Option Value} {base : Heap} {X : Cx} {ρ ρ1 ρ2 : Rho} {d : D} {ds : List D} {es : List Expr} {pos np : Pos} {N : List Str} {is : List Nat} {gs : List Str} {n : Str} {R : Ct} {k : Nat} {g : Bool}
/-- f(l, e, ..): the other arguments may change l -/
theorem ED.callB2 (i : Nat) {y : Str} {yp : Pos} {s00 s0 s1 : Sl} {bs es' : Ob} (F : Cal P0 w K mg base g n k R) (hgd : g = true → X.A.guards = some []) (hr : Room k X.A) (B : Bd P0 w K mg base X N is gs) (m : Nat) (hg : gs[m]? = some n) (hN : N[i]? = some y) (hi : is.contains i = true) (h00 : ρ[i]? = some s00) (hown : s00.own = true) (ha : EA X es ρ ds ρ1) (h0 : ρ1[i]? = some s0) (hsl : (s0 = .ol bs ∧ s1 = .ol es') ∨ (s0 = .ob bs ∧ s1 = .ob es'))
    (hR : R (.ob bs :: ds.map .sh) (.ret d [es']))
    (hs : starEach (.Name y yp :: es) X.env = (false, eval (.Name y yp) X.env) :: starEach es X.env := by rfl) (hpl : (backTo pos (starEach es X.env)).any (·.1) = false := by rfl) :
    ED X (.Call (.Name n np) (.Name y yp :: es) [] pos) ρ d (ρ1.set i s1) := fun C σ H0 H S Q q => by
  obtain ⟨rfl⟩ := B.hP
  obtain ⟨rfl⟩ := B.hw
  obtain ⟨rfl⟩ := B.hK
  obtain ⟨rfl⟩ := B.hm
  obtain ⟨rfl⟩ := B.hb
  obtain ⟨f, fd, ps, F, hm, hk, hb⟩ := F.ex
  obtain ⟨p, e1⟩ : ∃ p, σ[i]? = some (some (.ref p)) := by
    have z := S.sl i s00 h00
    cases s00 with
    | emp => cases hown
    | sh d => cases hown
    | ol b => obtain ⟨p, o, z1, _⟩ := z; exact ⟨p, z1⟩
    | ob b => obtain ⟨p, o, z1, _⟩ := z; exact ⟨p, z1⟩
  refine ⟨_, pe_callG F hgd hr (B.gl m n hg).1 hm hk hb passL (pa_cons (B.pe hN hi) pa_w hs) (B.gl m n hg).2.1 hs hpl, .ref p, e1, ha C σ H0 H S _ fun vs H1 H1' x1 S1 r1 => ?_⟩
  obtain ⟨p', vs1, e1', e2', e3', e4'⟩ : ∃ p vs, σ[i]? = some (some (.ref p)) ∧ H1' p = some vs ∧ H1 p = none ∧ RpO X.K H1 vs bs := by
    have z := S1.sl i s0 h0
    rcases hsl with ⟨rfl, rfl⟩ | ⟨rfl, rfl⟩
    · obtain ⟨p, vs, a1, a2, a3, a4, _⟩ := z
      exact ⟨p, vs, a1, a2, a3, a4⟩
    · obtain ⟨p, vs, a1, a2, a3, a4, _⟩ := z
      exact ⟨p, vs, a1, a2, a3, a4⟩
  rw [e1] at e1'
  cases e1'
  obtain ⟨a1, a2⟩ := arl_sh (H := H1') r1
  have eb : bsOf 0 (.ref p :: vs) (.ob bs :: ds.map .sh) = [(0, p)] := by
    show (0, p) :: bsOf 1 vs (ds.map .sh) = _
    rw [a2]
  refine ⟨H1, .ob bs :: ds.map .sh, _, S1.ex, .ob e2' e3' e4' a1, by rw [eb]; simp, hR, fun v H2 H2' b rv => ?_⟩
  rw [eb] at b
  exact q v H2 H2' (x1.trans b.e0) (S1.back1 h0 (by rcases hsl with ⟨rfl, rfl⟩ | ⟨rfl, rfl⟩ <;> simp) e1 b) rv
end
section
variable {P : Program} {w : World} {K : PySem.W.Frag} {mg : Str → Option Value} {base : Heap} {cS cM cT : Addr}
def bagN (b : B2) : Nat → B2
  | 0 => b
  | i + 1 => (bagN b i).nx 10
theorem bagN_ok {b : B2} (h : b.ok) : ∀ i, (bagN b i).ok
  | 0 => h
  | i + 1 => (bagN_ok h i).nx
def dig (b : B2) (j : Nat) : Nat := 48 + ((bagN b j).v 10).toNat
def digL (b : B2) (n : Nat) : List Nat := (List.range n).map (dig b)
theorem dig_lt {b : B2} {j : Nat} : 48 ≤ dig b j ∧ dig b j ≤ 57 := by
  have := (bagN b j).v_ok (n := 10) (by decide)
  unfold dig
  omega
theorem digL_asc (b : B2) (n : Nat) : asc (digL b n) := fun c hc => by
  unfold digL at hc
  obtain ⟨j, _, rfl⟩ := List.mem_map.mp hc
  have := dig_lt (b := b) (j := j)
  omega
theorem digL_len (b : B2) (n : Nat) : (digL b n).length = n := by unfold digL; simp
theorem ten_at : ∀ n : Nat, n < 10 → atI ("0123456789" : Str).cps.toList (n : Int) = some (48 + n) := by decide
theorem joinL_one : ∀ l : List Nat, TL.joinL [] (l.map fun c => [c]) = l
  | [] => rfl
  | [c] => rfl
  | c :: d :: r => by
    have z := joinL_one (d :: r)
    show [c] ++ ([] ++ TL.joinL [] ((d :: r).map fun c => [c])) = _
    rw [z]
    rfl
theorem join_dig (b : B2) (n : Nat) : Txt.join "" ((List.range n).map fun j => S [dig b j]) = S (digL b n) := by
  have e : ((List.range n).map fun j => S [dig b j]) = ((digL b n).map fun c => [c]).map S := by
    unfold digL
    rw [List.map_map, List.map_map]
    rfl
  rw [e]
  exact (join_S [] _).trans (congrArg S (joinL_one _))
theorem ones : ∀ l : List Nat, (l.map fun _ => 1).sum = l.length
  | [] => rfl
  | c :: r => by
    rw [List.map_cons, List.sum_cons, ones r, List.length_cons]
    omega
def R_digits : Ct := fun as r => ∃ (b : B2) (n : Nat), as = [.ob b.ob, .sh (.int n)] ∧ b.ok ∧ n ≤ 100 ∧ r = .ret (.str (S (digL b n))) [(bagN b n).ob]
theorem sc_digits : FnScope ["_law_bag_here", "_law_many", "_law_k"] ["_law_bag_here", "_law_many"] (defScope (topS 34)) := ⟨rfl, rfl, rfl, by decide +kernel, rfl, by decide +kernel, by decide +kernel⟩
theorem c_digits (T : Tx K mg cS cM cT) : Cal P w K mg base false "_law_digits" 2 R_digits := by
  obtain ⟨f, fd, F, hm⟩ := T.d_digits
  refine Cal.of (x := "_law_digits") [0, 1] ["range"] ⟨fd, F⟩ hm sc_digits (by decide +kernel) (fun as r h => by obtain ⟨b, n, rfl, hb, hn, rfl⟩ := h; rfl) (fun _ _ _ _ _ _ us hl => match us, hl with | [_, _], _ => rfl) fun X B hsc hr hg as r h => ?_
  obtain ⟨b, n, rfl, hb, hn, rfl⟩ := h
  have hlen : (rngD 0 ((n : Nat) : Int).toNat).length = n := by unfold rngD; simp
  refine SB.cons (SD.ret (.is (.join .str (ys := (List.range n).map fun j => S [dig b j]) (EO.ed (ds := .lst (((List.range n).map fun j => S [dig b j]).map .str)) (.lc B.toBd B.calm hsc [("_law_k", 2)] (ρz := [.ob (bagN b n).ob, .sh (.int n), .emp]) (by decide +kernel) (.rng1 B.toBd 0 rfl T.range (.var B.toBd 1 rfl rfl rfl) (by omega)) rfl ⟨fun i => [.ob (bagN b i).ob, .sh (.int n), .emp], fun i d => [.ob (bagN b i).ob, .sh (.int n), .sh d], fun i d => [.ob (bagN b i).ob, .sh (.int n), .sh d], fun i d => [.ob (bagN b (i + 1)).ob, .sh (.int n), .sh d], fun _ _ => true, fun i _ => .str (S [dig b i]), fun i => ((List.range i).map fun j => S [dig b j]).map .str, rfl, rfl, by rw [hlen], by rw [hlen]; rfl, fun _ => rfl, fun i d hd => ?_⟩)) ?_) (congrArg D.str (join_dig b n))) rfl)
  · have hi : i < n := by
      have := (List.getElem?_eq_some_iff.mp hd).1
      rwa [hlen] at this
    refine ⟨by simp only [List.length_map, List.length_range]; exact Nat.lt_of_lt_of_le (Nat.lt_of_lt_of_le hi hn) (by decide), fun X' hX => ?_, fun X' hX => .nil, fun _ => ⟨fun X' hX => ?_, rfl, rfl, ?_⟩, fun h => nomatch h⟩
    · exact SGw.name (bl_of (is' := [0, 2]) (js := [2]) (gs' := ["_law_take"]) B.toBd B.calm hX (by decide +kernel)) 2 rfl rfl rfl
    · have B' : Bl P w K mg base X' _ [0, 2] ["_law_take"] [2] := bl_of (is' := [0, 2]) (js := [2]) (gs' := ["_law_take"]) B.toBd B.calm hX (by decide +kernel)
      have hr' : Room 1 X'.A := by rw [hX.A]; exact hr
      have v := (bagN b i).v_ok (n := 10) (by decide)
      have at10 : atI ("0123456789" : Str).cps.toList ((bagN b i).v 10) = some (dig b i) := by
        have z := ten_at ((bagN b i).v 10).toNat (by omega)
        rwa [show ((((bagN b i).v 10).toNat : Nat) : Int) = (bagN b i).v 10 by omega] at z
      exact .ixS .str (ED.callB 0 (c_take T) (fun z => nomatch z) hr' B'.toBd 0 rfl rfl rfl rfl (.inr ⟨rfl, rfl⟩) (.cons .int .nil) (rt (bagN_ok hb i) (by decide) (by decide))) (by decide) at10
    · show List.map D.str (List.map (fun j => S [dig b j]) (List.range (i + 1))) = List.map D.str (List.map (fun j => S [dig b j]) (List.range i)) ++ [D.str (S [dig b i])]
      rw [List.range_succ]
      simp
  · simp only [List.map_map, List.length_map, List.length_range]
    have : ((List.range n).map ((fun x : Str => x.length) ∘ fun j => S [dig b j])).sum = n := by
      have e : ((fun x : Str => x.length) ∘ fun j => S [dig b j]) = fun _ => 1 := rfl
      rw [e, ones, List.length_range]
    rw [this]
    show n + n * 0 ≤ _
    omega
theorem atI_strs {ls : List (List Nat)} {v : Int} (h : 0 ≤ v ∧ v < ls.length) : atI (ls.map fun l => D.str (S l)) v = some (.str (S (ls.getD v.toNat []))) := by
  have hv : v.toNat < ls.length := by omega
  unfold atI ixN
  rw [List.length_map, if_pos h.1, if_pos h.2]
  simp [hv]
def dayLs (dg : List Nat) : List (List Nat) := [[48], [55], [49, 50], [45, 51], [45, 48], [48, 48, 55], [], dg]
def hourLs (dg : List Nat) : List (List Nat) := [[48, 48], [48, 57], [50, 51], [50, 52], [55], dg]
def restLs : List (List Nat) := [[48, 48, 58, 48, 48, 46, 48, 48, 48], [53, 57, 58, 53, 57, 46, 57, 57, 57], [54, 48, 58, 48, 48, 46, 48, 48, 48], [48, 48, 58, 54, 48, 46, 48, 48, 48], [48, 53, 58, 48, 55, 46, 49, 50], [48, 53, 58, 48, 55, 46, 49, 50, 51, 52]]
/-- a text and the bag behind it -/
structure TB where
  l : List Nat
  b : B2
structure TB.ok (t : TB) (n : Nat) : Prop where
  b : t.b.ok
  a : asc t.l
  n : t.l.length ≤ n
def dayT (b : B2) : TB := ⟨(dayLs (digL (b.nx 4) (29 + b.v 4).toNat)).getD ((bagN (b.nx 4) (29 + b.v 4).toNat).v 8).toNat [], (bagN (b.nx 4) (29 + b.v 4).toNat).nx 8⟩
def hourT (b : B2) : TB := ⟨(hourLs (digL b 2)).getD ((bagN b 2).v 6).toNat [], (bagN b 2).nx 6⟩
def restT (b : B2) : TB := if (b.nx 6).v 2 = 0 then ⟨digL ((b.nx 6).nx 2) 2 ++ ([58] ++ (digL (bagN ((b.nx 6).nx 2) 2) 2 ++ ([46] ++ digL (bagN (bagN ((b.nx 6).nx 2) 2) 2) 3))), bagN (bagN (bagN ((b.nx 6).nx 2) 2) 2) 3⟩ else ⟨restLs.getD (b.v 6).toNat [], (b.nx 6).nx 2⟩
def wholeLs (d t : List Nat) : List (List Nat) := [d ++ ([100, 32] ++ t), [45] ++ (d ++ ([100, 32] ++ t)), [100, 97, 121, 32] ++ (d ++ ([32] ++ t))]
def textT (b : B2) : TB := ⟨(wholeLs (dayT b).l ((hourT (dayT b).b).l ++ ([58] ++ (restT (hourT (dayT b).b).b).l))).getD ((restT (hourT (dayT b).b).b).b.v 3).toNat [], (restT (hourT (dayT b).b).b).b.nx 3⟩
theorem getD_all {ls : List (List Nat)} {p : List Nat → Prop} (h : ∀ l ∈ ls, p l) (h0 : p []) (n : Nat) : p (ls.getD n []) := by
  rw [List.getD_eq_getElem?_getD]
  cases e : ls[n]? with
  | none => exact h0
  | some l => exact h l (List.mem_of_getElem? e)
theorem asc_app {a b : List Nat} (h : asc a) (h2 : asc b) : asc (a ++ b) := fun c hc => by
  rcases List.mem_append.mp hc with z | z
  · exact h c z
  · exact h2 c z
theorem asc_lit {l : List Nat} (h : (l.all fun c => decide (c < 128)) = true) : asc l := fun c hc => of_decide_eq_true (List.all_eq_true.mp h c hc)
theorem dayT_ok {b : B2} (h : b.ok) : (dayT b).ok 32 := by
  have v := b.v_ok (n := 4) (by decide)
  refine ⟨(bagN_ok h.nx _).nx, ?_, ?_⟩
  · refine getD_all (p := asc) (fun l hl => ?_) (fun _ h => by cases h) _
    unfold dayLs at hl
    simp only [List.mem_cons, List.not_mem_nil, or_false] at hl
    rcases hl with rfl | rfl | rfl | rfl | rfl | rfl | rfl | rfl
    all_goals first | exact asc_lit (by decide) | exact digL_asc _ _
  · refine getD_all (p := fun l => l.length ≤ 32) (fun l hl => ?_) (Nat.zero_le _) _
    unfold dayLs at hl
    simp only [List.mem_cons, List.not_mem_nil, or_false] at hl
    rcases hl with rfl | rfl | rfl | rfl | rfl | rfl | rfl | rfl
    all_goals first | decide | (rw [digL_len]; omega)
theorem hourT_ok {b : B2} (h : b.ok) : (hourT b).ok 2 := by
  refine ⟨(bagN_ok h _).nx, ?_, ?_⟩
  · refine getD_all (p := asc) (fun l hl => ?_) (fun _ h => by cases h) _
    unfold hourLs at hl
    simp only [List.mem_cons, List.not_mem_nil, or_false] at hl
    rcases hl with rfl | rfl | rfl | rfl | rfl | rfl
    all_goals first | exact asc_lit (by decide) | exact digL_asc _ _
  · refine getD_all (p := fun l => l.length ≤ 2) (fun l hl => ?_) (Nat.zero_le _) _
    unfold hourLs at hl
    simp only [List.mem_cons, List.not_mem_nil, or_false] at hl
    rcases hl with rfl | rfl | rfl | rfl | rfl | rfl
    all_goals first | decide | (rw [digL_len]; omega)
theorem restT_ok {b : B2} (h : b.ok) : (restT b).ok 10 := by
  unfold restT
  split
  · refine ⟨bagN_ok (bagN_ok (bagN_ok h.nx.nx _) _) _, asc_app (digL_asc _ _) (asc_app (asc_lit (by decide)) (asc_app (digL_asc _ _) (asc_app (asc_lit (by decide)) (digL_asc _ _)))), ?_⟩
    simp only [List.length_append, digL_len]
    decide
  · refine ⟨h.nx.nx, ?_, ?_⟩
    · refine getD_all (p := asc) (fun l hl => ?_) (fun _ h => by cases h) _
      unfold restLs at hl
      simp only [List.mem_cons, List.not_mem_nil, or_false] at hl
      rcases hl with rfl | rfl | rfl | rfl | rfl | rfl
      all_goals exact asc_lit (by decide)
    · refine getD_all (p := fun l => l.length ≤ 10) (fun l hl => ?_) (Nat.zero_le _) _
      unfold restLs at hl
      simp only [List.mem_cons, List.not_mem_nil, or_false] at hl
      rcases hl with rfl | rfl | rfl | rfl | rfl | rfl
      all_goals decide
theorem textT_ok {b : B2} (h : b.ok) : (textT b).ok 60 := by
  have d := dayT_ok h
  have hh := hourT_ok d.b
  have r := restT_ok hh.b
  have ta : asc ((hourT (dayT b).b).l ++ ([58] ++ (restT (hourT (dayT b).b).b).l)) := asc_app hh.a (asc_app (asc_lit (by decide)) r.a)
  have tn : ((hourT (dayT b).b).l ++ ([58] ++ (restT (hourT (dayT b).b).b).l)).length ≤ 13 := by
    have := hh.n
    have := r.n
    simp only [List.length_append, List.length_cons, List.length_nil]
    omega
  have dn := d.n
  refine ⟨r.b.nx, ?_, ?_⟩
  · refine getD_all (p := asc) (fun l hl => ?_) (fun _ h => by cases h) _
    unfold wholeLs at hl
    simp only [List.mem_cons, List.not_mem_nil, or_false] at hl
    rcases hl with rfl | rfl | rfl
    · exact asc_app d.a (asc_app (asc_lit (by decide)) ta)
    · exact asc_app (asc_lit (by decide)) (asc_app d.a (asc_app (asc_lit (by decide)) ta))
    · exact asc_app (asc_lit (by decide)) (asc_app d.a (asc_app (asc_lit (by decide)) ta))
  · refine getD_all (p := fun l => l.length ≤ 60) (fun l hl => ?_) (Nat.zero_le _) _
    unfold wholeLs at hl
    simp only [List.mem_cons, List.not_mem_nil, or_false] at hl
    rcases hl with rfl | rfl | rfl <;> (simp only [List.length_append, List.length_cons, List.length_nil] at tn ⊢; omega)
end
end Rg
namespace Rg
open PySem PySem.Spec PyProof.Rows L2 SX
section
variable {P : Program} {w : World} {K : PySem.W.Frag} {mg : Str → Option Value} {base : Heap} {cS cM cT : Addr}
def R_text : Ct := fun as r => ∃ b : B2, as = [.ob b.ob] ∧ b.ok ∧ r = .ret (.str (S (textT b).l)) [(textT b).b.ob]
theorem dgR {b : B2} {n : Nat} (h : b.ok) (hn : n ≤ 100) : R_digits [.ob b.ob, .sh (.int n)] (.ret (.str (S (digL b n))) [(bagN b n).ob]) := ⟨b, n, rfl, h, hn, rfl⟩
theorem S2 (a b : List Nat) : S a ++ S b = S (a ++ b) := S_cat a b
theorem fits {a b : List Nat} (h : a.length + b.length ≤ 10000) : (S a).length + (S b).length ≤ sizeLine := by
  rw [S_len, S_len]
  exact Nat.le_trans h (by decide)
theorem sc_text : FnScope ["_law_bag_here", "_law_days", "_law_hours", "_law_rest", "_law_time_here"] ["_law_bag_here"] (defScope (topS 35)) := ⟨rfl, rfl, rfl, by decide +kernel, rfl, by decide +kernel, by decide +kernel⟩
theorem c_text (T : Tx K mg cS cM cT) : Cal P w K mg base false "_law_text" 3 R_text := by
  obtain ⟨f, fd, F, hm⟩ := T.d_text
  refine Cal.of (x := "_law_text") [0, 1, 2, 3, 4] ["_law_take", "_law_digits"] ⟨fd, F⟩ hm sc_text (by decide +kernel) (fun as r h => by obtain ⟨b, rfl, hb, rfl⟩ := h; rfl) (fun _ _ _ _ _ _ us hl => match us, hl with | [_], _ => rfl) fun X B hsc hr hg as r h => ?_
  obtain ⟨b, rfl, hb, rfl⟩ := h
  have hr1 : Room 1 X.A := hr.mono (by decide)
  have v4 := b.v_ok (n := 4) (by decide)
  have dk := dayT_ok hb
  have hk := hourT_ok dk.b
  have rk := restT_ok hk.b
  have h29 : (29 + b.v 4) = (((29 + b.v 4).toNat : Nat) : Int) := by omega
  have hn29 : (29 + b.v 4).toNat ≤ 100 := by omega
  -- days
  have b1 := hb.nx (n := 4)
  have b2 := bagN_ok b1 (29 + b.v 4).toNat
  have v8 := (bagN (b.nx 4) (29 + b.v 4).toNat).v_ok (n := 8) (by decide)
  refine SB.cons (SD.asg B 1 rfl (d := .str (S (dayT b).l)) (ED.st (ρ2 := [.ob (dayT b).b.ob, .emp, .emp, .emp, .emp]) (.ixL (ds := (dayLs (digL (b.nx 4) (29 + b.v 4).toNat)).map fun l => D.str (S l)) (EO.ed (ds := .lst ((dayLs (digL (b.nx 4) (29 + b.v 4).toNat)).map fun l => D.str (S l))) (.lst (.cons .str (.cons .str (.cons .str (.cons .str (.cons .str (.cons .str (.cons .str (.cons (ED.callB2 0 (c_digits T) hg hr B.toBd 1 rfl rfl rfl rfl rfl (.cons (.is (.add .int (ED.callB 0 (c_take T) hg hr1 B.toBd 0 rfl rfl rfl rfl (.inr ⟨rfl, rfl⟩) (.cons .int .nil) (rt hb (by decide) (by decide)))) (congrArg D.int h29)) .nil) rfl (.inr ⟨rfl, rfl⟩) (dgR b1 hn29)) .nil)))))))) (by show 8 ≤ sizeLine; decide))) (ED.callB 0 (c_take T) hg hr1 B.toBd 0 rfl rfl rfl rfl (.inr ⟨rfl, rfl⟩) (.cons .int .nil) (rt b2 (by decide) (by decide))) (atI_strs v8)) rfl) rfl ?_)
  show SB X _ [.ob (dayT b).b.ob, .sh (.str (S (dayT b).l)), .emp, .emp, .emp] _
  unfold textT
  generalize dayT b = dt at dk hk rk ⊢
  have c1 := bagN_ok dk.b 2
  have v6 := (bagN dt.b 2).v_ok (n := 6) (by decide)
  refine SB.cons (SD.asg B 2 rfl (d := .str (S (hourT dt.b).l)) (ED.st (ρ2 := [.ob (hourT dt.b).b.ob, .sh (.str (S dt.l)), .emp, .emp, .emp]) (.ixL (ds := (hourLs (digL dt.b 2)).map fun l => D.str (S l)) (EO.ed (ds := .lst ((hourLs (digL dt.b 2)).map fun l => D.str (S l))) (.lst (.cons .str (.cons .str (.cons .str (.cons .str (.cons .str (.cons (ED.callB 0 (c_digits T) hg hr B.toBd 1 rfl rfl rfl rfl (.inr ⟨rfl, rfl⟩) (.cons .int .nil) (dgR (n := 2) dk.b (by decide))) .nil)))))) (by show 6 ≤ sizeLine; decide))) (ED.callB 0 (c_take T) hg hr1 B.toBd 0 rfl rfl rfl rfl (.inr ⟨rfl, rfl⟩) (.cons .int .nil) (rt c1 (by decide) (by decide))) (atI_strs v6)) rfl) rfl ?_)
  show SB X _ [.ob (hourT dt.b).b.ob, .sh (.str (S dt.l)), .sh (.str (S (hourT dt.b).l)), .emp, .emp] _
  generalize hourT dt.b = ht at hk rk ⊢
  have w6 := ht.b.v_ok (n := 6) (by decide)
  refine SB.cons (SD.asg B 3 rfl (d := .str (S (restLs.getD (ht.b.v 6).toNat []))) (.ixL (ds := restLs.map fun l => D.str (S l)) (EO.ed (ds := .lst (restLs.map fun l => D.str (S l))) (.lst (.cons .str (.cons .str (.cons .str (.cons .str (.cons .str (.cons .str .nil)))))) (by show 6 ≤ sizeLine; decide))) (ED.callB 0 (c_take T) hg hr1 B.toBd 0 rfl rfl rfl rfl (.inr ⟨rfl, rfl⟩) (.cons .int .nil) (rt hk.b (by decide) (by decide))) (atI_strs w6)) rfl ?_)
  have e1 := hk.b.nx (n := 6)
  have e2 := e1.nx (n := 2)
  have e3 := bagN_ok e2 2
  have e4 := bagN_ok e3 2
  refine SB.cons (SD.iteC [.ob (restT ht.b).b.ob, .sh (.str (S dt.l)), .sh (.str (S ht.l)), .sh (.str (S (restT ht.b).l)), .emp] (ρ1 := [.ob ((ht.b.nx 6).nx 2).ob, .sh (.str (S dt.l)), .sh (.str (S ht.l)), .sh (.str (S (restLs.getD (ht.b.v 6).toNat []))), .emp]) (k := decide ((ht.b.nx 6).v 2 = 0)) (.ofC (.eqI (.callB 0 (c_take T) hg hr1 B.toBd 0 rfl rfl rfl rfl (.inr ⟨rfl, rfl⟩) (.cons .int .nil) (rt e1 (by decide) (by decide))) .int)) (fun h => ?_) (fun h => SB.nil ?_) ?_)
  · have f1 := digL_len ((ht.b.nx 6).nx 2) 2
    have f2 := digL_len (bagN ((ht.b.nx 6).nx 2) 2) 2
    have f3 := digL_len (bagN (bagN ((ht.b.nx 6).nx 2) 2) 2) 3
    refine SB.cons (SD.asg B 3 rfl (d := .str (S (digL ((ht.b.nx 6).nx 2) 2 ++ ([58] ++ (digL (bagN ((ht.b.nx 6).nx 2) 2) 2 ++ ([46] ++ digL (bagN (bagN ((ht.b.nx 6).nx 2) 2) 2) 3)))))) (.is (.addS (.addS (.addS (.addS (ED.callB 0 (c_digits T) hg hr B.toBd 1 rfl rfl rfl rfl (.inr ⟨rfl, rfl⟩) (.cons .int .nil) (dgR (n := 2) e2 (by decide))) .str (fits (a := digL ((ht.b.nx 6).nx 2) 2) (b := [58]) (by rw [f1]; decide))) (ED.callB 0 (c_digits T) hg hr B.toBd 1 rfl rfl rfl rfl (.inr ⟨rfl, rfl⟩) (.cons .int .nil) (dgR (n := 2) e3 (by decide))) ?_) .str ?_) (ED.callB 0 (c_digits T) hg hr B.toBd 1 rfl rfl rfl rfl (.inr ⟨rfl, rfl⟩) (.cons .int .nil) (dgR (n := 3) e4 (by decide))) ?_) (congrArg D.str ?_)) rfl (SB.nil ?_))
    · rw [show (":" : Str) = S [58] from rfl, S_cat]
      exact fits (by simp only [List.length_append, f1, f2]; decide)
    · rw [show (":" : Str) = S [58] from rfl, show ("." : Str) = S [46] from rfl, S_cat, S_cat]
      exact fits (by simp only [List.length_append, f1, f2]; decide)
    · rw [show (":" : Str) = S [58] from rfl, show ("." : Str) = S [46] from rfl, S_cat, S_cat, S_cat]
      exact fits (by simp only [List.length_append, f1, f2, f3]; decide)
    · rw [show (":" : Str) = S [58] from rfl, show ("." : Str) = S [46] from rfl, S_cat, S_cat, S_cat, S_cat]
      simp only [List.append_assoc]
    · have : restT ht.b = ⟨digL ((ht.b.nx 6).nx 2) 2 ++ ([58] ++ (digL (bagN ((ht.b.nx 6).nx 2) 2) 2 ++ ([46] ++ digL (bagN (bagN ((ht.b.nx 6).nx 2) 2) 2) 3))), bagN (bagN (bagN ((ht.b.nx 6).nx 2) 2) 2) 3⟩ := if_pos (of_decide_eq_true h)
      rw [this]
      rfl
  · have : restT ht.b = ⟨restLs.getD (ht.b.v 6).toNat [], (ht.b.nx 6).nx 2⟩ := if_neg (of_decide_eq_false h)
    rw [this]
  generalize restT ht.b = rr at rk ⊢
  have n1 := dk.n
  have n2 := hk.n
  have n3 := rk.n
  have v3 := rr.b.v_ok (n := 3) (by decide)
  refine SB.cons (SD.asg B 4 rfl (d := .str (S (ht.l ++ ([58] ++ rr.l)))) (.is (.addS (.addS (.var B.toBd 2 rfl rfl rfl) .str (fits (a := ht.l) (b := [58]) (by simp only [List.length_cons, List.length_nil]; omega))) (.var B.toBd 3 rfl rfl rfl) (by rw [show (":" : Str) = S [58] from rfl, S_cat]; exact fits (by simp only [List.length_append, List.length_cons, List.length_nil]; omega))) (congrArg D.str (by rw [show (":" : Str) = S [58] from rfl, S_cat, S_cat, List.append_assoc]))) rfl ?_)
  have nt : (ht.l ++ ([58] ++ rr.l)).length ≤ 13 := by
    simp only [List.length_append, List.length_cons, List.length_nil]
    omega
  generalize ht.l ++ ([58] ++ rr.l) = tt at nt ⊢
  have d2 : ("d " : Str) = S [100, 32] := rfl
  have d3 : ("-" : Str) = S [45] := rfl
  have d4 : ("day " : Str) = S [100, 97, 121, 32] := rfl
  have d5 : (" " : Str) = S [32] := rfl
  refine SB.cons (SD.ret (.ixL (ds := (wholeLs dt.l tt).map fun l => D.str (S l)) (EO.ed (ds := .lst ((wholeLs dt.l tt).map fun l => D.str (S l))) (.lst (.cons (.is (.addS (.addS (.var B.toBd 1 rfl rfl rfl) .str ?_) (.var B.toBd 4 rfl rfl rfl) ?_) (congrArg D.str ?_)) (.cons (.is (.addS (.addS (.addS .str (.var B.toBd 1 rfl rfl rfl) ?_) .str ?_) (.var B.toBd 4 rfl rfl rfl) ?_) (congrArg D.str ?_)) (.cons (.is (.addS (.addS (.addS .str (.var B.toBd 1 rfl rfl rfl) ?_) .str ?_) (.var B.toBd 4 rfl rfl rfl) ?_) (congrArg D.str ?_)) .nil))) (by show 3 ≤ sizeLine; decide))) (ED.callB 0 (c_take T) hg hr1 B.toBd 0 rfl rfl rfl rfl (.inr ⟨rfl, rfl⟩) (.cons .int .nil) (rt rk.b (by decide) (by decide))) (atI_strs v3)) rfl)
  all_goals simp only [d2, d3, d4, d5, S_cat, List.append_assoc]
  all_goals (refine fits ?_; simp only [List.length_append, List.length_cons, List.length_nil]; omega)
end
end Rg
namespace Rg
open PySem PySem.Spec PyProof.Rows L2 SX
section
variable {P : Program} {w : World} {K : PySem.W.Frag} {mg : Str → Option Value} {base : Heap} {cS cM cT : Addr}
def marks : List Nat := [32, 48, 49, 50, 51, 52, 53, 54, 55, 56, 57, 45, 43, 58, 46, 100, 97, 121, 68, 10]
theorem marks_at : ∀ n : Nat, n < 20 → atI marks (n : Int) = some (marks.getD n 0) := by decide
theorem marks_asc : ∀ n : Nat, marks.getD n 0 < 128 := fun n => by
  rw [List.getD_eq_getElem?_getD]
  cases e : marks[n]? with
  | none => decide
  | some c =>
    have h : ∀ c ∈ marks, c < 128 := by decide
    exact h c (List.mem_of_getElem? e)
def spT (b : B2) (l : List Nat) : TB := ⟨if ((b.nx (l.length + 1)).nx 20).v 3 = 0 then l.take (b.v (l.length + 1)).toNat ++ l.drop ((b.v (l.length + 1)).toNat + 1) else l.take (b.v (l.length + 1)).toNat ++ ([marks.getD ((b.nx (l.length + 1)).v 20).toNat 0] ++ l.drop ((b.v (l.length + 1)).toNat + (((b.nx (l.length + 1)).nx 20).v 3).toNat - 1)), ((b.nx (l.length + 1)).nx 20).nx 3⟩
theorem asc_take {l : List Nat} (h : asc l) (n : Nat) : asc (l.take n) := fun c hc => h c (List.mem_of_mem_take hc)
theorem asc_drop {l : List Nat} (h : asc l) (n : Nat) : asc (l.drop n) := fun c hc => h c (List.mem_of_mem_drop hc)
theorem spT_ok {b : B2} {l : List Nat} (h : b.ok) (ha : asc l) : (spT b l).ok (l.length + 1) := by
  have v := b.v_ok (n := l.length + 1) (by omega)
  have v3 := ((b.nx (l.length + 1)).nx 20).v_ok (n := 3) (by decide)
  refine ⟨h.nx.nx.nx, ?_, ?_⟩
  · unfold spT
    show asc (if _ then _ else _)
    split
    · exact asc_app (asc_take ha _) (asc_drop ha _)
    · refine asc_app (asc_take ha _) (asc_app (fun c hc => ?_) (asc_drop ha _))
      rw [List.mem_singleton.mp hc]
      exact marks_asc _
  · unfold spT
    show List.length (if _ then _ else _) ≤ _
    split
    · simp only [List.length_append, List.length_take, List.length_drop]
      omega
    · simp only [List.length_append, List.length_take, List.length_drop, List.length_cons, List.length_nil]
      omega
def R_spoiled : Ct := fun as r => ∃ (b : B2) (l : List Nat), as = [.ob b.ob, .sh (.str (S l))] ∧ b.ok ∧ l.length ≤ 100 ∧ r = .ret (.str (S (spT b l).l)) [(spT b l).b.ob]
theorem sc_spoiled : FnScope ["_law_bag_here", "_law_text_here", "_law_at", "_law_marks", "_law_sign", "_law_way"] ["_law_bag_here", "_law_text_here"] (defScope (topS 36)) := ⟨rfl, rfl, rfl, by decide +kernel, rfl, by decide +kernel, by decide +kernel⟩
theorem c_spoiled (T : Tx K mg cS cM cT) : Cal P w K mg base false "_law_spoiled" 2 R_spoiled := by
  obtain ⟨f, fd, F, hm⟩ := T.d_spoiled
  refine Cal.of (x := "_law_spoiled") [0, 1, 2, 3, 4, 5] ["_law_take", "len"] ⟨fd, F⟩ hm sc_spoiled (by decide +kernel) (fun as r h => by obtain ⟨b, l, rfl, hb, hl, rfl⟩ := h; rfl) (fun _ _ _ _ _ _ us hl => match us, hl with | [_, _], _ => rfl) fun X B hsc hr hg as r h => ?_
  obtain ⟨b, l, rfl, hb, hl, rfl⟩ := h
  have hz := lsz (l := l) (by omega)
  have el : ((S l).length : Int) = (l.length : Int) := by rw [S_len]
  have b1 := hb.nx (n := l.length + 1)
  have b2 := b1.nx (n := 20)
  refine SB.cons (SD.par2 B hsc 2 3 rfl rfl (by decide) rfl (by decide +kernel) (by decide +kernel) (.cons (ED.callB 0 (c_take T) hg hr B.toBd 0 rfl rfl rfl rfl (.inr ⟨rfl, rfl⟩) (.cons (.is (.add (.lenS B.toBd 1 rfl T.len (.var B.toBd 1 rfl rfl rfl) hz) .int) (congrArg D.int (show _ = (l.length : Int) + 1 by rw [el]))) .nil) (rt hb (by omega) (by omega))) (.cons .str .nil)) rfl rfl ?_ (by decide +kernel) (by decide +kernel) rfl rfl rfl rfl)
  unfold spT
  have v0 := b.v_ok (n := l.length + 1) (by omega)
  have ea : b.v (l.length + 1) = (((b.v (l.length + 1)).toNat : Nat) : Int) := by omega
  generalize b.nx (l.length + 1) = bb1 at b1 b2 ⊢
  generalize hat : (b.v (l.length + 1)).toNat = at_ at ea v0 ⊢
  rw [ea]
  have v20 := bb1.v_ok (n := 20) (by decide)
  have m20 : atI marks (bb1.v 20) = some (marks.getD (bb1.v 20).toNat 0) := by
    have z := marks_at (bb1.v 20).toNat (by omega)
    rwa [show (((bb1.v 20).toNat : Nat) : Int) = bb1.v 20 by omega] at z
  refine SB.cons (SD.asg B 4 rfl (d := .str (S [marks.getD (bb1.v 20).toNat 0])) (.ixS (.var B.toBd 3 rfl rfl rfl) (ED.callB 0 (c_take T) hg hr B.toBd 0 rfl rfl rfl rfl (.inr ⟨rfl, rfl⟩) (.cons (.is (.lenS B.toBd 1 rfl T.len (.var B.toBd 3 rfl rfl rfl) (by decide)) (show _ = D.int 20 from rfl)) .nil) (rt b1 (by decide) (by decide))) (by decide) m20) rfl ?_)
  generalize marks.getD (bb1.v 20).toNat 0 = sg
  generalize bb1.nx 20 = bb2 at b2 ⊢
  refine SB.cons (SD.asg B 5 rfl (ED.callB 0 (c_take T) hg hr B.toBd 0 rfl rfl rfl rfl (.inr ⟨rfl, rfl⟩) (.cons .int .nil) (rt b2 (by decide) (by decide))) rfl ?_)
  have v3 := bb2.v_ok (n := 3) (by decide)
  have c1 : cutS (S l) none (some (at_ : Int)) = S (l.take at_) := cutTo l at_
  have t1 : (l.take at_).length ≤ 100 := by rw [List.length_take]; omega
  refine SB.cons (SD.ite (k := decide (bb2.v 3 = 0)) (.ofC (.eqI (.var B.toBd 5 rfl rfl rfl) .int)) (fun h => ?_) fun h => SB.nil ?_)
  · have c2 : cutS (S l) (some ((at_ : Int) + 1)) none = S (l.drop (at_ + 1)) := cutFrom l (at_ + 1)
    have t2 : (l.drop (at_ + 1)).length ≤ 100 := by rw [List.length_drop]; omega
    refine SB.cons (SD.ret (.is (.addS (.is (.slS (.var B.toBd 1 rfl rfl rfl) .none (.some (.var B.toBd 2 rfl rfl rfl)) hz) (congrArg D.str c1)) (.is (.slS (.var B.toBd 1 rfl rfl rfl) (.some (.add (.var B.toBd 2 rfl rfl rfl) .int)) .none hz) (congrArg D.str c2)) (fits (by omega))) (congrArg D.str (S_cat _ _))) ?_)
    show Res.ret _ _ = Res.ret _ _
    rw [if_pos (of_decide_eq_true h)]
    rfl
  · have h := of_decide_eq_false h
    have ew : (at_ : Int) + bb2.v 3 - 1 = ((at_ + (bb2.v 3).toNat - 1 : Nat) : Int) := by omega
    have c2 : cutS (S l) (some ((at_ : Int) + bb2.v 3 - 1)) none = S (l.drop (at_ + (bb2.v 3).toNat - 1)) := by
      rw [ew]
      exact cutFrom l _
    have t2 : (l.drop (at_ + (bb2.v 3).toNat - 1)).length ≤ 100 := by rw [List.length_drop]; omega
    refine SB.cons (SD.ret (.is (.addS (.addS (.is (.slS (.var B.toBd 1 rfl rfl rfl) .none (.some (.var B.toBd 2 rfl rfl rfl)) hz) (congrArg D.str c1)) (.var B.toBd 4 rfl rfl rfl) (fits (by simp only [List.length_cons, List.length_nil]; omega))) (.is (.slS (.var B.toBd 1 rfl rfl rfl) (.some (.sub (.add (.var B.toBd 2 rfl rfl rfl) (.var B.toBd 5 rfl rfl rfl)) .int)) .none hz) (congrArg D.str c2)) (by rw [S_cat]; exact fits (by simp only [List.length_append, List.length_cons, List.length_nil]; omega))) (congrArg D.str (by rw [S_cat, S_cat, List.append_assoc]))) ?_)
    show Res.ret _ _ = Res.ret _ _
    rw [if_neg h]
    rfl
/-! ### the law -/
def pyO : Option Int → PyData
  | some z => .list [.str "read", .int z]
  | none => .list [.str "bad", .int 0, .bool true]
theorem py_lawOb (o : Option Int) : (lawOb o).d.py = some (pyO o) := by cases o <;> rfl
theorem spanR_lt {l : List Nat} {z : Int} (h : spanR l = some z) : z.natAbs < 10 ^ 300 := by
  unfold spanR at h
  split at h
  · cases h
  · rename_i p q e
    split at h
    · cases h
    · rename_i t ht
      split at h
      · rename_i hc
        split at h
        · cases h
        · have := Option.some.inj h
          have v := val_cnt hc
          have tt := (rdT_sg ht).2
          have big : (10 : Nat) ^ 40 < 10 ^ 300 := by decide +kernel
          refine Nat.lt_trans ?_ big
          subst this
          unfold sgn
          split <;> omega
      · cases h
theorem momR_lt {l : List Nat} {z : Int} (h : momR l = some z) : z.natAbs < 10 ^ 300 := by
  unfold momR at h
  split at h
  · split at h
    · rename_i a b c e hw
      split at h
      · rename_i t ht
        have := Option.some.inj h
        have v := ival_lt hw.2
        have tt := (rdT_sg ht).2
        have big : (10 : Nat) ^ 40 < 10 ^ 300 := by decide +kernel
        refine Nat.lt_trans ?_ big
        subst this
        omega
      · cases h
    · cases h
  · cases h
theorem shStr {s : Str} {n : Nat} (h : (reprText s).length ≤ n) : Sh (.str s) 0 n := ⟨rfl, Nat.le_refl _, h⟩
theorem shB (k : Bool) : Sh (.bool k) 0 5 := ⟨rfl, Nat.le_refl _, by cases k <;> decide +kernel⟩
theorem Sh.up {p : PyData} {a b c d : Nat} (h : Sh p a b) (h1 : a ≤ c) (h2 : b ≤ d) : Sh p c d := ⟨h.s, Nat.le_trans h.d h1, Nat.le_trans h.l h2⟩
theorem sh_pyO {o : Option Int} (h : ∀ z, o = some z → z.natAbs < 10 ^ 300) : Sh (pyO o) 1 1000 := by
  cases o with
  | some z =>
    refine (Sh.list (dd := 0) (B := 301) fun p hp => ?_).up (by decide) (by show 2 * 301 + 2 * 2 + 3 ≤ 1000; decide)
    rcases List.mem_cons.mp hp with rfl | hp
    · exact shStr (by decide +kernel)
    · rw [List.mem_singleton.mp hp]
      exact .int (h z rfl)
  | none =>
    refine (Sh.list (dd := 0) (B := 301) fun p hp => ?_).up (by decide) (by show 3 * 301 + 2 * 3 + 3 ≤ 1000; decide)
    rcases List.mem_cons.mp hp with rfl | hp
    · exact shStr (by decide +kernel)
    · rcases List.mem_cons.mp hp with rfl | hp
      · exact Sh.int (i := 0) (by decide +kernel)
      · rw [List.mem_singleton.mp hp]
        exact (shB true).up (by decide) (by decide)
theorem sh_two {o1 o2 : Option Int} (h1 : ∀ z, o1 = some z → z.natAbs < 10 ^ 300) (h2 : ∀ z, o2 = some z → z.natAbs < 10 ^ 300) : Shows (.list [pyO o1, pyO o2]) := by
  refine (Sh.list (dd := 1) (B := 1000) fun p hp => ?_).mk' (by decide) (by show 2 * 1000 + 2 * 2 + 3 ≤ sizeLine; decide)
  rcases List.mem_cons.mp hp with rfl | hp
  · exact sh_pyO h1
  · rw [List.mem_singleton.mp hp]
    exact sh_pyO h2
def pyB : PyData := .list [.str "bad", .int (-1), .bool true]
theorem sh_bad : Shows (.list [pyB, pyB]) := by
  have one : Sh pyB 1 1000 := by
    refine (Sh.list (dd := 0) (B := 301) fun p hp => ?_).up (by decide) (by show 3 * 301 + 2 * 3 + 3 ≤ 1000; decide)
    rcases List.mem_cons.mp hp with rfl | hp
    · exact shStr (by decide +kernel)
    · rcases List.mem_cons.mp hp with rfl | hp
      · exact Sh.int (i := -1) (by decide +kernel)
      · rw [List.mem_singleton.mp hp]
        exact (shB true).up (by decide) (by decide)
  refine (Sh.list (dd := 1) (B := 1000) fun p hp => ?_).mk' (by decide) (by show 2 * 1000 + 2 * 2 + 3 ≤ sizeLine; decide)
  rcases List.mem_cons.mp hp with rfl | hp
  · exact one
  · rw [List.mem_singleton.mp hp]
    exact one
def odds : List D := [.non, .int 5, .bl true, .lst [], .tup [.str "day 0 00:00:00.000"], .lst [.str "0d 00:00:00.000"]]
theorem noS_odd {v : Int} (h : 0 ≤ v ∧ v < 6) : ∃ d, atI odds v = some d ∧ NoS K d := by
  have hv : v.toNat < 6 := by omega
  have ev : v = ((v.toNat : Nat) : Int) := by omega
  rw [ev]
  generalize v.toNat = n at hv
  match n, hv with
  | 0, _ => exact ⟨_, rfl, ⟨_, fun _ => tyd_non, by first | rfl | decide +kernel⟩⟩
  | 1, _ => exact ⟨_, rfl, ⟨_, fun _ => tyd_int, by first | rfl | decide +kernel⟩⟩
  | 2, _ => exact ⟨_, rfl, ⟨_, fun _ => tyd_bl, by first | rfl | decide +kernel⟩⟩
  | 3, _ => exact ⟨_, rfl, ⟨_, fun _ => tyd_lst, by first | rfl | decide +kernel⟩⟩
  | 4, _ => exact ⟨_, rfl, ⟨_, fun _ => tyd_tup, by first | rfl | decide +kernel⟩⟩
  | 5, _ => exact ⟨_, rfl, ⟨_, fun _ => tyd_lst, by first | rfl | decide +kernel⟩⟩
end
end Rg
namespace Rg
open PySem PySem.Spec PyProof.Rows L2 SX
section
variable {P : Program} {w : World} {K : PySem.W.Frag} {mg : Str → Option Value} {base : Heap} {cS cM cT : Addr}
def R_law (n : Nat) : Ct := fun as r => ∃ ns : List Int, as = [.sh (.lst (ns.map .int))] ∧ ns.length ≤ n ∧ (∀ z ∈ ns, Builtin.Int.intBits z ≤ 1048576) ∧ r = .ret (.bl true) []
theorem sc_law : FnScope ["_law_script", "_law_at", "_law_bag_here", "_law_turn", "_law_text_here", "_law_k", "_law_odd"] ["_law_script"] (defScope (topS 42)) := ⟨rfl, rfl, rfl, by decide +kernel, rfl, by decide +kernel, by decide +kernel⟩
def turns : List Int := [0, 0, 1, 2]
theorem turns_at {v : Int} (h : 0 ≤ v ∧ v < 4) : ∃ n : Nat, n ≤ 2 ∧ atI (turns.map D.int) v = some (.int n) := by
  have hv : v.toNat < 4 := by omega
  have ev : v = ((v.toNat : Nat) : Int) := by omega
  rw [ev]
  generalize v.toNat = n at hv
  match n, hv with
  | 0, _ => exact ⟨0, by decide, rfl⟩
  | 1, _ => exact ⟨0, by decide, rfl⟩
  | 2, _ => exact ⟨1, by decide, rfl⟩
  | 3, _ => exact ⟨2, by decide, rfl⟩
theorem len_rng (n : Nat) : (rngD 0 (n : Int).toNat).length = n := by unfold rngD; simp
theorem f_law (T : Tx K mg cS cM cT) {f : Addr} {fd : FuncData} (F : FunD K "law" "law" (defArgs (topS 42)) (defBody (topS 42)) (defScope (topS 42)) [] [] f fd) {n : Nat} (hn : n ≤ 1000) : Fn P w K mg base true 6 f fd ["_law_script"] (spOf K (R_law n)) := by
  refine Fn.mk' (x := "law") [0, 1, 2, 3, 4, 5, 6] ["range", "max", "_law_bag", "min", "_law_text", "_law_take", "repr", "len", "_law_spoiled", "_law_read", "_law_span", "_law_moment"] F sc_law (by decide +kernel) (fun as r h => by obtain ⟨ns, rfl, _, _, rfl⟩ := h; rfl) fun X B hsc hr hg as r h => ?_
  obtain ⟨ns, rfl, hl, _, rfl⟩ := h
  have no : false = true → X.A.guards = some [] := fun h => nomatch h
  have hr1 : Room 1 X.A := hr.mono (by decide)
  have hr2 : Room 2 X.A := hr.mono (by decide)
  have hr3 : Room 3 X.A := hr.mono (by decide)
  refine SB.cons (SD.for_ B (fun i ρ => ∃ x1 x2 x3 x4 x5 x6, ρ = [.sh (.lst (ns.map .int)), x1, x2, x3, x4, x5, x6] ∧ Sl.nb ρ 1 = true ∧ Sl.nb ρ 2 = true ∧ Sl.nb ρ 3 = true ∧ Sl.nb ρ 4 = true ∧ Sl.nb ρ 5 = true ∧ Sl.nb ρ 6 = true) (.rng1 B.toBd 0 rfl T.range (.max2 B.toBd B.calm 1 rfl T.max .int (.min2 B.toBd B.calm 3 rfl T.min .int (.lenL B.toBd 7 rfl T.len (.var B.toBd 0 rfl rfl rfl)))) (by rw [List.length_map]; split <;> split <;> omega)) ⟨_, _, _, _, _, _, rfl, rfl, rfl, rfl, rfl, rfl, rfl⟩ (fun i d ρ' hd hi => ?_) fun ρ' hi => ?_)
  · obtain ⟨x1, x2, x3, x4, x5, x6, rfl, h1, h2, h3, h4, h5, h6⟩ := hi
    have hil : i < 64 := by
      have := (List.getElem?_eq_some_iff.mp hd).1
      unfold rngD at this
      rw [List.length_map, List.length_range, List.length_map] at this
      split at this <;> (try split at this) <;> omega
    have ed : d = .int (i : Int) := by
      have hlt := (List.getElem?_eq_some_iff.mp hd).1
      unfold rngD at hd hlt
      rw [List.length_map, List.length_range] at hlt
      rw [List.getElem?_map, List.getElem?_range hlt] at hd
      have := (Option.some.inj hd).symm
      rw [this]
      exact congrArg D.int (Int.zero_add _)
    subst ed
    have b0 := bag_ok ns i hil
    generalize hb : (⟨cellOf ns i, mixOf ns i⟩ : B2) = b at b0
    refine SG.name B 1 rfl h1 (SB.cons (SD.asgO B 2 rfl (.is (EO.call (c_bag T) no hr1 B.toBd 2 rfl (.cons (.var B.toBd 0 rfl rfl rfl) (.cons (.var B.toBd 1 rfl rfl rfl) .nil)) ⟨ns, i, rfl, hil, rfl⟩) (show bag (cellOf ns i) (mixOf ns i) = b.ob by rw [← hb]; rfl)) h2 ?_))
    -- six texts
    refine SB.cons (SD.for_ B (fun j ρ => ∃ (b : B2) (x3 x4 x5 : Sl), b.ok ∧ ρ = [.sh (.lst (ns.map .int)), .sh (.int i), .ol b.ob, x3, x4, x5, x6] ∧ Sl.nb ρ 3 = true ∧ Sl.nb ρ 4 = true ∧ Sl.nb ρ 5 = true) (.rng1 B.toBd 0 rfl T.range .int (by decide)) ⟨b, x3, x4, x5, b0, rfl, h3, h4, h5⟩ (fun j d ρ' hd hi => ?_) fun ρ' hi => ?_)
    · obtain ⟨b, x3, x4, x5, bo, rfl, h3, h4, h5⟩ := hi
      have to := textT_ok bo
      have v4 := (textT b).b.v_ok (n := 4) (by decide)
      obtain ⟨m, hm, hat⟩ := turns_at v4
      refine SG.name B 3 rfl h3 (SB.cons (SD.asg B 4 rfl (ED.callB 2 (c_text T) no hr3 B.toBd 4 rfl rfl rfl rfl (.inl ⟨rfl, rfl⟩) .nil ⟨b, rfl, bo, rfl⟩) h4 ?_))
      refine SB.cons (SD.for_ B (fun k ρ => ∃ (b : B2) (l : List Nat) (x5 : Sl), b.ok ∧ asc l ∧ l.length ≤ 60 + k ∧ ρ = [.sh (.lst (ns.map .int)), .sh (.int i), .ol b.ob, .sh d, .sh (.str (S l)), x5, x6] ∧ Sl.nb ρ 5 = true) (ds := rngD 0 ((m : Nat) : Int).toNat) (.rng1 B.toBd 0 rfl T.range (.ixL (d := .int m) (EO.ed (ds := .lst (turns.map D.int)) (.lst (.cons .int (.cons .int (.cons .int (.cons .int .nil)))) (by show 4 ≤ sizeLine; decide))) (ED.callB 2 (c_take T) no hr1 B.toBd 5 rfl rfl rfl rfl (.inl ⟨rfl, rfl⟩) (.cons .int .nil) (rt to.b (by decide) (by decide))) hat) (by omega)) ⟨(textT b).b.nx 4, (textT b).l, x5, to.b.nx, to.a, to.n, rfl, h5⟩ (fun k d' ρ' hd' hi => ?_) fun ρ' hi => ?_)
      · obtain ⟨b', l, x5, bo', la, ll, rfl, h5⟩ := hi
        have hk : k < m := by
          have := (List.getElem?_eq_some_iff.mp hd').1
          rwa [len_rng] at this
        have so := spT_ok bo' la
        refine SG.name B 5 rfl h5 (SB.cons (SD.asg B 4 rfl (ED.callB 2 (c_spoiled T) no hr2 B.toBd 8 rfl rfl rfl rfl (.inl ⟨rfl, rfl⟩) (.cons (.var B.toBd 4 rfl rfl rfl) .nil) ⟨b', l, rfl, bo', by omega, rfl⟩) rfl ?_))
        exact SB.nil ⟨_, _, _, so.b, so.a, by have := so.n; omega, rfl, rfl⟩
      · obtain ⟨b', l, x5, bo', la, ll, rfl, h5⟩ := hi
        rw [len_rng] at ll
        have l1 : l.length ≤ 1000 := by omega
        have sh := sh_two (o1 := spanR l) (o2 := momR l) (fun _ => spanR_lt) (fun _ => momR_lt)
        have p1 : (D.lst [(lawOb (spanR l)).d, (lawOb (momR l)).d]).py = some (.list [pyO (spanR l), pyO (momR l)]) := by
          simp only [D.py, D.pyL, py_lawOb]
          rfl
        refine SB.cons (SD.ite (.is' (k := !decide ((PyData.list [pyO (spanR l), pyO (momR l)]).shown = (PyData.list [pyO (spanR l), pyO (momR l)]).shown)) (l := false) (.ofC (.neS (.repr B.toBd hr (hg rfl) 6 rfl T.repr (EO.ed (EO.call (c_read T) no hr B.toBd 9 rfl (.cons (.var B.toBd 4 rfl rfl rfl) .nil) ⟨_, rfl, .inl ⟨l, rfl, l1, rfl⟩⟩)) (.inl ⟨_, rfl⟩) p1 sh) (.repr B.toBd hr (hg rfl) 6 rfl T.repr (EO.ed (ds := .lst [(lawOb (spanR l)).d, (lawOb (momR l)).d]) (.lst (.cons (.is (EO.ed (EO.call (c_span T) no hr2 B.toBd 10 rfl (.cons (.var B.toBd 4 rfl rfl rfl) .nil) ⟨l, rfl, l1, la, rfl⟩)) (by rw [span_same])) (.cons (.is (EO.ed (EO.call (c_moment T) no hr2 B.toBd 11 rfl (.cons (.var B.toBd 4 rfl rfl rfl) .nil) ⟨l, rfl, l1, la, rfl⟩)) (by rw [mom_same])) .nil)) (by show 2 ≤ sizeLine; decide))) (.inl ⟨_, rfl⟩) p1 sh))) (by rw [decide_eq_true rfl]; rfl)) (fun h => nomatch h) fun _ => SB.nil ?_)
        exact SB.nil ⟨b', _, _, _, bo', rfl, rfl, rfl, h5⟩
    · obtain ⟨b, x3, x4, x5, bo, rfl, h3, h4, h5⟩ := hi
      have v6 := b.v_ok (n := 6) (by decide)
      obtain ⟨od, hod, ns6⟩ := noS_odd (K := K) v6
      refine SB.cons (SD.asg B 6 rfl (.ixL (d := od) (EO.ed (ds := .lst odds) (.lst (.cons .non (.cons .int (.cons .bl (.cons (EO.ed (ds := .lst []) (.lst .nil (by decide))) (.cons (.tup (.cons .str .nil) (by decide)) (.cons (EO.ed (ds := .lst [.str "0d 00:00:00.000"]) (.lst (.cons .str .nil) (by decide))) .nil)))))) (by show 6 ≤ sizeLine; decide))) (ED.callB 2 (c_take T) no hr1 B.toBd 5 rfl rfl rfl rfl (.inl ⟨rfl, rfl⟩) (.cons .int .nil) (rt bo (by decide) (by decide))) hod) h6 ?_)
      refine SB.cons (SD.ite (.is' (k := !decide ((PyData.list [pyB, pyB]).shown = (PyData.list [pyB, pyB]).shown)) (l := false) (.ofC (.neS (.repr B.toBd hr (hg rfl) 6 rfl T.repr (EO.ed (EO.call (c_read T) no hr B.toBd 9 rfl (.cons (.var B.toBd 6 rfl rfl rfl) .nil) ⟨_, rfl, .inr ⟨ns6, rfl⟩⟩)) (.inl ⟨_, rfl⟩) (p := .list [pyB, pyB]) rfl sh_bad) (.repr B.toBd hr (hg rfl) 6 rfl T.repr (EO.ed (ds := .lst [.lst [.str "bad", .int (-1), .bl true], .lst [.str "bad", .int (-1), .bl true]]) (.lst (.cons (EO.ed (ds := .lst [.str "bad", .int (-1), .bl true]) (.lst (.cons .str (.cons (.neg .int) (.cons .bl .nil))) (by show 3 ≤ sizeLine; decide))) (.cons (EO.ed (ds := .lst [.str "bad", .int (-1), .bl true]) (.lst (.cons .str (.cons (.neg .int) (.cons .bl .nil))) (by show 3 ≤ sizeLine; decide))) .nil)) (by show 2 ≤ sizeLine; decide))) (.inl ⟨_, rfl⟩) (p := .list [pyB, pyB]) rfl sh_bad))) (by rw [decide_eq_true rfl]; rfl)) (fun h => nomatch h) fun _ => SB.nil ?_)
      exact SB.nil ⟨_, _, _, _, _, _, rfl, rfl, rfl, h3, h4, h5, rfl⟩
  · obtain ⟨x1, x2, x3, x4, x5, x6, rfl, h1, h2, h3, h4, h5, h6⟩ := hi
    exact SB.cons (SD.ret .bl rfl)
end
end Rg
namespace Rg
open PySem PySem.Spec PyProof.Rows L2
def viB (K : PySem.W.Frag) : Bool := match PySem.W.findCls K (.type "ValueError") (.type "type") "__init__" with
  | some (.val v) => decide (v = .builtin "ValueError.__init__")
  | _ => false
theorem viB_ok {K : PySem.W.Frag} (h : viB K = true) : PySem.W.findCls K (.type "ValueError") (.type "type") "__init__" = some (.val (.builtin "ValueError.__init__")) := by
  unfold viB at h
  split at h
  · rename_i v e
    rw [e, of_decide_eq_true h]
  · cases h
end Rg
namespace Rg
open PySem PySem.Spec PyProof.Rows L2
def mkD (x : Str) (i : Nat) : He.DefD := ⟨(x, none), x, x, defArgs (topS i), defBody (topS i), defScope (topS i), [], []⟩
def mkM (c m q : Str) (i j : Nat) : He.DefD := ⟨(c, some m), m, q, defArgs (clsS i j), defBody (clsS i j), defScope (clsS i j), [], []⟩
def fn : List He.DefD := [mkD "law" 42, mkD "is_integer" 6, mkD "has_digits" 24, mkD "is_count" 25, mkD "is_written" 26, mkD "read_time" 27, mkD "look_string" 28, mkD "read_span" 29, mkD "read_moment" 30, mkD "_law_bag" 32, mkD "_law_take" 33, mkD "_law_digits" 34, mkD "_law_text" 35, mkD "_law_spoiled" 36, mkD "_law_is_number" 37, mkD "_law_time" 38, mkD "_law_span" 39, mkD "_law_moment" 40, mkD "_law_read" 41, mkM "Span" "__init__" "Span.__init__" 15 0, mkM "Moment" "__init__" "Moment.__init__" 16 0, mkM "BadText" "__init__" "BadText.__init__" 4 0]
def fa : List He.Fa := [.glo "law", .glo "is_integer", .glo "has_digits", .glo "is_count", .glo "is_written", .glo "read_time", .glo "look_string", .glo "read_span", .glo "read_moment", .glo "_law_bag", .glo "_law_take", .glo "_law_digits", .glo "_law_text", .glo "_law_spoiled", .glo "_law_is_number", .glo "_law_time", .glo "_law_span", .glo "_law_moment", .glo "_law_read", .glo "Span", .glo "Moment", .glo "BadText", .int "DAY" 86400000, .int "HOUR" 3600000, .int "MINUTE" 60000, .int "SECOND" 1000, .int "MOST_DIGITS" 30, .str "DIGITS" "0123456789", .free "isinstance", .free "int", .free "bool", .free "str", .free "len", .free "abs", .free "range", .free "min", .free "max", .free "repr", .free "enumerate", .free "ValueError", .cls "Span", .cls "Moment", .mkr "Span", .mkr "Moment", .noat "Span" "amount", .noat "Moment" "at"]
def exK (K : PySem.W.Frag) : Bool := true && xcB K (He.ga K "BadText") "place" && exIsB K (He.ga K "BadText") && decide (PySem.W.kitOne K (.ref (He.ga K "BadText")) (.type "ValueError") = some true) && decide (PySem.W.exmOne K (.ref (He.ga K "BadText")) (.ref (He.ga K "BadText")) = some true) && viB K && decide (PySem.W.findIn K (.ref (He.ga K "BadText")) "__init__" = some (some (.ref (He.ma K (He.ga K "BadText") "__init__")))) && decide (PySem.W.typeIn K (.ref (He.ma K (He.ga K "BadText") "__init__")) = some (.type "function"))
abbrev R : PySem.W.OpenRow := PySem.W.OpenLaw.row PySem.Challenge.rw_rangeends_k80_texts_of_spans_and_moments
abbrev hk : PySem.W.Hook := hookX 4 fa fn exK
abbrev ob (s : PySem.W.SharedT) : Bool × He.AlD := obX 4 fa fn exK s
theorem ob_eq (s : PySem.W.SharedT) : ob s = hk.obs s.abs := obX_eq s
def loose : List PySem.Str := (["_wall", "BadNumber", "BadGrain", "BadText", "is_integer", "MOST_LENGTHS", "GREATEST_LENGTH", "shortest_row"] : List PySem.Str) ++ (["first_in", "cell_in", "Grain", "Span", "Moment", "DAY", "HOUR", "MINUTE"] : List PySem.Str) ++ (["SECOND", "MOST_DIGITS", "DIGITS", "has_digits", "is_count", "is_written", "read_time", "look_string"] : List PySem.Str) ++ (["read_span", "read_moment", "_law_bag", "_law_take", "_law_digits", "_law_text", "_law_spoiled", "_law_is_number"] : List PySem.Str) ++ (["_law_time", "_law_span", "_law_moment", "_law_read"] : List PySem.Str)
theorem run (w : World) : HandSHeadRun.RunEq R (PySem.W.view R.prog [42]) hk ob 4000 loose w := by
  intro os
  kernel_rfl
theorem facts {K : PySem.W.Frag} {h : Heap} {mg : Str → Option Value} (X : K.In h) (G : h.Ns mainGlobals mg) (ex : exK K = true) (c : He.SaysD fa fn K) : Tx K mg (He.ga K "Span") (He.ga K "Moment") (He.ga K "BadText") :=
  ⟨    (He.str_ok X G (c.fact 27 (f := .str "DIGITS" "0123456789") rfl)),
    (He.int_ok X G (c.fact 22 (f := .int "DAY" 86400000) rfl)),
    (He.int_ok X G (c.fact 23 (f := .int "HOUR" 3600000) rfl)),
    (He.int_ok X G (c.fact 24 (f := .int "MINUTE" 60000) rfl)),
    (He.int_ok X G (c.fact 25 (f := .int "SECOND" 1000) rfl)),
    (He.int_ok X G (c.fact 26 (f := .int "MOST_DIGITS" 30) rfl)),
    (He.free_ok X G (c.fact 28 (f := .free "isinstance") rfl)),
    (He.free_ok X G (c.fact 29 (f := .free "int") rfl)),
    (He.free_ok X G (c.fact 30 (f := .free "bool") rfl)),
    (He.free_ok X G (c.fact 31 (f := .free "str") rfl)),
    (He.free_ok X G (c.fact 32 (f := .free "len") rfl)),
    (He.free_ok X G (c.fact 33 (f := .free "abs") rfl)),
    (He.free_ok X G (c.fact 34 (f := .free "range") rfl)),
    (He.free_ok X G (c.fact 35 (f := .free "min") rfl)),
    (He.free_ok X G (c.fact 36 (f := .free "max") rfl)),
    (He.free_ok X G (c.fact 37 (f := .free "repr") rfl)),
    (He.free_ok X G (c.fact 38 (f := .free "enumerate") rfl)),
    (He.free_ok X G (c.fact 39 (f := .free "ValueError") rfl)),
    (He.cls_ok (c.fact 40 (f := .cls "Span") rfl)),
    (He.cls_ok (c.fact 41 (f := .cls "Moment") rfl)),
    (He.noat_ok (c.fact 44 (f := .noat "Span" "amount") rfl)),
    (He.noat_ok (c.fact 45 (f := .noat "Moment" "at") rfl)),
    (xcB_ok (He.ba (He.ba (He.ba (He.ba (He.ba (He.ba (He.ba ex).1).1).1).1).1).1).2),
    (exIsB_ok (He.ba (He.ba (He.ba (He.ba (He.ba (He.ba ex).1).1).1).1).1).2),
    (of_decide_eq_true (He.ba (He.ba (He.ba (He.ba (He.ba ex).1).1).1).1).2),
    (of_decide_eq_true (He.ba (He.ba (He.ba (He.ba ex).1).1).1).2),
    (viB_ok (He.ba (He.ba (He.ba ex).1).1).2),
    (by obtain ⟨fd, F⟩ := c.def_ 21 (d := mkM "BadText" "__init__" "BadText.__init__" 4 0) rfl; exact ⟨_, fd, F, He.glo_ok X G (c.fact 21 (f := .glo "BadText") rfl), of_decide_eq_true (He.ba (He.ba ex).1).2, of_decide_eq_true (He.ba ex).2⟩),
    (by obtain ⟨fd, F⟩ := c.def_ 1 (d := mkD "is_integer" 6) rfl; exact ⟨_, fd, F, He.glo_ok X G (c.fact 1 (f := .glo "is_integer") rfl)⟩),
    (by obtain ⟨fd, F⟩ := c.def_ 19 (d := mkM "Span" "__init__" "Span.__init__" 15 0) rfl; exact ⟨_, fd, F, He.glo_ok X G (c.fact 19 (f := .glo "Span") rfl), He.mkr_ok (c.fact 42 (f := .mkr "Span") rfl)⟩),
    (by obtain ⟨fd, F⟩ := c.def_ 20 (d := mkM "Moment" "__init__" "Moment.__init__" 16 0) rfl; exact ⟨_, fd, F, He.glo_ok X G (c.fact 20 (f := .glo "Moment") rfl), He.mkr_ok (c.fact 43 (f := .mkr "Moment") rfl)⟩),
    (by obtain ⟨fd, F⟩ := c.def_ 2 (d := mkD "has_digits" 24) rfl; exact ⟨_, fd, F, He.glo_ok X G (c.fact 2 (f := .glo "has_digits") rfl)⟩),
    (by obtain ⟨fd, F⟩ := c.def_ 3 (d := mkD "is_count" 25) rfl; exact ⟨_, fd, F, He.glo_ok X G (c.fact 3 (f := .glo "is_count") rfl)⟩),
    (by obtain ⟨fd, F⟩ := c.def_ 4 (d := mkD "is_written" 26) rfl; exact ⟨_, fd, F, He.glo_ok X G (c.fact 4 (f := .glo "is_written") rfl)⟩),
    (by obtain ⟨fd, F⟩ := c.def_ 5 (d := mkD "read_time" 27) rfl; exact ⟨_, fd, F, He.glo_ok X G (c.fact 5 (f := .glo "read_time") rfl)⟩),
    (by obtain ⟨fd, F⟩ := c.def_ 6 (d := mkD "look_string" 28) rfl; exact ⟨_, fd, F, He.glo_ok X G (c.fact 6 (f := .glo "look_string") rfl)⟩),
    (by obtain ⟨fd, F⟩ := c.def_ 7 (d := mkD "read_span" 29) rfl; exact ⟨_, fd, F, He.glo_ok X G (c.fact 7 (f := .glo "read_span") rfl)⟩),
    (by obtain ⟨fd, F⟩ := c.def_ 8 (d := mkD "read_moment" 30) rfl; exact ⟨_, fd, F, He.glo_ok X G (c.fact 8 (f := .glo "read_moment") rfl)⟩),
    (by obtain ⟨fd, F⟩ := c.def_ 9 (d := mkD "_law_bag" 32) rfl; exact ⟨_, fd, F, He.glo_ok X G (c.fact 9 (f := .glo "_law_bag") rfl)⟩),
    (by obtain ⟨fd, F⟩ := c.def_ 10 (d := mkD "_law_take" 33) rfl; exact ⟨_, fd, F, He.glo_ok X G (c.fact 10 (f := .glo "_law_take") rfl)⟩),
    (by obtain ⟨fd, F⟩ := c.def_ 11 (d := mkD "_law_digits" 34) rfl; exact ⟨_, fd, F, He.glo_ok X G (c.fact 11 (f := .glo "_law_digits") rfl)⟩),
    (by obtain ⟨fd, F⟩ := c.def_ 12 (d := mkD "_law_text" 35) rfl; exact ⟨_, fd, F, He.glo_ok X G (c.fact 12 (f := .glo "_law_text") rfl)⟩),
    (by obtain ⟨fd, F⟩ := c.def_ 13 (d := mkD "_law_spoiled" 36) rfl; exact ⟨_, fd, F, He.glo_ok X G (c.fact 13 (f := .glo "_law_spoiled") rfl)⟩),
    (by obtain ⟨fd, F⟩ := c.def_ 14 (d := mkD "_law_is_number" 37) rfl; exact ⟨_, fd, F, He.glo_ok X G (c.fact 14 (f := .glo "_law_is_number") rfl)⟩),
    (by obtain ⟨fd, F⟩ := c.def_ 15 (d := mkD "_law_time" 38) rfl; exact ⟨_, fd, F, He.glo_ok X G (c.fact 15 (f := .glo "_law_time") rfl)⟩),
    (by obtain ⟨fd, F⟩ := c.def_ 16 (d := mkD "_law_span" 39) rfl; exact ⟨_, fd, F, He.glo_ok X G (c.fact 16 (f := .glo "_law_span") rfl)⟩),
    (by obtain ⟨fd, F⟩ := c.def_ 17 (d := mkD "_law_moment" 40) rfl; exact ⟨_, fd, F, He.glo_ok X G (c.fact 17 (f := .glo "_law_moment") rfl)⟩),
    (by obtain ⟨fd, F⟩ := c.def_ 18 (d := mkD "_law_read" 41) rfl; exact ⟨_, fd, F, He.glo_ok X G (c.fact 18 (f := .glo "_law_read") rfl)⟩),
    (by obtain ⟨fd, F⟩ := c.def_ 0 (d := mkD "law" 42) rfl; exact ⟨_, fd, F, He.glo_ok X G (c.fact 0 (f := .glo "law") rfl)⟩)⟩
end Rg
open PySem PySem.W PySem.Calls PyProof.Rows
theorem PySem.Challenge.cw_rangeends_k80_texts_of_spans_and_moments_holds : PySem.Challenge.rw_rangeends_k80_texts_of_spans_and_moments.Holds := by
  w_on; o_law
  refine HandSHeadRun.head_any (r := OpenLaw.row PySem.Challenge.rw_rangeends_k80_texts_of_spans_and_moments) (q := view (OpenLaw.row PySem.Challenge.rw_rangeends_k80_texts_of_spans_and_moments).prog [42]) (H := Rg.hk) (ob := Rg.ob) (M := 4000) (loose := Rg.loose) (d := HandSHeadRun.topDef (OpenLaw.row PySem.Challenge.rw_rangeends_k80_texts_of_spans_and_moments).prog 42) (kwd := []) Rg.ob_eq
    (by kernel_rfl) (fun s => by kernel_rfl) Rg.run (by kernel_rfl) (by kernel_rfl) (by kernel_rfl) (by rfl) (by first | assumption | decide +kernel) (by decide +kernel) ⟨rfl, rfl, rfl, rfl, rfl, by decide +kernel⟩ ?hw ?hc
  case hw => w_witness2
  case hc =>
    refine Rg.end_walk (l := PySem.Challenge.rw_rangeends_k80_texts_of_spans_and_moments) (n := 63) (k := 6) (x := "_law_script") rfl (by decide) (by kernel_rfl) ⟨rfl, by decide, by decide⟩ ?F
    intro w mg fa h Y G hmg0
    obtain ⟨K, KX, ex, c⟩ := Y
    have hmg : mg ("law" : PySem.Str) = some (.ref fa) := by
      have e : (HandSHeadRun.topDef (OpenLaw.row PySem.Challenge.rw_rangeends_k80_texts_of_spans_and_moments).prog 42).name = ("law" : PySem.Str) := by kernel_rfl
      rw [← e]
      exact hmg0
    obtain ⟨fd, F⟩ := c.def_ 0 (d := Rg.mkD "law" 42) rfl
    have e := hmg.symm.trans (He.glo_ok KX G (c.fact 0 (f := .glo "law") rfl))
    cases e
    have b := L2.FunD.bindsA (ps := ["_law_script"]) F fun _ _ _ _ _ _ us hl => match us, hl with | [_], _ => rfl
    exact ⟨K, fd, KX, fun s v => b s [v] rfl, fun base _ _ => Rg.f_law (Rg.facts KX G ex c) F (by decide)⟩
