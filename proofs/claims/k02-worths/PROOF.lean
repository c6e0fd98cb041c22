import PyProof.Rows.All
import Wide.All
import OpenK.AllK
import Wide.FinOn
import HandS.ForMost
import HandS.ForExc
import HandS.Flow
import HandS.IsInst
import HandS.Codes
import HandS.FStr
import HandS.StrMore
import HandS.Wide
import HandS.Conv
import HandS.ExcInit
import HandS.ExcField
import HandS.TryMany
import HandS.AnyAll
import HandS.TupMul
import HandS.TupAny
import HandS.WrittenGet
import PyProof.ReprReads
import PyProof.ReprRoads
import HandS.Deep
import HandS.Style
import HandS.RaiseMore
import HandS.Zip
import PyProof.StrBlock2
import PyProof.NeKinds
import HandS.Dict
import HandS.RevTup
import HandS.Defaults
import HandS.WordsExc
import HandS.HeadEnd
import PyProof.ReprLen
import PyProof.Rows.ReprOcc
import HandS.SortKw
import KE.DataMinMax
import HandS.Head0
import HandS.Head1
import HandS.Head2
import HandS.HeadHook1
import HandS.HeadHook2
import PySem.Challenge.RW_everso_k02_worths_of_anything
set_option Elab.async false
set_option linter.all false
set_option maxRecDepth 100000
set_option maxHeartbeats 2000000
namespace Dl
open PySem PySem.Spec L2

abbrev Dt := PyData
/-- a key as data -/
def kD : Key → Dt
  | .inl i => .int i
  | .inr x => .str x

mutual
/-- in the frozen part F a value stands for a datum -/
inductive Rp (K : PySem.W.Frag) (F : Hp) : V → Dt → Prop
  | non : Rp K F .non .none
  | bl (b : Bool) : Rp K F (.bl b) (.bool b)
  | int (i : Int) : Rp K F (.int i) (.int i)
  | str (x : Str) : Rp K F (.str x) (.str x)
  | lst {a : Addr} {xs : List V} {ds : List Dt} : F a = some (.lst xs) → RpAll K F xs ds → Rp K F (.ref a) (.list ds)
  | tup {a : Addr} {xs : List V} {ds : List Dt} : SqT K F a xs → RpAll K F xs ds → Rp K F (.ref a) (.tuple ds)
  | dct {a : Addr} {kvs : List (Key × V)} {es : List (Dt × Dt)} : F a = some (.dK kvs) → RpKv K F kvs es → Rp K F (.ref a) (.dict es)
inductive RpAll (K : PySem.W.Frag) (F : Hp) : List V → List Dt → Prop
  | nil : RpAll K F [] []
  | cons {v : V} {vs : List V} {d : Dt} {ds : List Dt} : Rp K F v d → RpAll K F vs ds → RpAll K F (v :: vs) (d :: ds)
inductive RpKv (K : PySem.W.Frag) (F : Hp) : List (Key × V) → List (Dt × Dt) → Prop
  | nil : RpKv K F [] []
  | cons {k : Key} {v : V} {d : Dt} {r : List (Key × V)} {es : List (Dt × Dt)} : Rp K F v d → RpKv K F r es → RpKv K F ((k, v) :: r) ((kD k, d) :: es)
end

theorem sqT_ext {K : PySem.W.Frag} {F F' : Hp} {a : Addr} {xs : List V} (e : Same F F') (h : SqT K F a xs) : SqT K F' a xs := by
  rcases h with (h | ⟨o, h⟩) | h
  · exact .inl (.inl (e _ _ h))
  · exact .inl (.inr ⟨o, e _ _ h⟩)
  · exact .inr h

section
variable {K : PySem.W.Frag} {F F' : Hp}
mutual
theorem Rp.ext (e : Same F F') : ∀ {v : V} (d : Dt), Rp K F v d → Rp K F' v d
  | _, .none, h => by cases h; exact .non
  | _, .bool b, h => by cases h; exact .bl b
  | _, .int i, h => by cases h; exact .int i
  | _, .str x, h => by cases h; exact .str x
  | _, .list ds, h => by
    cases h with
    | lst h1 h2 => exact .lst (e _ _ h1) (RpAll.ext e ds h2)
  | _, .tuple ds, h => by
    cases h with
    | tup h1 h2 => exact .tup (sqT_ext e h1) (RpAll.ext e ds h2)
  | _, .dict es, h => by
    cases h with
    | dct h1 h2 => exact .dct (e _ _ h1) (RpKv.ext e es h2)
theorem RpAll.ext (e : Same F F') : ∀ {vs : List V} (ds : List Dt), RpAll K F vs ds → RpAll K F' vs ds
  | _, [], h => by cases h; exact .nil
  | _, d :: ds, h => by
    cases h with
    | cons h1 h2 => exact .cons (Rp.ext e d h1) (RpAll.ext e ds h2)
theorem RpKv.ext (e : Same F F') : ∀ {kvs : List (Key × V)} (es : List (Dt × Dt)), RpKv K F kvs es → RpKv K F' kvs es
  | _, [], h => by cases h; exact .nil
  | _, (k, d) :: es, h => by
    cases h with
    | cons h1 h2 => exact .cons (Rp.ext e d h1) (RpKv.ext e es h2)
end
theorem Rp.ext' (e : Same F F') {v : V} {d : Dt} (h : Rp K F v d) : Rp K F' v d := Rp.ext e d h
theorem RpAll.ext' (e : Same F F') {v : List V} {d : List Dt} (h : RpAll K F v d) : RpAll K F' v d := RpAll.ext e d h
theorem RpAll.length : ∀ {vs : List V} {ds : List Dt}, RpAll K F vs ds → vs.length = ds.length
  | _, [], h => by cases h; rfl
  | _, d :: ds, h => by
    cases h with
    | cons h1 h2 => rw [List.length_cons, List.length_cons, RpAll.length h2]
theorem RpAll.app : ∀ {vs ws : List V} {ds es : List Dt}, RpAll K F vs ds → RpAll K F ws es → RpAll K F (vs ++ ws) (ds ++ es)
  | _, _, [], _, h, g => by cases h; exact g
  | _, _, d :: ds, _, h, g => by
    cases h with
    | cons h1 h2 => exact .cons h1 (h2.app g)
theorem RpAll.at : ∀ {vs : List V} {ds : List Dt} {i : Nat} {d : Dt}, RpAll K F vs ds → ds[i]? = some d → ∃ v, vs[i]? = some v ∧ Rp K F v d
  | _, [], _, _, _, e => by simp at e
  | _, x :: ds, 0, d, h, e => by
    cases h with
    | cons h1 h2 => simp at e; subst e; exact ⟨_, rfl, h1⟩
  | _, x :: ds, i + 1, d, h, e => by
    cases h with
    | cons h1 h2 =>
      obtain ⟨v, h3, h4⟩ := h2.at (by simpa using e)
      exact ⟨v, by simpa using h3, h4⟩
theorem RpAll.take : ∀ {vs : List V} {ds : List Dt} (n : Nat), RpAll K F vs ds → RpAll K F (vs.take n) (ds.take n)
  | _, _, 0, _ => by simp only [List.take_zero]; exact .nil
  | _, [], n + 1, h => by cases h; exact .nil
  | _, d :: ds, n + 1, h => by
    cases h with
    | cons h1 h2 => exact .cons h1 (h2.take n)
theorem RpAll.drop : ∀ {vs : List V} {ds : List Dt} (n : Nat), RpAll K F vs ds → RpAll K F (vs.drop n) (ds.drop n)
  | _, _, 0, h => h
  | _, [], n + 1, h => by cases h; exact .nil
  | _, d :: ds, n + 1, h => by
    cases h with
    | cons h1 h2 => exact h2.drop n
theorem RpAll.setAt : ∀ {vs : List V} {ds : List Dt} (n : Nat) {v : V} {d : Dt}, RpAll K F vs ds → Rp K F v d → RpAll K F (vs.set n v) (ds.set n d)
  | _, [], n, _, _, h, _ => by cases h; cases n <;> exact .nil
  | _, d :: ds, 0, _, _, h, g => by
    cases h with
    | cons h1 h2 => exact .cons g h2
  | _, d :: ds, n + 1, _, _, h, g => by
    cases h with
    | cons h1 h2 => exact .cons h1 (h2.setAt n g)
theorem RpAll.rev {vs : List V} {ds : List Dt} (h : RpAll K F vs ds) : RpAll K F vs.reverse ds.reverse := by
  induction ds generalizing vs with
  | nil => cases h; exact .nil
  | cons d ds ih =>
    cases h with
    | cons h1 h2 =>
      rw [List.reverse_cons, List.reverse_cons]
      exact (ih h2).app (.cons h1 .nil)
theorem RpAll.rep {vs : List V} {ds : List Dt} (h : RpAll K F vs ds) : ∀ k : Nat, RpAll K F (List.replicate k vs).flatten (List.replicate k ds).flatten
  | 0 => .nil
  | k + 1 => by
    rw [List.replicate_succ, List.replicate_succ, List.flatten_cons, List.flatten_cons]
    exact h.app (h.rep k)
theorem RpAll.ints : ∀ {vs : List V} {ns : List Int}, RpAll K F vs (ns.map PyData.int) → vs = ns.map V.int
  | _, [], h => by cases h; rfl
  | _, n :: ns, h => by
    cases h with
    | cons h1 h2 => cases h1; rw [RpAll.ints h2]; rfl
theorem RpAll.bools : ∀ {vs : List V} {ns : List Bool}, RpAll K F vs (ns.map PyData.bool) → vs = ns.map V.bl
  | _, [], h => by cases h; rfl
  | _, n :: ns, h => by
    cases h with
    | cons h1 h2 => cases h1; rw [RpAll.bools h2]; rfl
theorem RpAll.texts : ∀ {vs : List V} {ns : List Str}, RpAll K F vs (ns.map PyData.str) → vs = ns.map V.str
  | _, [], h => by cases h; rfl
  | _, n :: ns, h => by
    cases h with
    | cons h1 h2 => cases h1; rw [RpAll.texts h2]; rfl
theorem RpAll.ofTexts : ∀ (ns : List Str), RpAll K F (ns.map V.str) (ns.map PyData.str)
  | [] => .nil
  | n :: ns => .cons (.str n) (RpAll.ofTexts ns)
theorem RpAll.ofInts : ∀ (ns : List Int), RpAll K F (ns.map V.int) (ns.map PyData.int)
  | [] => .nil
  | n :: ns => .cons (.int n) (RpAll.ofInts ns)
end

/-! ### to the library's data -/
section
variable {K : PySem.W.Frag} {F H : Hp}
mutual
theorem Rp.dp (e : Same F H) : ∀ {v : V} (d : Dt), d.hasDict = false → Rp K F v d → Dp K H v d
  | _, .none, _, h => by cases h; exact .non
  | _, .bool b, _, h => by cases h; exact .bl b
  | _, .int i, _, h => by cases h; exact .int i
  | _, .str x, _, h => by cases h; exact .str x
  | _, .list ds, n, h => by
    cases h with
    | lst h1 h2 => exact .lst (SqL.of (e _ _ h1)) (RpAll.dp e ds (by simpa [PyData.hasDict] using n) h2)
  | _, .tuple ds, n, h => by
    cases h with
    | tup h1 h2 => exact .tup (sqT_ext e h1) (RpAll.dp e ds (by simpa [PyData.hasDict] using n) h2)
  | _, .dict es, n, h => by simp [PyData.hasDict] at n
theorem RpAll.dp (e : Same F H) : ∀ {vs : List V} (ds : List Dt), PyData.hasDictAll ds = false → RpAll K F vs ds → DpAll K H vs ds
  | _, [], _, h => by cases h; exact .nil
  | _, d :: ds, n, h => by
    have n' : d.hasDict = false ∧ PyData.hasDictAll ds = false := by simpa [PyData.hasDictAll] using n
    cases h with
    | cons h1 h2 => exact .cons (Rp.dp e d n'.1 h1) (RpAll.dp e ds n'.2 h2)
end
end

/-! ### what goes through a going -/
/-- the addresses of the hand's list and of its cells' list -/
abbrev Hd := Option (Addr × Addr)
def InHd : Hd → Addr → Prop
  | none, _ => False
  | some (x, c), a => a = x ∨ a = c
/-- the hand stands, n draws may still be made -/
def HandOk (hd : Hd) (n : Nat) (H : Hp) : Prop := match hd with
  | none => True
  | some (x, c) => x ≠ c ∧ ∃ (cs : List Int) (t k : Int), H x = some (.lst [.ref c, .int t, .int k]) ∧ H c = some (.lst (cs.map V.int)) ∧ cs.length ≤ 1000 ∧ t.natAbs < 2 ^ 62 ∧ 0 ≤ k ∧ k + n ≤ 2 ^ 62
theorem HandOk.mono {hd : Hd} {n m : Nat} {H : Hp} (h : HandOk hd n H) (l : m ≤ n) : HandOk hd m H := by
  cases hd with
  | none => trivial
  | some p =>
    obtain ⟨h1, cs, t, k, h2, h3, h4, h5, h6, h7⟩ := h
    exact ⟨h1, cs, t, k, h2, h3, h4, h5, h6, by omega⟩
theorem HandOk.there {hd : Hd} {n : Nat} {H : Hp} (h : HandOk hd n H) {a : Addr} (i : InHd hd a) : ∃ o, H a = some o := by
  cases hd with
  | none => exact i.elim
  | some p =>
    obtain ⟨h1, cs, t, k, h2, h3, _⟩ := h
    rcases i with rfl | rfl
    · exact ⟨_, h2⟩
    · exact ⟨_, h3⟩

/-- from (F0, H0) the going came to (F, H): F is frozen, what was tracked stays but for the hand -/
structure RelB (hd : Hd) (F0 H0 F H : Hp) (n : Nat) : Prop where
  sub : Same F H
  f0 : Same F0 F
  h0 : ∀ b o, H0 b = some o → ¬ InHd hd b → H b = some o
  fnew : ∀ b o, F b = some o → F0 b = some o ∨ H0 b = none
  hand : HandOk hd n H
  hfree : ∀ b, InHd hd b → F b = none
theorem RelB.refl {hd : Hd} {F0 H0 F H : Hp} {n : Nat} (r : RelB hd F0 H0 F H n) : RelB hd F H F H n :=
  ⟨r.sub, Same.refl _, fun _ _ h _ => h, fun _ _ h => .inl h, r.hand, r.hfree⟩
theorem RelB.trans {hd : Hd} {F0 H0 F H F' H' : Hp} {n n' : Nat} (a : RelB hd F0 H0 F H n) (b : RelB hd F H F' H' n') : RelB hd F0 H0 F' H' n' where
  sub := b.sub
  f0 := a.f0.trans b.f0
  h0 := fun x o h i => b.h0 x o (a.h0 x o h i) i
  fnew := fun x o h => by
    rcases b.fnew x o h with q | q
    · exact a.fnew x o q
    · right
      cases e : H0 x with
      | none => rfl
      | some u =>
        by_cases i : InHd hd x
        · obtain ⟨o', z⟩ := a.hand.there i
          rw [q] at z; cases z
        · have := a.h0 x u e i
          rw [q] at this; cases this
  hand := b.hand
  hfree := b.hfree
theorem RelB.less {hd : Hd} {F0 H0 F H : Hp} {n m : Nat} (r : RelB hd F0 H0 F H n) (l : m ≤ n) : RelB hd F0 H0 F H m := ⟨r.sub, r.f0, r.h0, r.fnew, r.hand.mono l, r.hfree⟩

/-- a new object that is frozen at once -/
theorem RelB.lay {hd : Hd} {F0 H0 F H : Hp} {n : Nat} {p : Addr} {o : HO} (r : RelB hd F0 H0 F H n) (np : H p = none) : RelB hd F0 H0 (upd F p o) (upd H p o) n := by
  have fp : F p = none := by
    cases e : F p with
    | none => rfl
    | some u => rw [r.sub p u e] at np; cases np
  have ni : ∀ b, InHd hd b → b ≠ p := fun b i e => by
    obtain ⟨u, z⟩ := r.hand.there i
    rw [e, np] at z; cases z
  refine ⟨fun b u h => ?_, fun b u h => ?_, fun b u h i => ?_, fun b u h => ?_, ?_, fun b i => ?_⟩
  · by_cases e : b = p
    · subst e; rw [upd_same] at h ⊢; exact h
    · rw [upd_ne e] at h ⊢; exact r.sub b u h
  · have e : b ≠ p := fun e => by
      have := r.f0 b u h
      rw [e, fp] at this; cases this
    rw [upd_ne e]; exact r.f0 b u h
  · have e : b ≠ p := fun e => by
      have := r.h0 b u h i
      rw [e, np] at this; cases this
    rw [upd_ne e]; exact r.h0 b u h i
  · by_cases e : b = p
    · subst e
      right
      cases q : H0 b with
      | none => rfl
      | some u =>
        by_cases i : InHd hd b
        · exact absurd rfl (ni b i)
        · have := r.h0 b u q i
          rw [np] at this; cases this
    · rw [upd_ne e] at h; exact r.fnew b u h
  · cases hd with
    | none => trivial
    | some q =>
      obtain ⟨h1, cs, t, k, h2, h3, h4⟩ := r.hand
      exact ⟨h1, cs, t, k, by rw [upd_ne (ni _ (.inl rfl))]; exact h2, by rw [upd_ne (ni _ (.inr rfl))]; exact h3, h4⟩
  · rw [upd_ne (ni b i)]; exact r.hfree b i
/-- a new object that is not frozen -/
theorem RelB.layH {hd : Hd} {F0 H0 F H : Hp} {n : Nat} {p : Addr} {o : HO} (r : RelB hd F0 H0 F H n) (np : H p = none) : RelB hd F0 H0 F (upd H p o) n := by
  have q := r.lay (o := o) np
  have fp : F p = none := by
    cases e : F p with
    | none => rfl
    | some u => rw [r.sub p u e] at np; cases np
  exact ⟨fun b u h => by rw [upd_ne (fun e => by rw [e, fp] at h; cases h)]; exact r.sub b u h, r.f0, q.h0, r.fnew, q.hand, r.hfree⟩
/-- a list that is ours alone is frozen -/
theorem RelB.freeze {hd : Hd} {F0 H0 F H : Hp} {n : Nat} {p : Addr} {o : HO} (r : RelB hd F0 H0 F H n) (hp : H p = some o) (fp : F p = none) (h0 : H0 p = none) (ni : ¬ InHd hd p) : RelB hd F0 H0 (upd F p o) H n := by
  refine ⟨fun b u h => ?_, fun b u h => ?_, r.h0, fun b u h => ?_, r.hand, fun b i => ?_⟩
  · by_cases e : b = p
    · subst e; rw [upd_same] at h; rw [hp]; exact h
    · rw [upd_ne e] at h; exact r.sub b u h
  · have e : b ≠ p := fun e => by
      have := r.f0 b u h
      rw [e, fp] at this; cases this
    rw [upd_ne e]; exact r.f0 b u h
  · by_cases e : b = p
    · subst e; exact .inr h0
    · rw [upd_ne e] at h; exact r.fnew b u h
  · rw [upd_ne (fun e => ni (by rw [← e]; exact i))]; exact r.hfree b i
/-- a list that is ours alone is changed -/
theorem RelB.change {hd : Hd} {F0 H0 F H : Hp} {n : Nat} {p : Addr} {o : HO} (r : RelB hd F0 H0 F H n) (fp : F p = none) (h0 : H0 p = none) (ni : ¬ InHd hd p) : RelB hd F0 H0 F (upd H p o) n := by
  refine ⟨fun b u h => ?_, r.f0, fun b u h i => ?_, r.fnew, ?_, r.hfree⟩
  · rw [upd_ne (fun e => by rw [e, fp] at h; cases h)]; exact r.sub b u h
  · rw [upd_ne (fun e => by rw [e, h0] at h; cases h)]; exact r.h0 b u h i
  · cases hd with
    | none => trivial
    | some q =>
      obtain ⟨h1, cs, t, k, h2, h3, h4⟩ := r.hand
      exact ⟨h1, cs, t, k, by rw [upd_ne (fun e => ni (.inl e.symm))]; exact h2, by rw [upd_ne (fun e => ni (.inr e.symm))]; exact h3, h4⟩

/-! ### slots -/
/-- what a name holds: nothing that is known, a datum, a list of its own, the hand -/
inductive Ds where
  | no
  | d (x : Dt)
  | own (xs : List Dt)
  | hand
def SlotOk (K : PySem.W.Frag) (hd : Hd) (H0 F H : Hp) (s : Ds) (o : Option (Option V)) : Prop := match s with
  | .no => True
  | .d x => ∃ v, o = some (some v) ∧ Rp K F v x
  | .own xs => ∃ (a : Addr) (vs : List V), o = some (some (.ref a)) ∧ F a = none ∧ H0 a = none ∧ ¬ InHd hd a ∧ H a = some (.lst vs) ∧ RpAll K F vs xs
  | .hand => ∃ x c, hd = some (x, c) ∧ o = some (some (.ref x))
structure Rel (K : PySem.W.Frag) (hd : Hd) (F0 H0 F : Hp) (σ : St) (H : Hp) (δ : List Ds) (n : Nat) : Prop where
  b : RelB hd F0 H0 F H n
  len : σ.length = δ.length
  slot : ∀ (i : Nat) (s : Ds), δ[i]? = some s → SlotOk K hd H0 F H s σ[i]?
  own : ∀ (i j : Nat) (xs ys : List Dt) (a : Addr), δ[i]? = some (.own xs) → δ[j]? = some (.own ys) → σ[i]? = some (some (.ref a)) → σ[j]? = some (some (.ref a)) → i = j
section
variable {K : PySem.W.Frag} {hd : Hd} {F0 H0 F F' H H' : Hp} {σ : St} {δ : List Ds} {n n' : Nat}
theorem SlotOk.ext (r : RelB hd F0 H0 F H n) (e : RelB hd F H F' H' n') {s : Ds} {o : Option (Option V)} (h : SlotOk K hd H0 F H s o) : SlotOk K hd H0 F' H' s o := by
  cases s with
  | no => trivial
  | d x =>
    obtain ⟨v, h1, h2⟩ := h
    exact ⟨v, h1, h2.ext' e.f0⟩
  | own xs =>
    obtain ⟨a, vs, h1, h2, h3, h4, h5, h6⟩ := h
    refine ⟨a, vs, h1, ?_, h3, h4, e.h0 _ _ h5 h4, h6.ext' e.f0⟩
    cases q : F' a with
    | none => rfl
    | some u =>
      rcases e.fnew a u q with z | z
      · rw [h2] at z; cases z
      · rw [h5] at z; cases z
  | hand => exact h
/-- behind an expression -/
theorem Rel.ext (r : Rel K hd F0 H0 F σ H δ n) (e : RelB hd F H F' H' n') : Rel K hd F0 H0 F' σ H' δ n' :=
  ⟨r.b.trans e, r.len, fun i s h => (r.slot i s h).ext r.b e, r.own⟩
theorem Rel.less {m : Nat} (r : Rel K hd F0 H0 F σ H δ n) (l : m ≤ n) : Rel K hd F0 H0 F σ H δ m := ⟨r.b.less l, r.len, r.slot, r.own⟩
/-- a name is a datum -/
theorem Rel.put (r : Rel K hd F0 H0 F σ H δ n) (i : Nat) {v : V} {x : Dt} (h : Rp K F v x) : Rel K hd F0 H0 F (σ.set i (some v)) H (δ.set i (.d x)) n := by
  refine ⟨r.b, by rw [List.length_set, List.length_set]; exact r.len, fun j s e => ?_, fun j k xs ys a h1 h2 h3 h4 => ?_⟩
  · by_cases q : i = j
    · subst q
      have hl : i < δ.length := by
        by_cases z : i < δ.length
        · exact z
        · rw [List.getElem?_eq_none (by simpa using z)] at e; cases e
      rw [List.getElem?_set_self hl] at e
      cases e
      exact ⟨v, by rw [List.getElem?_set_self (by rw [r.len]; exact hl)], h⟩
    · rw [List.getElem?_set_ne q] at e ⊢
      exact r.slot j s e
  · have ne : ∀ (j : Nat) (xs : List Dt), (δ.set i (.d x))[j]? = some (.own xs) → i ≠ j := fun j xs e q => by
      subst q
      by_cases z : i < δ.length
      · rw [List.getElem?_set_self z] at e; cases e
      · rw [List.getElem?_eq_none (by simpa using z)] at e; cases e
    have n1 := ne j xs h1
    have n2 := ne k ys h2
    rw [List.getElem?_set_ne n1] at h1 h3
    rw [List.getElem?_set_ne n2] at h2 h4
    exact r.own j k xs ys a h1 h2 h3 h4
/-- a name is a list of its own -/
theorem Rel.putOwn (r : Rel K hd F0 H0 F σ H δ n) (i : Nat) {a : Addr} {vs : List V} {xs : List Dt} (h1 : F a = none) (h2 : H0 a = none) (h3 : ¬ InHd hd a) (h4 : H a = some (.lst vs)) (h5 : RpAll K F vs xs)
    (nw : ∀ (j : Nat) (ys : List Dt), δ[j]? = some (.own ys) → σ[j]? ≠ some (some (.ref a))) : Rel K hd F0 H0 F (σ.set i (some (.ref a))) H (δ.set i (.own xs)) n := by
  refine ⟨r.b, by rw [List.length_set, List.length_set]; exact r.len, fun j s e => ?_, fun j k ys zs b e1 e2 e3 e4 => ?_⟩
  · by_cases q : i = j
    · subst q
      have hl : i < δ.length := by
        by_cases z : i < δ.length
        · exact z
        · rw [List.getElem?_eq_none (by simpa using z)] at e; cases e
      rw [List.getElem?_set_self hl] at e
      cases e
      exact ⟨a, vs, by rw [List.getElem?_set_self (by rw [r.len]; exact hl)], h1, h2, h3, h4, h5⟩
    · rw [List.getElem?_set_ne q] at e ⊢
      exact r.slot j s e
  · by_cases qj : i = j
    · by_cases qk : i = k
      · rw [← qj, ← qk]
      · subst qj
        rw [List.getElem?_set_ne qk] at e2 e4
        have hl : i < σ.length := by
          by_cases z : i < σ.length
          · exact z
          · rw [List.getElem?_eq_none (by simpa using z)] at e3; cases e3
        rw [List.getElem?_set_self hl] at e3
        cases e3
        exact absurd e4 (nw k zs e2)
    · by_cases qk : i = k
      · subst qk
        rw [List.getElem?_set_ne qj] at e1 e3
        have hl : i < σ.length := by
          by_cases z : i < σ.length
          · exact z
          · rw [List.getElem?_eq_none (by simpa using z)] at e4; cases e4
        rw [List.getElem?_set_self hl] at e4
        cases e4
        exact absurd e3 (nw j ys e1)
      · rw [List.getElem?_set_ne qj] at e1 e3
        rw [List.getElem?_set_ne qk] at e2 e4
        exact r.own j k ys zs b e1 e2 e3 e4
/-- what is new is nobody's own -/
theorem Rel.fresh (r : Rel K hd F0 H0 F σ H δ n) {a : Addr} (na : H a = none) (j : Nat) (ys : List Dt) (e : δ[j]? = some (.own ys)) : σ[j]? ≠ some (some (.ref a)) := fun q => by
  obtain ⟨b, vs, h1, _, _, _, h5, _⟩ := r.slot j _ e
  rw [q] at h1
  cases h1
  rw [na] at h5; cases h5
end
end Dl
namespace Dl
open PySem PySem.Spec L2

/-! ### meanings -/
/-- an exception: its class, its fields -/
abbrev Ex := Value × List (Str × Dt)
abbrev Wx := Ex → Nat → Prop
/-- what is wanted of a result and of the draws that are left -/
abbrev Kd (α : Type) := α → Nat → Prop
/-- a meaning by values alone -/
abbrev Mv (α : Type) := Nat → Kd α → Wx → Prop
/-- a meaning by the names' slots -/
abbrev Me (α : Type) := List Ds → Mv α
def ret {α : Type} (a : α) : Mv α := fun n Q _ => Q a n
def bnd {α β : Type} (m : Mv α) (f : α → Mv β) : Mv β := fun n Q W => m n (fun a n1 => f a n1 Q W) W
/-- under a condition -/
def grd {α : Type} (c : Prop) (m : Mv α) : Mv α := fun n Q W => c ∧ m n Q W
def bad {α : Type} : Mv α := fun _ _ _ => False
theorem bnd_ret {α β : Type} (a : α) (f : α → Mv β) : bnd (ret a) f = f a := rfl
theorem ret_bnd {α : Type} (m : Mv α) : bnd m ret = m := rfl
theorem bnd_bnd {α β γ : Type} (m : Mv α) (f : α → Mv β) (g : β → Mv γ) : bnd (bnd m f) g = bnd m fun a => bnd (f a) g := rfl
theorem grd_true {α : Type} {c : Prop} (h : c) (m : Mv α) : grd c m = m := by
  funext n Q W
  exact propext ⟨fun x => x.2, fun x => ⟨h, x⟩⟩
theorem ite_ret {α : Type} {c : Prop} [Decidable c] (a b : α) : (if c then (ret a : Mv α) else ret b) = ret (if c then a else b) := by
  split <;> rfl

/-! ### the ground of a going -/
structure Gh where
  hd : Hd
  F0 : Hp
  H0 : Hp
  W : Wx
abbrev Gh.B (g : Gh) (F H : Hp) (n : Nat) : Prop := RelB g.hd g.F0 g.H0 F H n
abbrev Gh.R (g : Gh) (K : PySem.W.Frag) (F : Hp) (σ : L2.St) (H : Hp) (δ : List Ds) (n : Nat) : Prop := Rel K g.hd g.F0 g.H0 F σ H δ n
/-- fields of an exception -/
inductive RpF (K : PySem.W.Frag) (F : Hp) : List (Str × V) → List (Str × Dt) → Prop
  | nil : RpF K F [] []
  | cons {x : Str} {v : V} {d : Dt} {r : List (Str × V)} {s : List (Str × Dt)} : Rp K F v d → RpF K F r s → RpF K F ((x, v) :: r) ((x, d) :: s)
def ExAt (K : PySem.W.Frag) (F H : Hp) (d : Option Addr) (fs : List (Str × Dt)) : Prop := match d with
  | none => fs = []
  | some a => ∃ fv, H a = some (.xd fv) ∧ RpF K F fv fs
/-- what is wanted of what is raised -/
def EOf (K : PySem.W.Frag) (g : Gh) : XK := fun cls d H' => ∃ (fs : List (Str × Dt)) (n' : Nat) (F' : Hp), g.B F' H' n' ∧ ExAt K F' H' d fs ∧ g.W (cls, fs) n'
structure XOk (X : Cx) (g : Gh) : Prop where
  calm : X.calm = true
  own : PassesOwn (model X.prog X.w) X.A X.env X.xe
  guards : X.A.guards = some []
  nd : X.N.Nodup
  pass : Passes (L2.CX X.prog X.w) X (EOf X.K g)

/-! ### judgements -/
/-- an expression is a datum -/
def DE (X : Cx) (g : Gh) (e : Expr) (m : Me Dt) : Prop := ∃ t : TE, PE X e t ∧ ∀ (σ : L2.St) (H F : Hp) (δ : List Ds) (n : Nat) (Q : VK) (Qd : Kd Dt), g.R X.K F σ H δ n →
  (∀ v d F' H' n', RelB g.hd F H F' H' n' → Rp X.K F' v d → Qd d n' → Q v H') → m δ n Qd g.W → t σ H Q
/-- .. a list that is to be read at once -/
def DL (X : Cx) (g : Gh) (e : Expr) (m : Me (List Dt)) : Prop := ∃ t : TE, PE X e t ∧ ∀ (σ : L2.St) (H F : Hp) (δ : List Ds) (n : Nat) (Q : VK) (Qd : Kd (List Dt)), g.R X.K F σ H δ n →
  (∀ a vs ds F' H' n', RelB g.hd F H F' H' n' → H' a = some (.lst vs) → ¬ InHd g.hd a → RpAll X.K F' vs ds → Qd ds n' → Q (.ref a) H') → m δ n Qd g.W → t σ H Q
/-- .. a new list -/
def DN (X : Cx) (g : Gh) (e : Expr) (m : Me (List Dt)) : Prop := ∃ t : TE, PE X e t ∧ ∀ (σ : L2.St) (H F : Hp) (δ : List Ds) (n : Nat) (Q : VK) (Qd : Kd (List Dt)), g.R X.K F σ H δ n →
  (∀ a vs ds F' H' n', RelB g.hd F H F' H' n' → H a = none → F' a = none → H' a = some (.lst vs) → RpAll X.K F' vs ds → Qd ds n' → Q (.ref a) H') → m δ n Qd g.W → t σ H Q
/-- a test -/
def DT (X : Cx) (g : Gh) (e : Expr) (m : Me Bool) : Prop := ∃ t : TT, PT X e t ∧ ∀ (σ : L2.St) (H F : Hp) (δ : List Ds) (n : Nat) (Q : Bool → Hp → Prop) (Qd : Kd Bool), g.R X.K F σ H δ n →
  (∀ b F' H' n', RelB g.hd F H F' H' n' → Qd b n' → Q b H') → m δ n Qd g.W → t σ H Q
/-- an argument -/
inductive Da where
  | d (x : Dt)
  | hand
def DaOk (K : PySem.W.Frag) (hd : Hd) (F : Hp) : V → Da → Prop
  | v, .d x => Rp K F v x
  | v, .hand => ∃ x c, hd = some (x, c) ∧ v = .ref x
inductive DasOk (K : PySem.W.Frag) (hd : Hd) (F : Hp) : List V → List Da → Prop
  | nil : DasOk K hd F [] []
  | cons {v : V} {vs : List V} {a : Da} {as : List Da} : DaOk K hd F v a → DasOk K hd F vs as → DasOk K hd F (v :: vs) (a :: as)
theorem DaOk.ext {K : PySem.W.Frag} {hd : Hd} {F F' : Hp} (e : Same F F') {v : V} {a : Da} (h : DaOk K hd F v a) : DaOk K hd F' v a := by
  cases a with
  | d x => exact Rp.ext' e h
  | hand => exact h
theorem DasOk.ext {K : PySem.W.Frag} {hd : Hd} {F F' : Hp} (e : Same F F') : ∀ {vs : List V} {as : List Da}, DasOk K hd F vs as → DasOk K hd F' vs as
  | _, _, .nil => .nil
  | _, _, .cons h t => .cons (h.ext e) (t.ext e)
/-- an expression as an argument -/
def DA1 (X : Cx) (g : Gh) (e : Expr) (m : Me Da) : Prop := ∃ t : TE, PE X e t ∧ ∀ (σ : L2.St) (H F : Hp) (δ : List Ds) (n : Nat) (Q : VK) (Qd : Kd Da), g.R X.K F σ H δ n →
  (∀ v d F' H' n', RelB g.hd F H F' H' n' → DaOk X.K g.hd F' v d → Qd d n' → Q v H') → m δ n Qd g.W → t σ H Q
def DAs (X : Cx) (g : Gh) (es : List Expr) (m : Me (List Da)) : Prop := ∃ t : TA, PA X es t ∧ ∀ (σ : L2.St) (H F : Hp) (δ : List Ds) (n : Nat) (Q : List V → Hp → Prop) (Qd : Kd (List Da)), g.R X.K F σ H δ n →
  (∀ vs ds F' H' n', RelB g.hd F H F' H' n' → DasOk X.K g.hd F' vs ds → Qd ds n' → Q vs H') → m δ n Qd g.W → t σ H Q
/-- a list of expressions that are data -/
def DEs (X : Cx) (g : Gh) (es : List Expr) (m : Me (List Dt)) : Prop := ∃ t : TA, PA X es t ∧ ∀ (σ : L2.St) (H F : Hp) (δ : List Ds) (n : Nat) (Q : List V → Hp → Prop) (Qd : Kd (List Dt)), g.R X.K F σ H δ n →
  (∀ vs ds F' H' n', RelB g.hd F H F' H' n' → RpAll X.K F' vs ds → Qd ds n' → Q vs H') → m δ n Qd g.W → t σ H Q

section
variable {X : Cx} {g : Gh} {a b c e : Expr} {es : List Expr} {pos : Pos} {ma mb : Me Dt}

/-! ### from one to another -/
theorem DN.dat {m : Me (List Dt)} (h : DN X g e m) : DE X g e (fun δ => bnd (m δ) fun ds => ret (.list ds)) := by
  obtain ⟨t, p, h⟩ := h
  refine ⟨t, p, fun σ H F δ n Q Qd r q w => h σ H F δ n Q _ r (fun a vs ds F' H' n' rb na fa ha hd hq => ?_) w⟩
  have z : ¬ InHd g.hd a := fun i => by
    obtain ⟨o, ho⟩ := r.b.hand.there i
    rw [na] at ho; cases ho
  have rb' := rb.freeze ha fa na z
  exact q _ _ _ _ _ rb' (.lst upd_same (hd.ext' fun x o e => by
    rw [upd_ne (fun y => by rw [y, fa] at e; cases e)]; exact e)) hq
theorem DN.lst {m : Me (List Dt)} (h : DN X g e m) : DL X g e m := by
  obtain ⟨t, p, h⟩ := h
  refine ⟨t, p, fun σ H F δ n Q Qd r q w => h σ H F δ n Q _ r (fun a vs ds F' H' n' rb na fa ha hd hq => q a vs ds F' H' n' rb ha (fun i => ?_) hd hq) w⟩
  obtain ⟨o, ho⟩ := r.b.hand.there i
  rw [na] at ho; cases ho
/-- a datum that is a list, read -/
def asL (d : Dt) : Mv (List Dt) := match d with
  | .list ds => ret ds
  | _ => bad
theorem DE.lst {m : Me Dt} (h : DE X g e m) : DL X g e (fun δ => bnd (m δ) asL) := by
  obtain ⟨t, p, h⟩ := h
  refine ⟨t, p, fun σ H F δ n Q Qd r q w => h σ H F δ n Q _ r (fun v d F' H' n' rb rp hq => ?_) w⟩
  cases d with
  | list ds =>
    cases rp with
    | lst h1 h2 =>
      refine q _ _ _ _ _ _ rb (rb.sub _ _ h1) (fun i => ?_) h2 hq
      rw [rb.hfree _ i] at h1; cases h1
  | _ => exact hq.elim
theorem DE.arg (h : DE X g e ma) : DA1 X g e (fun δ => bnd (ma δ) fun d => ret (.d d)) := by
  obtain ⟨t, p, h⟩ := h
  exact ⟨t, p, fun σ H F δ n Q Qd r q w => h σ H F δ n Q _ r (fun v d F' H' n' rb rp hq => q v (.d d) F' H' n' rb rp hq) w⟩

/-! ### names, constants -/
def sl (i : Nat) : Me Dt := fun δ => match δ[i]? with
  | some (.d x) => ret x
  | _ => bad
theorem de_var (i : Nat) {x : Str} (hN : X.N[i]? = some x := by rfl) (hv : Vis X.env.scope x := by first | exact Or.inl rfl | exact Or.inr (Or.inl rfl) | exact Or.inr (Or.inr rfl)) (hd : (x == ("__debug__" : Str)) = false := by decide)
    (hcd : (x == ("__classdict__" : Str)) = false := by decide) : DE X g (.Name x pos) (sl i) := by
  refine ⟨_, pe_var (i := i) hN hv hd hcd, fun σ H F δ n Q Qd r q w => ?_⟩
  unfold sl at w
  cases e : δ[i]? with
  | none => rw [e] at w; exact w.elim
  | some s =>
    rw [e] at w
    cases s with
    | d x =>
      obtain ⟨v, h1, h2⟩ := r.slot i _ e
      exact ⟨v, h1, q v x F H n r.b.refl h2 w⟩
    | _ => exact w.elim
def slO (i : Nat) : Me (List Dt) := fun δ => match δ[i]? with
  | some (.own xs) => ret xs
  | some (.d (.list xs)) => ret xs
  | _ => bad
theorem dl_var (i : Nat) {x : Str} (hN : X.N[i]? = some x := by rfl) (hv : Vis X.env.scope x := by first | exact Or.inl rfl | exact Or.inr (Or.inl rfl) | exact Or.inr (Or.inr rfl)) (hd : (x == ("__debug__" : Str)) = false := by decide)
    (hcd : (x == ("__classdict__" : Str)) = false := by decide) : DL X g (.Name x pos) (slO i) := by
  refine ⟨_, pe_var (i := i) hN hv hd hcd, fun σ H F δ n Q Qd r q w => ?_⟩
  unfold slO at w
  cases e : δ[i]? with
  | none => rw [e] at w; exact w.elim
  | some s =>
    rw [e] at w
    cases s with
    | own xs =>
      obtain ⟨a, vs, h1, h2, h3, h4, h5, h6⟩ := r.slot i _ e
      exact ⟨_, h1, q a vs xs F H n r.b.refl h5 h4 h6 w⟩
    | d x =>
      cases x with
      | list xs =>
        obtain ⟨v, h1, h2⟩ := r.slot i _ e
        cases h2 with
        | lst h3 h4 =>
          refine ⟨_, h1, q _ _ xs F H n r.b.refl (r.b.sub _ _ h3) (fun i => ?_) h4 w⟩
          rw [r.b.hfree _ i] at h3; cases h3
      | _ => exact w.elim
    | _ => exact w.elim
def slH (i : Nat) : Me Da := fun δ => match δ[i]? with
  | some .hand => ret .hand
  | _ => bad
theorem da_hand (i : Nat) {x : Str} (hN : X.N[i]? = some x := by rfl) (hv : Vis X.env.scope x := by first | exact Or.inl rfl | exact Or.inr (Or.inl rfl) | exact Or.inr (Or.inr rfl)) (hd : (x == ("__debug__" : Str)) = false := by decide)
    (hcd : (x == ("__classdict__" : Str)) = false := by decide) : DA1 X g (.Name x pos) (slH i) := by
  refine ⟨_, pe_var (i := i) hN hv hd hcd, fun σ H F δ n Q Qd r q w => ?_⟩
  unfold slH at w
  cases e : δ[i]? with
  | none => rw [e] at w; exact w.elim
  | some s =>
    rw [e] at w
    cases s with
    | hand =>
      obtain ⟨x, c, h1, h2⟩ := r.slot i _ e
      exact ⟨_, h2, q _ .hand F H n r.b.refl ⟨x, c, h1, rfl⟩ w⟩
    | _ => exact w.elim
/-- a constant -/
theorem de_c {v : V} {d : Dt} (h : PE X e (tC v)) (k : ∀ F, Rp X.K F v d) : DE X g e (fun _ => ret d) :=
  ⟨_, h, fun σ H F δ n Q Qd r q w => q v d F H n r.b.refl (k F) w⟩
theorem de_int {i : Int} {j : Nat} : DE X g (.Constant (.int i) j pos) (fun _ => ret (.int i)) := de_c pe_int fun _ => .int i
theorem de_str {x : Str} {j : Nat} : DE X g (.Constant (.str x) j pos) (fun _ => ret (.str x)) := de_c pe_str fun _ => .str x
theorem de_bl {x : Bool} {j : Nat} : DE X g (.Constant (.bool x) j pos) (fun _ => ret (.bool x)) := de_c pe_bl fun _ => .bl x
theorem de_non {j : Nat} : DE X g (.Constant .none j pos) (fun _ => ret .none) := de_c pe_non fun _ => .non
/-- a module's constant -/
theorem de_gl {x : Str} {v : V} {d : Dt} {u : Value} (hg : Gl X x) (hm : X.mg x = some u) (r : RelV v u) (k : ∀ F, Rp X.K F v d) (hd : (x == ("__debug__" : Str)) = false := by decide) : DE X g (.Name x pos) (fun _ => ret d) :=
  de_c (pe_glob hg hm r hd) k

/-! ### arguments, displays -/
theorem das_nil : DAs X g [] (fun _ => ret []) := ⟨_, pa_nil, fun σ H F δ n Q Qd r q w => q [] [] F H n r.b.refl .nil w⟩
theorem das_cons {m : Me Da} {mr : Me (List Da)} (h : DA1 X g e m) (hr : DAs X g es mr) (hs : starEach (e :: es) X.env = (false, eval e X.env) :: starEach es X.env := by rfl) :
    DAs X g (e :: es) (fun δ => bnd (m δ) fun x => bnd (mr δ) fun xs => ret (x :: xs)) := by
  obtain ⟨t, p, h⟩ := h
  obtain ⟨tr, pr, hr⟩ := hr
  refine ⟨_, pa_cons p pr hs, fun σ H F δ n Q Qd r q w => h σ H F δ n _ _ r (fun v d F1 H1 n1 rb rp hq => ?_) w⟩
  refine hr σ H1 F1 δ n1 _ _ (r.ext rb) (fun vs ds F2 H2 n2 rb2 rp2 hq2 => ?_) hq
  exact q _ _ F2 H2 n2 (rb.trans rb2) (.cons (rp.ext rb2.f0) rp2) hq2
theorem des_nil : DEs X g [] (fun _ => ret []) := ⟨_, pa_nil, fun σ H F δ n Q Qd r q w => q [] [] F H n r.b.refl .nil w⟩
theorem des_cons {m : Me Dt} {mr : Me (List Dt)} (h : DE X g e m) (hr : DEs X g es mr) (hs : starEach (e :: es) X.env = (false, eval e X.env) :: starEach es X.env := by rfl) :
    DEs X g (e :: es) (fun δ => bnd (m δ) fun x => bnd (mr δ) fun xs => ret (x :: xs)) := by
  obtain ⟨t, p, h⟩ := h
  obtain ⟨tr, pr, hr⟩ := hr
  refine ⟨_, pa_cons p pr hs, fun σ H F δ n Q Qd r q w => h σ H F δ n _ _ r (fun v d F1 H1 n1 rb rp hq => ?_) w⟩
  refine hr σ H1 F1 δ n1 _ _ (r.ext rb) (fun vs ds F2 H2 n2 rb2 rp2 hq2 => ?_) hq
  exact q _ _ F2 H2 n2 (rb.trans rb2) (.cons (rp.ext' rb2.f0) rp2) hq2
theorem fresh_ext {F H : Hp} {p : Addr} {o : HO} (s : Same F H) (np : H p = none) : Same F (upd F p o) := fun x u e => by
  rw [upd_ne (fun y => by rw [y] at e; have := s _ _ e; rw [np] at this; cases this)]; exact e
theorem free_of {F H : Hp} {p : Addr} (s : Same F H) (np : H p = none) : F p = none := by
  cases e : F p with
  | none => rfl
  | some u => rw [s p u e] at np; cases np
theorem RelB.old {hd : Hd} {F0 H0 F H : Hp} {n : Nat} {p : Addr} (r : RelB hd F0 H0 F H n) (h0 : ∀ b, InHd hd b → ∃ o, H b = some o) (np : H p = none) : H0 p = none := by
  cases e : H0 p with
  | none => rfl
  | some u =>
    by_cases i : InHd hd p
    · obtain ⟨o, z⟩ := h0 p i; rw [np] at z; cases z
    · rw [r.h0 p u e i] at np; cases np
theorem de_tup {m : Me (List Dt)} {k : Nat} (h : DEs X g es m) : DE X g (.Tuple es k pos) (fun δ => bnd (m δ) fun ds => grd (ds.length ≤ sizeLine) (ret (.tuple ds))) := by
  obtain ⟨t, p, h⟩ := h
  refine ⟨_, pe_tup p, fun σ H F δ n Q Qd r q w => h σ H F δ n _ _ r (fun vs ds F1 H1 n1 rb rp hq => ?_) w⟩
  refine ⟨by rw [rp.length]; exact hq.1, fun p np => ?_⟩
  exact q _ _ _ _ n1 (rb.lay np) (.tup (SqT.of upd_same) (rp.ext' (fresh_ext rb.sub np))) hq.2
theorem dn_lst {m : Me (List Dt)} (h : DEs X g es m) : DN X g (.List es pos) (fun δ => bnd (m δ) fun ds => grd (ds.length ≤ sizeLine) (ret ds)) := by
  obtain ⟨t, p, h⟩ := h
  refine ⟨_, pe_lst p, fun σ H F δ n Q Qd r q w => h σ H F δ n _ _ r (fun vs ds F1 H1 n1 rb rp hq => ?_) w⟩
  refine ⟨by rw [rp.length]; exact hq.1, fun p np => ?_⟩
  exact q p vs ds F1 _ n1 (rb.layH np) (rb.old (fun b i => rb.hand.there i) np) (free_of rb.sub np) upd_same rp hq.2

/-! ### operations by values -/
/-- a two-place operation of data over a rule of the layer -/
def D2 (X : Cx) (g : Gh) (r : R2) (o : Dt → Dt → Mv Dt) : Prop := ∀ (F H : Hp) (n : Nat) (x y : V) (d e : Dt) (Q : VK) (Qd : Kd Dt), RelB g.hd F H F H n → Rp X.K F x d → Rp X.K F y e → o d e n Qd g.W →
  (∀ v d' F' H' n', RelB g.hd F H F' H' n' → Rp X.K F' v d' → Qd d' n' → Q v H') → r x y H Q
def D1 (X : Cx) (g : Gh) (r : V → Hp → VK → Prop) (o : Dt → Mv Dt) : Prop := ∀ (F H : Hp) (n : Nat) (x : V) (d : Dt) (Q : VK) (Qd : Kd Dt), RelB g.hd F H F H n → Rp X.K F x d → o d n Qd g.W →
  (∀ v d' F' H' n', RelB g.hd F H F' H' n' → Rp X.K F' v d' → Qd d' n' → Q v H') → r x H Q
/-- .. of a call's values -/
def DC (X : Cx) (g : Gh) (r : List V → Hp → VK → Prop) (o : List Dt → Mv Dt) : Prop := ∀ (F H : Hp) (n : Nat) (xs : List V) (ds : List Dt) (Q : VK) (Qd : Kd Dt), RelB g.hd F H F H n → RpAll X.K F xs ds → o ds n Qd g.W →
  (∀ v d' F' H' n', RelB g.hd F H F' H' n' → Rp X.K F' v d' → Qd d' n' → Q v H') → r xs H Q
theorem bin2 {r : R2} {o : Dt → Dt → Mv Dt} (k : D2 X g r o) {t u : TE} {σ : L2.St} {H F : Hp} {δ : List Ds} {n : Nat} {Q : VK} {Qd : Kd Dt}
    (ha : ∀ (σ : L2.St) (H F : Hp) (δ : List Ds) (n : Nat) (Q : VK) (Qd : Kd Dt), g.R X.K F σ H δ n → (∀ v d F' H' n', RelB g.hd F H F' H' n' → Rp X.K F' v d → Qd d n' → Q v H') → ma δ n Qd g.W → t σ H Q)
    (hb : ∀ (σ : L2.St) (H F : Hp) (δ : List Ds) (n : Nat) (Q : VK) (Qd : Kd Dt), g.R X.K F σ H δ n → (∀ v d F' H' n', RelB g.hd F H F' H' n' → Rp X.K F' v d → Qd d n' → Q v H') → mb δ n Qd g.W → u σ H Q)
    (R : g.R X.K F σ H δ n) (q : ∀ v d F' H' n', RelB g.hd F H F' H' n' → Rp X.K F' v d → Qd d n' → Q v H') (w : bnd (ma δ) (fun x => bnd (mb δ) fun y => o x y) n Qd g.W) :
    t σ H fun x H1 => u σ H1 fun y H2 => r x y H2 Q := by
  refine ha σ H F δ n _ _ R (fun v d F1 H1 n1 rb rp hq => ?_) w
  refine hb σ H1 F1 δ n1 _ _ (R.ext rb) (fun v2 d2 F2 H2 n2 rb2 rp2 hq2 => ?_) hq
  exact k F2 H2 n2 v v2 d d2 Q Qd (rb2.refl) (rp.ext' rb2.f0) rp2 hq2 fun v' d' F' H' n' r3 p3 q3 => q v' d' F' H' n' ((rb.trans rb2).trans r3) p3 q3
theorem de_op {op : Operator} {r : R2} {o : Dt → Dt → Mv Dt} (ho : OpR X (binaryOp op) r) (k : D2 X g r o) (ha : DE X g a ma) (hb : DE X g b mb) :
    DE X g (.BinOp a op b pos) (fun δ => bnd (ma δ) fun x => bnd (mb δ) fun y => o x y) := by
  obtain ⟨t, p, ha⟩ := ha
  obtain ⟨u, p2, hb⟩ := hb
  exact ⟨_, pe_op ho p p2, fun σ H F δ n Q Qd R q w => bin2 k ha hb R q w⟩
theorem de_cmp {op : CmpOp} {r : R2} {o : Dt → Dt → Mv Dt} (ho : OpR X (compareOp op) r) (k : D2 X g r o) (ha : DE X g a ma) (hb : DE X g b mb) (hm : behindInMarks op b = false) :
    DE X g (.Compare a [op] [b] pos) (fun δ => bnd (ma δ) fun x => bnd (mb δ) fun y => o x y) := by
  obtain ⟨t, p, ha⟩ := ha
  obtain ⟨u, p2, hb⟩ := hb
  exact ⟨_, pe_cmpR ho p p2 hm, fun σ H F δ n Q Qd R q w => bin2 k ha hb R q w⟩
/-- a datum that is a truth -/
def asB (d : Dt) : Mv Bool := match d with
  | .bool b => ret b
  | _ => bad
theorem dt_cmp {op : CmpOp} {r : R2} {o : Dt → Dt → Mv Dt} (ho : OpR X (compareOp op) r) (k : D2 X g r o) (ha : DE X g a ma) (hb : DE X g b mb) (hm : behindInMarks op b = false) :
    DT X g (.Compare a [op] [b] pos) (fun δ => bnd (ma δ) fun x => bnd (mb δ) fun y => bnd (o x y) asB) := by
  obtain ⟨t, p, ha⟩ := ha
  obtain ⟨u, p2, hb⟩ := hb
  refine ⟨_, pt_cmpR ho p p2 hm, fun σ H F δ n Q Qd R q w => bin2 (Qd := fun d n => asB d n Qd g.W) k ha hb R (fun v d F' H' n' rb rp hq => ?_) w⟩
  cases d with
  | bool x => cases rp; exact ⟨x, rfl, q x F' H' n' rb hq⟩
  | _ => exact hq.elim
/-- an expression whose value is a truth, as a test -/
theorem DE.tst (h : DE X g e ma) (he : ∀ whole, isTrue e X.env whole = (do let v ← whole; standAt e.pos; holding [v] (truthy v)) := by intro _; rfl) : DT X g e (fun δ => bnd (ma δ) asB) := by
  obtain ⟨t, p, h⟩ := h
  refine ⟨_, pt_val p he, fun σ H F δ n Q Qd R q w => h σ H F δ n _ _ R (fun v d F' H' n' rb rp hq => ?_) w⟩
  cases d with
  | bool x => cases rp; exact ⟨x, rfl, q x F' H' n' rb hq⟩
  | _ => exact hq.elim

/-! ### and, or, not, if -/
variable {mt mu : Me Bool} {rest : List Expr}
theorem dt_not (h : DT X g a mt) : DT X g (.UnaryOp .Not a pos) (fun δ => bnd (mt δ) fun c => ret (!c)) := by
  obtain ⟨t, p, h⟩ := h
  exact ⟨_, pt_not p, fun σ H F δ n Q Qd R q w => h σ H F δ n _ _ R (fun c F' H' n' rb hq => q _ F' H' n' rb hq) w⟩
/-- a chain of and, or as a test -/
def DW (X : Cx) (g : Gh) (e : Expr) (m : Me Bool) : Prop := ∃ t : TT, PW X e t ∧ ∀ (σ : L2.St) (H F : Hp) (δ : List Ds) (n : Nat) (Q : Bool → Hp → Prop) (Qd : Kd Bool), g.R X.K F σ H δ n →
  (∀ b F' H' n', RelB g.hd F H F' H' n' → Qd b n' → Q b H') → m δ n Qd g.W → t σ H Q
theorem DW.tst (h : DW X g e mt) : DT X g e mt := by
  obtain ⟨t, p, h⟩ := h
  exact ⟨t, p.pt, h⟩
theorem dw_and1 (h : DT X g a mt) : DW X g (.BoolOp .And [a] pos) mt := by
  obtain ⟨t, p, h⟩ := h
  exact ⟨_, pw_and1 p, h⟩
theorem dw_or1 (h : DT X g a mt) : DW X g (.BoolOp .Or [a] pos) mt := by
  obtain ⟨t, p, h⟩ := h
  exact ⟨_, pw_or1 p, h⟩
def both (x y : Mv Bool) : Mv Bool := bnd x fun c => if c then y else ret false
def either (x y : Mv Bool) : Mv Bool := bnd x fun c => if c then ret true else y
theorem both_ret (x : Bool) (y : Mv Bool) : both (ret x) y = if x then y else ret false := rfl
theorem either_ret (x : Bool) (y : Mv Bool) : either (ret x) y = if x then ret true else y := rfl
theorem dw_and (ha : DT X g a mt) (hb : DW X g (.BoolOp .And (b :: rest) pos) mu) : DW X g (.BoolOp .And (a :: b :: rest) pos) (fun δ => both (mt δ) (mu δ)) := by
  obtain ⟨t, p, ha⟩ := ha
  obtain ⟨u, p2, hb⟩ := hb
  refine ⟨_, pw_and p p2, fun σ H F δ n Q Qd R q w => ha σ H F δ n _ _ R (fun c F' H' n' rb hq => ?_) w⟩
  cases c with
  | true => exact hb σ H' F' δ n' _ _ (R.ext rb) (fun c2 F2 H2 n2 rb2 hq2 => q c2 F2 H2 n2 (rb.trans rb2) hq2) hq
  | false => exact q false F' H' n' rb hq
theorem dw_or (ha : DT X g a mt) (hb : DW X g (.BoolOp .Or (b :: rest) pos) mu) : DW X g (.BoolOp .Or (a :: b :: rest) pos) (fun δ => either (mt δ) (mu δ)) := by
  obtain ⟨t, p, ha⟩ := ha
  obtain ⟨u, p2, hb⟩ := hb
  refine ⟨_, pw_or p p2, fun σ H F δ n Q Qd R q w => ha σ H F δ n _ _ R (fun c F' H' n' rb hq => ?_) w⟩
  cases c with
  | true => exact q true F' H' n' rb hq
  | false => exact hb σ H' F' δ n' _ _ (R.ext rb) (fun c2 F2 H2 n2 rb2 hq2 => q c2 F2 H2 n2 (rb.trans rb2) hq2) hq
/-- .. as values, all but the last truths -/
def bothD (x y : Mv Dt) : Mv Dt := bnd (bnd x asB) fun c => if c then y else ret (.bool false)
def eitherD (x y : Mv Dt) : Mv Dt := bnd (bnd x asB) fun c => if c then ret (.bool true) else y
theorem de_one {op : BoolOp} (h : DE X g a ma) : DE X g (.BoolOp op [a] pos) ma := by
  obtain ⟨t, p, h⟩ := h
  exact ⟨_, pe_one p, h⟩
theorem de_and (ha : DE X g a ma) (hb : DE X g (.BoolOp .And (b :: rest) pos) mb) : DE X g (.BoolOp .And (a :: b :: rest) pos) (fun δ => bothD (ma δ) (mb δ)) := by
  obtain ⟨t, p, ha⟩ := ha
  obtain ⟨u, p2, hb⟩ := hb
  refine ⟨_, pe_and p p2, fun σ H F δ n Q Qd R q w => ha σ H F δ n _ _ R (fun v d F' H' n' rb rp hq => ?_) w⟩
  cases d with
  | bool c =>
    cases rp
    refine ⟨c, rfl, ?_⟩
    cases c with
    | true => exact hb σ H' F' δ n' _ _ (R.ext rb) (fun v2 d2 F2 H2 n2 rb2 rp2 hq2 => q v2 d2 F2 H2 n2 (rb.trans rb2) rp2 hq2) hq
    | false => exact q _ _ F' H' n' rb (.bl false) hq
  | _ => exact hq.elim
theorem de_or (ha : DE X g a ma) (hb : DE X g (.BoolOp .Or (b :: rest) pos) mb) : DE X g (.BoolOp .Or (a :: b :: rest) pos) (fun δ => eitherD (ma δ) (mb δ)) := by
  obtain ⟨t, p, ha⟩ := ha
  obtain ⟨u, p2, hb⟩ := hb
  refine ⟨_, pe_or p p2, fun σ H F δ n Q Qd R q w => ha σ H F δ n _ _ R (fun v d F' H' n' rb rp hq => ?_) w⟩
  cases d with
  | bool c =>
    cases rp
    refine ⟨c, rfl, ?_⟩
    cases c with
    | true => exact q _ _ F' H' n' rb (.bl true) hq
    | false => exact hb σ H' F' δ n' _ _ (R.ext rb) (fun v2 d2 F2 H2 n2 rb2 rp2 hq2 => q v2 d2 F2 H2 n2 (rb.trans rb2) rp2 hq2) hq
  | _ => exact hq.elim
theorem de_not (ha : DE X g a ma) : DE X g (.UnaryOp .Not a pos) (fun δ => bnd (bnd (ma δ) asB) fun c => ret (.bool (!c))) := by
  obtain ⟨t, p, ha⟩ := ha
  refine ⟨_, pe_not p, fun σ H F δ n Q Qd R q w => ha σ H F δ n _ _ R (fun v d F' H' n' rb rp hq => ?_) w⟩
  cases d with
  | bool c => cases rp; exact ⟨c, rfl, q _ _ F' H' n' rb (.bl _) hq⟩
  | _ => exact hq.elim
def choose {α : Type} (c : Mv Bool) (x y : Mv α) : Mv α := bnd c fun b => if b then x else y
theorem choose_ret {α : Type} (c : Bool) (x y : Mv α) : choose (ret c) x y = if c then x else y := rfl
theorem de_if (hc : DT X g c mt) (ha : DE X g a ma) (hb : DE X g b mb) : DE X g (.IfExp c a b pos) (fun δ => choose (mt δ) (ma δ) (mb δ)) := by
  obtain ⟨t0, p0, hc⟩ := hc
  obtain ⟨t, p, ha⟩ := ha
  obtain ⟨u, p2, hb⟩ := hb
  refine ⟨_, pe_ifExp p0 p p2, fun σ H F δ n Q Qd R q w => hc σ H F δ n _ _ R (fun c F' H' n' rb hq => ?_) w⟩
  cases c with
  | true => exact ha σ H' F' δ n' _ _ (R.ext rb) (fun v2 d2 F2 H2 n2 rb2 rp2 hq2 => q v2 d2 F2 H2 n2 (rb.trans rb2) rp2 hq2) hq
  | false => exact hb σ H' F' δ n' _ _ (R.ext rb) (fun v2 d2 F2 H2 n2 rb2 rp2 hq2 => q v2 d2 F2 H2 n2 (rb.trans rb2) rp2 hq2) hq

/-! ### built-ins by their values -/
theorem de_callB {x : Str} {p : Pos} {id : String} {r : List V → Hp → VK → Prop} {o : List Dt → Mv Dt} {m : Me (List Dt)} (hc : CallR X (.builtin id) r) (k : DC X g r o) (hg : Gl X x) (hm : X.mg x = none) (hv : bootBuiltins x = some (.builtin id)) (ha : DEs X g (e :: es) m)
    (hn : x ≠ "__name__" := by decide) (hdb : (x == ("__debug__" : Str)) = false := by decide) (he : starEach (e :: es) X.env = (false, eval e X.env) :: starEach es X.env := by rfl) (hpl : (backTo pos (starEach es X.env)).any (·.1) = false := by rfl) :
    DE X g (.Call (.Name x p) (e :: es) [] pos) (fun δ => bnd (m δ) o) := by
  obtain ⟨t, pt, ha⟩ := ha
  refine ⟨_, pe_callB hc hg hm hv pt hn hdb he hpl, fun σ H F δ n Q Qd R q w => ha σ H F δ n _ _ R (fun vs ds F1 H1 n1 rb rp hq => ?_) w⟩
  exact k F1 H1 n1 vs ds Q Qd rb.refl rp hq fun v d F' H' n' r3 p3 q3 => q v d F' H' n' (rb.trans r3) p3 q3
theorem de_callT {x : Str} {p : Pos} {T : String} {r : List V → Hp → VK → Prop} {o : List Dt → Mv Dt} {m : Me (List Dt)} (hc : CallR X (.type T) r) (k : DC X g r o) (hg : Gl X x) (hm : X.mg x = none) (hv : bootBuiltins x = some (.type T)) (ha : DEs X g (e :: es) m)
    (hn : x ≠ "__name__" := by decide) (hdb : (x == ("__debug__" : Str)) = false := by decide) (he : starEach (e :: es) X.env = (false, eval e X.env) :: starEach es X.env := by rfl) (hpl : (backTo pos (starEach es X.env)).any (·.1) = false := by rfl) :
    DE X g (.Call (.Name x p) (e :: es) [] pos) (fun δ => bnd (m δ) o) := by
  obtain ⟨t, pt, ha⟩ := ha
  refine ⟨_, pe_callTy hc hg hm hv pt hn hdb he hpl, fun σ H F δ n Q Qd R q w => ha σ H F δ n _ _ R (fun vs ds F1 H1 n1 rb rp hq => ?_) w⟩
  exact k F1 H1 n1 vs ds Q Qd rb.refl rp hq fun v d F' H' n' r3 p3 q3 => q v d F' H' n' (rb.trans r3) p3 q3
end
end Dl
namespace Dl
open PySem PySem.Spec L2

/-! ### a datum that can be read now: frozen, or one list whose items are -/
def RpX (K : PySem.W.Frag) (hd : Hd) (F H : Hp) (v : V) (d : Dt) : Prop :=
  Rp K F v d ∨ ∃ (a : Addr) (vs : List V) (ds : List Dt), v = .ref a ∧ d = .list ds ∧ H a = some (.lst vs) ∧ ¬ InHd hd a ∧ RpAll K F vs ds
inductive RpXs (K : PySem.W.Frag) (hd : Hd) (F H : Hp) : List V → List Dt → Prop
  | nil : RpXs K hd F H [] []
  | cons {v : V} {vs : List V} {d : Dt} {ds : List Dt} : RpX K hd F H v d → RpXs K hd F H vs ds → RpXs K hd F H (v :: vs) (d :: ds)
section
variable {K : PySem.W.Frag} {hd : Hd} {F H F' H' : Hp} {n : Nat}
theorem RpX.ext {v : V} {d : Dt} (h : RpX K hd F H v d) (r : RelB hd F H F' H' n) : RpX K hd F' H' v d := by
  rcases h with h | ⟨a, vs, ds, e1, e2, h1, h2, h3⟩
  · exact .inl (h.ext' r.f0)
  · exact .inr ⟨a, vs, ds, e1, e2, r.h0 _ _ h1 h2, h2, h3.ext' r.f0⟩
theorem RpXs.ext (r : RelB hd F H F' H' n) : ∀ {vs : List V} {ds : List Dt}, RpXs K hd F H vs ds → RpXs K hd F' H' vs ds
  | _, _, .nil => .nil
  | _, _, .cons h t => .cons (h.ext r) (t.ext r)
theorem RpX.now {v : V} {d : Dt} (h : RpX K hd F H v d) (s : Same F H) : Rp K H v d := by
  rcases h with h | ⟨a, vs, ds, rfl, rfl, h1, h2, h3⟩
  · exact h.ext' s
  · exact .lst h1 (h3.ext' s)
theorem RpXs.now (s : Same F H) : ∀ {vs : List V} {ds : List Dt}, RpXs K hd F H vs ds → RpAll K H vs ds
  | _, _, .nil => .nil
  | _, _, .cons h t => .cons (h.now s) (t.now s)
end
def DX (X : Cx) (g : Gh) (e : Expr) (m : Me Dt) : Prop := ∃ t : TE, PE X e t ∧ ∀ (σ : L2.St) (H F : Hp) (δ : List Ds) (n : Nat) (Q : VK) (Qd : Kd Dt), g.R X.K F σ H δ n →
  (∀ v d F' H' n', RelB g.hd F H F' H' n' → RpX X.K g.hd F' H' v d → Qd d n' → Q v H') → m δ n Qd g.W → t σ H Q
def DXs (X : Cx) (g : Gh) (es : List Expr) (m : Me (List Dt)) : Prop := ∃ t : TA, PA X es t ∧ ∀ (σ : L2.St) (H F : Hp) (δ : List Ds) (n : Nat) (Q : List V → Hp → Prop) (Qd : Kd (List Dt)), g.R X.K F σ H δ n →
  (∀ vs ds F' H' n', RelB g.hd F H F' H' n' → RpXs X.K g.hd F' H' vs ds → Qd ds n' → Q vs H') → m δ n Qd g.W → t σ H Q
/-- a scalar: it stands anywhere -/
def Sc (K : PySem.W.Frag) (v : V) (d : Dt) : Prop := ∀ F, Rp K F v d
/-- two-place, one-place, many-place operations that read and hand back a scalar, or a frozen part of what they read -/
def X2 (X : Cx) (r : R2) (o : Dt → Dt → Mv Dt) : Prop := ∀ (H : Hp) (n : Nat) (x y : V) (d e : Dt) (Q : VK) (Qd : Kd Dt) (W : Wx), Rp X.K H x d → Rp X.K H y e → o d e n Qd W → (∀ v d', Sc X.K v d' → Qd d' n → Q v H) → r x y H Q
def XC (X : Cx) (r : List V → Hp → VK → Prop) (o : List Dt → Mv Dt) : Prop := ∀ (H : Hp) (n : Nat) (xs : List V) (ds : List Dt) (Q : VK) (Qd : Kd Dt) (W : Wx), RpAll X.K H xs ds → o ds n Qd W → (∀ v d', Sc X.K v d' → Qd d' n → Q v H) → r xs H Q

section
variable {X : Cx} {g : Gh} {a b c e : Expr} {es : List Expr} {pos : Pos} {ma mb mc : Me Dt}
theorem DE.now (h : DE X g e ma) : DX X g e ma := by
  obtain ⟨t, p, h⟩ := h
  exact ⟨t, p, fun σ H F δ n Q Qd r q w => h σ H F δ n Q _ r (fun v d F' H' n' rb rp hq => q v d F' H' n' rb (.inl rp) hq) w⟩
theorem DL.now {m : Me (List Dt)} (h : DL X g e m) : DX X g e (fun δ => bnd (m δ) fun ds => ret (.list ds)) := by
  obtain ⟨t, p, h⟩ := h
  exact ⟨t, p, fun σ H F δ n Q Qd r q w => h σ H F δ n Q _ r (fun a vs ds F' H' n' rb h1 h2 rp hq => q _ (.list ds) F' H' n' rb (.inr ⟨a, vs, ds, rfl, rfl, h1, h2, rp⟩) hq) w⟩
/-- a name, whatever it holds -/
def slX (i : Nat) : Me Dt := fun δ => match δ[i]? with
  | some (.d x) => ret x
  | some (.own xs) => ret (.list xs)
  | _ => bad
theorem dx_var (i : Nat) {x : Str} (hN : X.N[i]? = some x := by rfl) (hv : Vis X.env.scope x := by first | exact Or.inl rfl | exact Or.inr (Or.inl rfl) | exact Or.inr (Or.inr rfl)) (hd : (x == ("__debug__" : Str)) = false := by decide)
    (hcd : (x == ("__classdict__" : Str)) = false := by decide) : DX X g (.Name x pos) (slX i) := by
  refine ⟨_, pe_var (i := i) hN hv hd hcd, fun σ H F δ n Q Qd r q w => ?_⟩
  unfold slX at w
  cases e : δ[i]? with
  | none => rw [e] at w; exact w.elim
  | some s =>
    rw [e] at w
    cases s with
    | d x =>
      obtain ⟨v, h1, h2⟩ := r.slot i _ e
      exact ⟨v, h1, q v x F H n r.b.refl (.inl h2) w⟩
    | own xs =>
      obtain ⟨a, vs, h1, h2, h3, h4, h5, h6⟩ := r.slot i _ e
      exact ⟨_, h1, q _ (.list xs) F H n r.b.refl (.inr ⟨a, vs, xs, rfl, rfl, h5, h4, h6⟩) w⟩
    | _ => exact w.elim
theorem dxs_nil : DXs X g [] (fun _ => ret []) := ⟨_, pa_nil, fun σ H F δ n Q Qd r q w => q [] [] F H n r.b.refl .nil w⟩
theorem dxs_cons {mr : Me (List Dt)} (h : DX X g e ma) (hr : DXs X g es mr) (hs : starEach (e :: es) X.env = (false, eval e X.env) :: starEach es X.env := by rfl) :
    DXs X g (e :: es) (fun δ => bnd (ma δ) fun x => bnd (mr δ) fun xs => ret (x :: xs)) := by
  obtain ⟨t, p, h⟩ := h
  obtain ⟨tr, pr, hr⟩ := hr
  refine ⟨_, pa_cons p pr hs, fun σ H F δ n Q Qd r q w => h σ H F δ n _ _ r (fun v d F1 H1 n1 rb rp hq => ?_) w⟩
  refine hr σ H1 F1 δ n1 _ _ (r.ext rb) (fun vs ds F2 H2 n2 rb2 rp2 hq2 => ?_) hq
  exact q _ _ F2 H2 n2 (rb.trans rb2) (.cons (rp.ext rb2) rp2) hq2
theorem binX {r : R2} {o : Dt → Dt → Mv Dt} (k : X2 X r o) {t u : TE} {σ : L2.St} {H F : Hp} {δ : List Ds} {n : Nat} {Q : VK} {Qd : Kd Dt}
    (ha : ∀ (σ : L2.St) (H F : Hp) (δ : List Ds) (n : Nat) (Q : VK) (Qd : Kd Dt), g.R X.K F σ H δ n → (∀ v d F' H' n', RelB g.hd F H F' H' n' → RpX X.K g.hd F' H' v d → Qd d n' → Q v H') → ma δ n Qd g.W → t σ H Q)
    (hb : ∀ (σ : L2.St) (H F : Hp) (δ : List Ds) (n : Nat) (Q : VK) (Qd : Kd Dt), g.R X.K F σ H δ n → (∀ v d F' H' n', RelB g.hd F H F' H' n' → RpX X.K g.hd F' H' v d → Qd d n' → Q v H') → mb δ n Qd g.W → u σ H Q)
    (R : g.R X.K F σ H δ n) (q : ∀ v d F' H' n', RelB g.hd F H F' H' n' → Sc X.K v d → Qd d n' → Q v H') (w : bnd (ma δ) (fun x => bnd (mb δ) fun y => o x y) n Qd g.W) :
    t σ H fun x H1 => u σ H1 fun y H2 => r x y H2 Q := by
  refine ha σ H F δ n _ _ R (fun v d F1 H1 n1 rb rp hq => ?_) w
  refine hb σ H1 F1 δ n1 _ _ (R.ext rb) (fun v2 d2 F2 H2 n2 rb2 rp2 hq2 => ?_) hq
  exact k H2 n2 v v2 d d2 Q Qd g.W ((rp.ext rb2).now rb2.sub) (rp2.now rb2.sub) hq2 fun v' d' s3 q3 => q v' d' F2 H2 n2 (rb.trans rb2) s3 q3
theorem de_cmpX {op : CmpOp} {r : R2} {o : Dt → Dt → Mv Dt} (ho : OpR X (compareOp op) r) (k : X2 X r o) (ha : DX X g a ma) (hb : DX X g b mb) (hm : behindInMarks op b = false) :
    DE X g (.Compare a [op] [b] pos) (fun δ => bnd (ma δ) fun x => bnd (mb δ) fun y => o x y) := by
  obtain ⟨t, p, ha⟩ := ha
  obtain ⟨u, p2, hb⟩ := hb
  exact ⟨_, pe_cmpR ho p p2 hm, fun σ H F δ n Q Qd R q w => binX k ha hb R (fun v d F' H' n' rb s hq => q v d F' H' n' rb (s F') hq) w⟩
theorem dt_cmpX {op : CmpOp} {r : R2} {o : Dt → Dt → Mv Dt} (ho : OpR X (compareOp op) r) (k : X2 X r o) (ha : DX X g a ma) (hb : DX X g b mb) (hm : behindInMarks op b = false) :
    DT X g (.Compare a [op] [b] pos) (fun δ => bnd (ma δ) fun x => bnd (mb δ) fun y => bnd (o x y) asB) := by
  obtain ⟨t, p, ha⟩ := ha
  obtain ⟨u, p2, hb⟩ := hb
  refine ⟨_, pt_cmpR ho p p2 hm, fun σ H F δ n Q Qd R q w => binX (Qd := fun d n => asB d n Qd g.W) k ha hb R (fun v d F' H' n' rb s hq => ?_) w⟩
  cases d with
  | bool x =>
    have z := s F'
    cases z
    exact ⟨x, rfl, q x F' H' n' rb hq⟩
  | _ => exact hq.elim
/-- a op1 b op2 c -/
theorem dt_chain {op op' : CmpOp} {r r' : R2} {o o' : Dt → Dt → Mv Dt} (ho : OpR X (compareOp op) r) (ho' : OpR X (compareOp op') r') (k : X2 X r o) (k' : X2 X r' o') (ha : DX X g a ma) (hb : DX X g b mb) (hc : DX X g c mc)
    (hm : lastMarks [op, op'] [b, c] = false := by with_unfolding_all rfl) :
    DT X g (.Compare a [op, op'] [b, c] pos) (fun δ => bnd (ma δ) fun x => bnd (mb δ) fun y => bnd (bnd (o x y) asB) fun t => if t then bnd (mc δ) fun z => bnd (o' y z) asB else ret false) := by
  obtain ⟨t, p, ha⟩ := ha
  obtain ⟨u, p2, hb⟩ := hb
  obtain ⟨v, p3, hc⟩ := hc
  refine ⟨_, pt_chain ho ho' p p2 p3 hm, fun σ H F δ n Q Qd R q w => ?_⟩
  refine ha σ H F δ n _ _ R (fun v1 d1 F1 H1 n1 rb1 rp1 hq => ?_) w
  refine hb σ H1 F1 δ n1 _ _ (R.ext rb1) (fun v2 d2 F2 H2 n2 rb2 rp2 hq2 => ?_) hq
  refine k H2 n2 v1 v2 d1 d2 _ (fun d n => asB d n (fun t n => (if t then bnd (mc δ) fun z => bnd (o' d2 z) asB else ret false : Mv Bool) n Qd g.W) g.W) g.W ((rp1.ext rb2).now rb2.sub) (rp2.now rb2.sub) hq2 fun w' d' s' hq3 => ?_
  cases d' with
  | bool x =>
    have z := s' F2
    cases z
    refine ⟨x, rfl, ?_⟩
    cases x with
    | true =>
      rw [if_pos rfl]
      refine hc σ H2 F2 δ n2 _ _ ((R.ext rb1).ext rb2) (fun v3 d3 F3 H3 n3 rb3 rp3 hq4 => ?_) hq3
      refine k' H3 n3 v2 v3 d2 d3 _ (fun d n => asB d n Qd g.W) g.W ((rp2.ext rb3).now rb3.sub) (rp3.now rb3.sub) hq4 fun w4 d4 s4 hq5 => ?_
      cases d4 with
      | bool y =>
        have z := s4 F3
        cases z
        exact ⟨y, rfl, q y F3 H3 n3 ((rb1.trans rb2).trans rb3) hq5⟩
      | _ => exact hq5.elim
    | false =>
      rw [if_neg Bool.false_ne_true]
      exact ⟨false, rfl, q false F2 H2 n2 (rb1.trans rb2) hq3⟩
  | _ => exact hq3.elim
theorem de_chain {op op' : CmpOp} {r r' : R2} {o o' : Dt → Dt → Mv Dt} (ho : OpR X (compareOp op) r) (ho' : OpR X (compareOp op') r') (k : X2 X r o) (k' : X2 X r' o') (ha : DX X g a ma) (hb : DX X g b mb) (hc : DX X g c mc)
    (hm : lastMarks [op, op'] [b, c] = false := by with_unfolding_all rfl) :
    DE X g (.Compare a [op, op'] [b, c] pos) (fun δ => bnd (ma δ) fun x => bnd (mb δ) fun y => bnd (bnd (o x y) asB) fun t => if t then bnd (mc δ) fun z => o' y z else ret (.bool false)) := by
  obtain ⟨t, p, ha⟩ := ha
  obtain ⟨u, p2, hb⟩ := hb
  obtain ⟨v, p3, hc⟩ := hc
  refine ⟨_, pe_chain ho ho' p p2 p3 hm, fun σ H F δ n Q Qd R q w => ?_⟩
  refine ha σ H F δ n _ _ R (fun v1 d1 F1 H1 n1 rb1 rp1 hq => ?_) w
  refine hb σ H1 F1 δ n1 _ _ (R.ext rb1) (fun v2 d2 F2 H2 n2 rb2 rp2 hq2 => ?_) hq
  refine k H2 n2 v1 v2 d1 d2 _ (fun d n => asB d n (fun t n => (if t then bnd (mc δ) fun z => o' d2 z else ret (.bool false) : Mv Dt) n Qd g.W) g.W) g.W ((rp1.ext rb2).now rb2.sub) (rp2.now rb2.sub) hq2 fun w' d' s' hq3 => ?_
  cases d' with
  | bool x =>
    have z := s' F2
    cases z
    refine ⟨x, rfl, ?_⟩
    cases x with
    | true =>
      rw [if_pos rfl]
      refine hc σ H2 F2 δ n2 _ _ ((R.ext rb1).ext rb2) (fun v3 d3 F3 H3 n3 rb3 rp3 hq4 => ?_) hq3
      exact k' H3 n3 v2 v3 d2 d3 _ Qd g.W ((rp2.ext rb3).now rb3.sub) (rp3.now rb3.sub) hq4 fun w4 d4 s4 hq5 => q w4 d4 F3 H3 n3 ((rb1.trans rb2).trans rb3) (s4 F3) hq5
    | false =>
      rw [if_neg Bool.false_ne_true]
      exact q _ _ F2 H2 n2 (rb1.trans rb2) (.bl false) hq3
  | _ => exact hq3.elim
theorem de_callX {x : Str} {p : Pos} {id : String} {r : List V → Hp → VK → Prop} {o : List Dt → Mv Dt} {m : Me (List Dt)} (hc : CallR X (.builtin id) r) (k : XC X r o) (hg : Gl X x) (hm : X.mg x = none) (hv : bootBuiltins x = some (.builtin id)) (ha : DXs X g (e :: es) m)
    (hn : x ≠ "__name__" := by decide) (hdb : (x == ("__debug__" : Str)) = false := by decide) (he : starEach (e :: es) X.env = (false, eval e X.env) :: starEach es X.env := by rfl) (hpl : (backTo pos (starEach es X.env)).any (·.1) = false := by rfl) :
    DE X g (.Call (.Name x p) (e :: es) [] pos) (fun δ => bnd (m δ) o) := by
  obtain ⟨t, pt, ha⟩ := ha
  refine ⟨_, pe_callB hc hg hm hv pt hn hdb he hpl, fun σ H F δ n Q Qd R q w => ha σ H F δ n _ _ R (fun vs ds F1 H1 n1 rb rp hq => ?_) w⟩
  exact k H1 n1 vs ds Q Qd g.W (rp.now rb.sub) hq fun v d s q3 => q v d F1 H1 n1 rb (s F1) q3
theorem de_callXT {x : Str} {p : Pos} {T : String} {r : List V → Hp → VK → Prop} {o : List Dt → Mv Dt} {m : Me (List Dt)} (hc : CallR X (.type T) r) (k : XC X r o) (hg : Gl X x) (hm : X.mg x = none) (hv : bootBuiltins x = some (.type T)) (ha : DXs X g (e :: es) m)
    (hn : x ≠ "__name__" := by decide) (hdb : (x == ("__debug__" : Str)) = false := by decide) (he : starEach (e :: es) X.env = (false, eval e X.env) :: starEach es X.env := by rfl) (hpl : (backTo pos (starEach es X.env)).any (·.1) = false := by rfl) :
    DE X g (.Call (.Name x p) (e :: es) [] pos) (fun δ => bnd (m δ) o) := by
  obtain ⟨t, pt, ha⟩ := ha
  refine ⟨_, pe_callTy hc hg hm hv pt hn hdb he hpl, fun σ H F δ n Q Qd R q w => ha σ H F δ n _ _ R (fun vs ds F1 H1 n1 rb rp hq => ?_) w⟩
  exact k H1 n1 vs ds Q Qd g.W (rp.now rb.sub) hq fun v d s q3 => q v d F1 H1 n1 rb (s F1) q3
end

/-! ### the operations -/
section
variable {X : Cx} {g : Gh}
/-- whole numbers -/
def oI (C : Int → Int → Prop) (f : Int → Int → Int) (d e : Dt) : Mv Dt := match d, e with
  | .int i, .int j => grd (C i j) (ret (.int (f i j)))
  | _, _ => bad
def oC (f : Int → Int → Bool) (d e : Dt) : Mv Dt := match d, e with
  | .int i, .int j => ret (.bool (f i j))
  | _, _ => bad
theorem x2_int {C : Int → Int → Prop} {f : Int → Int → Int} : X2 X (rI C fun i j => .int (f i j)) (oI C f) := by
  intro H n x y d e Q Qd W hx hy w q
  cases d <;> cases e <;> first | exact w.elim | skip
  cases hx; cases hy
  exact ⟨_, _, rfl, rfl, w.1, q _ _ (fun _ => .int _) w.2⟩
theorem x2_int0 {f : Int → Int → Int} : X2 X (rI0 fun i j => .int (f i j)) (oI (fun _ _ => True) f) := by
  intro H n x y d e Q Qd W hx hy w q
  cases d <;> cases e <;> first | exact w.elim | skip
  cases hx; cases hy
  exact ⟨_, _, rfl, rfl, q _ _ (fun _ => .int _) w.2⟩
theorem x2_cmp {f : Int → Int → Bool} : X2 X (rI0 fun i j => .bl (f i j)) (oC f) := by
  intro H n x y d e Q Qd W hx hy w q
  cases d <;> cases e <;> first | exact w.elim | skip
  cases hx; cases hy
  exact ⟨_, _, rfl, rfl, q _ _ (fun _ => .bl _) w⟩
theorem D2.of {r : R2} {o : Dt → Dt → Mv Dt} (k : X2 X r o) : D2 X g r o := fun F H n x y d e Q Qd rb hx hy w q =>
  k H n x y d e Q Qd g.W (hx.ext' rb.sub) (hy.ext' rb.sub) w fun v d' s hq => q v d' F H n rb (s F) hq
theorem DC.of {r : List V → Hp → VK → Prop} {o : List Dt → Mv Dt} (k : XC X r o) : DC X g r o := fun F H n xs ds Q Qd rb hx w q =>
  k H n xs ds Q Qd g.W (hx.ext' rb.sub) w fun v d' s hq => q v d' F H n rb (s F) hq
theorem D2.or {r r' : R2} {o o' : Dt → Dt → Mv Dt} (k : D2 X g r o) (k' : D2 X g r' o') : D2 X g (fun x y H Q => r x y H Q ∨ r' x y H Q) (fun d e n Q W => o d e n Q W ∨ o' d e n Q W) := fun F H n x y d e Q Qd rb hx hy w q => by
  rcases w with w | w
  · exact .inl (k F H n x y d e Q Qd rb hx hy w q)
  · exact .inr (k' F H n x y d e Q Qd rb hx hy w q)

/-- x + y: numbers, texts, tuples -/
def oAdd (d e : Dt) : Mv Dt := match d, e with
  | .int i, .int j => ret (.int (i + j))
  | .str x, .str y => grd (x.length + y.length ≤ sizeLine) (ret (.str (x ++ y)))
  | .tuple xs, .tuple ys => grd (xs.length + ys.length ≤ sizeLine) (ret (.tuple (xs ++ ys)))
  | _, _ => bad
def rAddA (K : PySem.W.Frag) : R2 := fun x y H Q => rI0 (fun i j => .int (i + j)) x y H Q ∨ (∃ i j, x = .str i ∧ y = .str j ∧ i.length + j.length ≤ sizeLine ∧ Q (.str (i ++ j)) H) ∨ rCatA K x y H Q
theorem op_addA : OpR X (binaryOp .Add) (rAddA X.K) := op_add.or (op_add_str.or op_catA)
theorem d2_add : D2 X g (rAddA X.K) oAdd := by
  intro F H n x y d e Q Qd rb hx hy w q
  cases d <;> cases e <;> first | exact w.elim | skip
  · cases hx; cases hy
    exact .inl ⟨_, _, rfl, rfl, q _ _ F H n rb (.int _) w⟩
  · cases hx; cases hy
    exact .inr (.inl ⟨_, _, rfl, rfl, w.1, q _ _ F H n rb (.str _) w.2⟩)
  · cases hx with
    | tup h1 h2 =>
      cases hy with
      | tup h3 h4 =>
        refine .inr (.inr ⟨_, _, _, _, rfl, rfl, sqT_ext rb.sub h1, sqT_ext rb.sub h3, by rw [h2.length, h4.length]; exact w.1, fun z => ?_, fun z z2 => ?_, fun z z2 p np => ?_⟩)
        · subst z
          cases h2
          exact q _ _ F H n rb (.tup h3 h4) w.2
        · subst z2
          cases h4
          exact q _ _ F H n rb (.tup h1 (by rw [List.append_nil]; exact h2)) w.2
        · exact q _ _ _ _ n (rb.lay np) (.tup (SqT.of upd_same) ((h2.app h4).ext' (fresh_ext rb.sub np))) w.2
theorem de_add {a b : Expr} {pos : Pos} {ma mb : Me Dt} (ha : DE X g a ma) (hb : DE X g b mb) : DE X g (.BinOp a .Add b pos) (fun δ => bnd (ma δ) fun x => bnd (mb δ) fun y => oAdd x y) := de_op op_addA d2_add ha hb
theorem de_sub {a b : Expr} {pos : Pos} {ma mb : Me Dt} (ha : DE X g a ma) (hb : DE X g b mb) : DE X g (.BinOp a .Sub b pos) (fun δ => bnd (ma δ) fun x => bnd (mb δ) fun y => oI (fun _ _ => True) (fun i j => i - j) x y) := de_op op_sub (.of x2_int0) ha hb
/-- x * y: numbers, a text or a tuple by a number -/
def repT (xs : List Dt) (k : Int) : List Dt := (List.replicate k.toNat xs).flatten
def oMul (d e : Dt) : Mv Dt := match d, e with
  | .int i, .int j => grd (CMul i j) (ret (.int (i * j)))
  | .str x, .int k => grd (MulOk x k) (ret (.str (Txt.mul x k)))
  | .tuple xs, .int k => grd (xs ≠ [] ∧ 2 ≤ k ∧ k ≤ 1000 ∧ xs.length ≤ 1000) (ret (.tuple (repT xs k)))
  | _, _ => bad
def rMulS : R2 := fun x y H Q => ∃ z k, x = .str z ∧ y = .int k ∧ MulOk z k ∧ Q (.str (Txt.mul z k)) H
theorem op_mulS : OpR X (binaryOp .Mult) rMulS := by
  intro pins s σ H x y v u Q I rx ry h
  obtain ⟨z, k, rfl, rfl, hk, q⟩ := h
  obtain ⟨t, rfl⟩ := rx
  obtain ⟨t', rfl⟩ := ry
  exact SB.mul hk fun t2 k2 => ⟨.str _, H, I.tok _, ⟨_, rfl⟩, q⟩
def rMulA (K : PySem.W.Frag) : R2 := fun x y H Q => rI CMul (fun i j => .int (i * j)) x y H Q ∨ rMulS x y H Q ∨ rRepT K x y H Q
theorem op_mulA : OpR X (binaryOp .Mult) (rMulA X.K) := op_mul.or (op_mulS.or op_repT)
theorem d2_mul : D2 X g (rMulA X.K) oMul := by
  intro F H n x y d e Q Qd rb hx hy w q
  cases d <;> cases e <;> first | exact w.elim | skip
  · cases hx; cases hy
    exact .inl ⟨_, _, rfl, rfl, w.1, q _ _ F H n rb (.int _) w.2⟩
  · cases hx; cases hy
    exact .inr (.inl ⟨_, _, rfl, rfl, w.1, q _ _ F H n rb (.str _) w.2⟩)
  · cases hy
    cases hx with
    | tup h1 h2 =>
      obtain ⟨⟨w1, w2, w3, w4⟩, w5⟩ := w
      refine .inr (.inr ⟨_, _, _, rfl, rfl, sqT_ext rb.sub h1, fun z => ?_, w2, w3, by rw [h2.length]; exact w4, fun p np => ?_⟩)
      · subst z
        cases h2
        exact w1 rfl
      · exact q _ _ _ _ n (rb.lay np) (.tup (SqT.of upd_same) ((h2.rep _).ext' (fresh_ext rb.sub np))) w5
theorem de_mul {a b : Expr} {pos : Pos} {ma mb : Me Dt} (ha : DE X g a ma) (hb : DE X g b mb) : DE X g (.BinOp a .Mult b pos) (fun δ => bnd (ma δ) fun x => bnd (mb δ) fun y => oMul x y) := de_op op_mulA d2_mul ha hb
theorem de_fdiv {a b : Expr} {pos : Pos} {ma mb : Me Dt} (ha : DE X g a ma) (hb : DE X g b mb) : DE X g (.BinOp a .FloorDiv b pos) (fun δ => bnd (ma δ) fun x => bnd (mb δ) fun y => oI CDiv (fun i j => i / j) x y) := de_op op_fdiv (.of x2_int) ha hb
theorem de_fdivW {a b : Expr} {pos : Pos} {ma mb : Me Dt} (ha : DE X g a ma) (hb : DE X g b mb) : DE X g (.BinOp a .FloorDiv b pos) (fun δ => bnd (ma δ) fun x => bnd (mb δ) fun y => oI CDivW (fun i j => i / j) x y) := de_op op_fdivW (.of x2_int) ha hb
theorem de_mod {a b : Expr} {pos : Pos} {ma mb : Me Dt} (ha : DE X g a ma) (hb : DE X g b mb) : DE X g (.BinOp a .Mod b pos) (fun δ => bnd (ma δ) fun x => bnd (mb δ) fun y => oI (fun _ j => 0 < j) (fun i j => i % j) x y) := de_op op_mod (.of x2_int) ha hb
theorem de_pow {a b : Expr} {pos : Pos} {ma mb : Me Dt} (ha : DE X g a ma) (hb : DE X g b mb) : DE X g (.BinOp a .Pow b pos) (fun δ => bnd (ma δ) fun x => bnd (mb δ) fun y => oI CPow (fun i j => i ^ j.toNat) x y) := de_op op_pow (.of x2_int) ha hb
theorem de_neg {a : Expr} {pos : Pos} {ma : Me Dt} (ha : DE X g a ma) : DE X g (.UnaryOp .USub a pos) (fun δ => bnd (ma δ) fun x => match x with | .int i => ret (.int (-i)) | _ => bad) := by
  obtain ⟨t, p, ha⟩ := ha
  refine ⟨_, pe_un un_neg p, fun σ H F δ n Q Qd R q w => ha σ H F δ n _ _ R (fun v d F' H' n' rb rp hq => ?_) w⟩
  cases d with
  | int i => cases rp; exact ⟨i, rfl, q _ _ F' H' n' rb (.int _) hq⟩
  | _ => exact hq.elim

/-! ### comparisons -/
/-- two data that == tells apart here -/
def eqOk : Dt → Dt → Prop
  | .none, .none => True | .none, .int _ => True | .int _, .none => True | .none, .bool _ => True | .bool _, .none => True | .none, .str _ => True | .str _, .none => True
  | .int _, .int _ => True | .bool _, .bool _ => True | .str _, .str _ => True
  | .int _, .str _ => True | .str _, .int _ => True | .bool _, .str _ => True | .str _, .bool _ => True
  | .list xs, .list ys => (xs = [] ∨ ys = []) ∨ (SeqAt.shaped (.list xs) = true ∧ SeqAt.shaped (.list ys) = true)
  | .tuple xs, .tuple ys => (xs = [] ∨ ys = []) ∨ (SeqAt.shaped (.tuple xs) = true ∧ SeqAt.shaped (.tuple ys) = true)
  | d, e => SeqAt.shaped d = true ∧ SeqAt.shaped e = true
def oEq (d e : Dt) : Mv Dt := grd (eqOk d e) (ret (.bool (PyData.eqv d e)))
def oNe (d e : Dt) : Mv Dt := grd (eqOk d e) (ret (.bool (!PyData.eqv d e)))
mutual
theorem noDict_of : ∀ d : Dt, d.canLay0 = true → d.hasDict = false
  | .none, _ => by simp only [PyData.hasDict]
  | .bool _, _ => by simp only [PyData.hasDict]
  | .int _, _ => by simp only [PyData.hasDict]
  | .str _, _ => by simp only [PyData.hasDict]
  | .list xs, h => by simp only [PyData.hasDict]; exact noDicts_of xs (by simpa [PyData.canLay0] using h)
  | .tuple xs, h => by simp only [PyData.hasDict]; exact noDicts_of xs (by simpa [PyData.canLay0] using h)
  | .dict _, h => by simp [PyData.canLay0] at h
theorem noDicts_of : ∀ ds : List Dt, PyData.canLayAll0 ds = true → PyData.hasDictAll ds = false
  | [], _ => by simp only [PyData.hasDictAll]
  | d :: ds, h => by
    have h' : d.canLay0 = true ∧ PyData.canLayAll0 ds = true := by simpa [PyData.canLayAll0] using h
    simp only [PyData.hasDictAll, noDict_of d h'.1, noDicts_of ds h'.2, Bool.or_self]
end
theorem Rp.shp {K : PySem.W.Frag} {H : Hp} {v : V} {d : Dt} (h : Rp K H v d) (s : SeqAt.shaped d = true) : Dp K H v d := Rp.dp (Same.refl H) d (noDict_of d (SeqAt.canLay_of_shaped s)) h
/-- two lists, or two tuples, of which one is empty -/
def rEqE (ne : Bool) (K : PySem.W.Frag) : R2 := fun x y H Q => ∃ (a b : Addr) (xs ys : List V), x = .ref a ∧ y = .ref b ∧ ((SqL K H a xs ∧ SqL K H b ys) ∨ (SqT K H a xs ∧ SqT K H b ys)) ∧ (xs = [] ∨ ys = []) ∧ Q (.bl (xor ne (decide (xs.length = ys.length)))) H
theorem op_eqE (hu : X.A.units < cLine) : OpR X (compareOp .Eq) (rEqE false X.K) := by
  intro pins s σ H x y v u Q I rx ry h
  obtain ⟨a, b, xs, ys, rfl, rfl, hs, he, q⟩ := h
  cases rx
  cases ry
  rcases hs with ⟨h1, h2⟩ | ⟨h1, h2⟩
  · obtain ⟨i1, r1, l1, _⟩ := I.list h1
    obtain ⟨i2, r2, l2, _⟩ := I.list h2
    have e1 := r1.length
    have e2 := r2.length
    by_cases z : xs.length = ys.length
    · have z0 : i1.toArray.size = 0 := by
        have y : xs.length = 0 := by
          rcases he with e | e
          · rw [e]; rfl
          · rw [z, e]; rfl
        rw [List.size_toArray]
        omega
      refine SeqAt.eq_listAt (e := fun _ => true) l1.isList l2.isList (by rw [List.size_toArray, List.size_toArray]; omega) hu (fun j k _ => by omega) ?_
      refine ⟨.bl _, H, I, ?_, q⟩
      show Value.bool _ = Value.bool _
      rw [z0, decide_eq_true z]
      rfl
    · refine SeqAt.eq_list_lengthsAt l1.isList l2.isList (by simp only [List.size_toArray, bne_iff_ne]; omega) hu ?_
      refine ⟨.bl _, H, I, ?_, q⟩
      show Value.bool _ = Value.bool _
      rw [decide_eq_false z]
      rfl
  · obtain ⟨i1, r1, l1, _⟩ := I.tuple h1
    obtain ⟨i2, r2, l2, _⟩ := I.tuple h2
    have e1 := r1.length
    have e2 := r2.length
    have z0 : min i1.toArray.size i2.toArray.size = 0 := by
      rw [List.size_toArray, List.size_toArray]
      rcases he with rfl | rfl <;> simp at e1 e2 <;> omega
    refine SeqAt.eq_tupleAt (e := fun _ => true) l1 l2 hu (fun j k1 k2 => by omega) ?_
    refine ⟨.bl _, H, I, ?_, q⟩
    show Value.bool _ = Value.bool _
    rw [z0]
    have e3 : (i1.toArray.size == i2.toArray.size) = decide (xs.length = ys.length) := by
      rw [List.size_toArray, List.size_toArray, ← e1, ← e2]
      rfl
    rw [e3]
    simp
theorem op_neE (hu : X.A.units < cLine) : OpR X (compareOp .NotEq) (rEqE true X.K) := by
  intro pins s σ H x y v u Q I rx ry h
  obtain ⟨a, b, xs, ys, rfl, rfl, hs, he, q⟩ := h
  cases rx
  cases ry
  rcases hs with ⟨h1, h2⟩ | ⟨h1, h2⟩
  · obtain ⟨i1, r1, l1, _⟩ := I.list h1
    obtain ⟨i2, r2, l2, _⟩ := I.list h2
    have e1 := r1.length
    have e2 := r2.length
    by_cases z : xs.length = ys.length
    · have z0 : i1.toArray.size = 0 := by
        have y : xs.length = 0 := by
          rcases he with e | e
          · rw [e]; rfl
          · rw [z, e]; rfl
        rw [List.size_toArray]
        omega
      refine SeqAt.RcNeAt.lists (e := fun _ => true) l1.isList l2.isList (by rw [List.size_toArray, List.size_toArray]; omega) hu (fun j k _ => by omega) X.prog X.w X.xe _ ?_
      refine ⟨.bl _, H, I, ?_, q⟩
      show Value.bool _ = Value.bool _
      rw [z0, decide_eq_true z]
      rfl
    · refine SeqAt.RcNeAt.lists_lengths l1.isList l2.isList (by simp only [List.size_toArray, bne_iff_ne]; omega) hu X.prog X.w X.xe _ ?_
      refine ⟨.bl _, H, I, ?_, q⟩
      show Value.bool _ = Value.bool _
      rw [decide_eq_false z]
      rfl
  · obtain ⟨i1, r1, l1, _⟩ := I.tuple h1
    obtain ⟨i2, r2, l2, _⟩ := I.tuple h2
    have e1 := r1.length
    have e2 := r2.length
    have z0 : min i1.toArray.size i2.toArray.size = 0 := by
      rw [List.size_toArray, List.size_toArray]
      rcases he with rfl | rfl <;> simp at e1 e2 <;> omega
    refine SeqAt.RcNeAt.tuples (e := fun _ => true) l1 l2 hu (fun j k1 k2 => by omega) X.prog X.w X.xe _ ?_
    refine ⟨.bl _, H, I, ?_, q⟩
    show Value.bool _ = Value.bool _
    rw [z0]
    have e3 : (i1.toArray.size == i2.toArray.size) = decide (xs.length = ys.length) := by
      rw [List.size_toArray, List.size_toArray, ← e1, ← e2]
      rfl
    rw [e3]
    simp
def rEqA (K : PySem.W.Frag) : R2 := fun x y H Q => rEq x y H Q ∨ rEqD K x y H Q ∨ rEqE false K x y H Q
def rNeA (K : PySem.W.Frag) : R2 := fun x y H Q => rNe x y H Q ∨ rNeD K x y H Q ∨ rEqE true K x y H Q
theorem eqv_empty {xs ys : List Dt} (h : xs = [] ∨ ys = []) : PyData.eqvAll xs ys = decide (xs.length = ys.length) := by
  rcases h with rfl | rfl
  · cases ys <;> simp [PyData.eqvAll]
  · cases xs <;> simp [PyData.eqvAll]
theorem rnil {K : PySem.W.Frag} {H : Hp} {vs : List V} {ds : List Dt} (h : RpAll K H vs ds) (e : ds = []) : vs = [] := by
  subst e
  cases h
  rfl
theorem scal_eq {K : PySem.W.Frag} {H : Hp} {x y : V} {d e : Dt} (hx : Rp K H x d) (hy : Rp K H y e) (ok : eqOk d e) : (scal x y = true ∧ decide (x = y) = PyData.eqv d e) ∨ (SeqAt.shaped d = true ∧ SeqAt.shaped e = true) ∨
    ∃ (a b : Addr) (xs ys : List V), x = .ref a ∧ y = .ref b ∧ ((SqL K H a xs ∧ SqL K H b ys) ∨ (SqT K H a xs ∧ SqT K H b ys)) ∧ (xs = [] ∨ ys = []) ∧ decide (xs.length = ys.length) = PyData.eqv d e := by
  cases d with
  | list ds =>
    cases e with
    | list es =>
      rcases ok with ok | ok
      · cases hx with
        | lst h1 h2 =>
          cases hy with
          | lst h3 h4 =>
            refine .inr (.inr ⟨_, _, _, _, rfl, rfl, .inl ⟨SqL.of h1, SqL.of h3⟩, ok.imp (rnil h2) (rnil h4), ?_⟩)
            rw [h2.length, h4.length, PyData.eqv, eqv_empty ok]
      · exact .inr (.inl ok)
    | _ => exact .inr (.inl ok)
  | tuple ds =>
    cases e with
    | tuple es =>
      rcases ok with ok | ok
      · cases hx with
        | tup h1 h2 =>
          cases hy with
          | tup h3 h4 =>
            refine .inr (.inr ⟨_, _, _, _, rfl, rfl, .inr ⟨h1, h3⟩, ok.imp (rnil h2) (rnil h4), ?_⟩)
            rw [h2.length, h4.length, PyData.eqv, eqv_empty ok]
      · exact .inr (.inl ok)
    | _ => exact .inr (.inl ok)
  | _ => cases e <;> first
    | exact .inr (.inl ok)
    | (cases hx; cases hy; left; refine ⟨rfl, ?_⟩; simp only [PyData.eqv]; first | rfl | exact dec_int | exact dec_bl | exact dec_str | simp)
theorem x2_eq : X2 X (rEqA X.K) oEq := by
  intro H n x y d e Q Qd W hx hy w q
  rcases scal_eq hx hy w.1 with ⟨h1, h2⟩ | ⟨h1, h2⟩ | ⟨a, b, xs, ys, e1, e2, e3, e4, e5⟩
  · exact .inl ⟨h1, by rw [h2]; exact q _ _ (fun _ => .bl _) w.2⟩
  · exact .inr (.inl ⟨d, e, hx.shp h1, hy.shp h2, h1, h2, q _ _ (fun _ => .bl _) w.2⟩)
  · exact .inr (.inr ⟨a, b, xs, ys, e1, e2, e3, e4, by rw [e5, Bool.false_xor]; exact q _ _ (fun _ => .bl _) w.2⟩)
theorem x2_ne : X2 X (rNeA X.K) oNe := by
  intro H n x y d e Q Qd W hx hy w q
  rcases scal_eq hx hy w.1 with ⟨h1, h2⟩ | ⟨h1, h2⟩ | ⟨a, b, xs, ys, e1, e2, e3, e4, e5⟩
  · exact .inl ⟨h1, by rw [h2]; exact q _ _ (fun _ => .bl _) w.2⟩
  · exact .inr (.inl ⟨d, e, hx.shp h1, hy.shp h2, h1, h2, q _ _ (fun _ => .bl _) w.2⟩)
  · exact .inr (.inr ⟨a, b, xs, ys, e1, e2, e3, e4, by rw [e5, Bool.true_xor]; exact q _ _ (fun _ => .bl _) w.2⟩)
theorem op_eqA (hu : X.A.units + 64 < cLine) : OpR X (compareOp .Eq) (rEqA X.K) := op_eq.or ((op_eqD hu).or (op_eqE (by omega)))
theorem op_neA (hu : X.A.units + 64 < cLine) : OpR X (compareOp .NotEq) (rNeA X.K) := op_ne.or ((op_neD hu).or (op_neE (by omega)))
/-- < of numbers, of texts -/
def oLt (d e : Dt) : Mv Dt := match d, e with
  | .int i, .int j => ret (.bool (decide (i < j)))
  | .str x, .str y => ret (.bool (decide (x.cps.toList < y.cps.toList)))
  | _, _ => bad
def rLtA : R2 := fun x y H Q => rI0 (fun i j => .bl (decide (i < j))) x y H Q ∨ (∃ i j, x = .str i ∧ y = .str j ∧ Q (.bl (decide (i.cps.toList < j.cps.toList))) H)
theorem op_ltA : OpR X (compareOp .Lt) rLtA := op_lt.or op_lt_str
theorem x2_lt : X2 X rLtA oLt := by
  intro H n x y d e Q Qd W hx hy w q
  cases d <;> cases e <;> first | exact w.elim | skip
  · cases hx; cases hy; exact .inl ⟨_, _, rfl, rfl, q _ _ (fun _ => .bl _) w⟩
  · cases hx; cases hy; exact .inr ⟨_, _, rfl, rfl, q _ _ (fun _ => .bl _) w⟩
abbrev oLe : Dt → Dt → Mv Dt := oC fun i j => decide (i ≤ j)
abbrev oGt : Dt → Dt → Mv Dt := oC fun i j => decide (j < i)
abbrev oGe : Dt → Dt → Mv Dt := oC fun i j => decide (j ≤ i)
/-- is None -/
def isNone : Dt → Bool
  | .none => true
  | _ => false
def oIsN (d e : Dt) : Mv Dt := match e with
  | .none => ret (.bool (isNone d))
  | _ => bad
def oNotN (d e : Dt) : Mv Dt := match e with
  | .none => ret (.bool (!isNone d))
  | _ => bad
theorem isN_eq {K : PySem.W.Frag} {H : Hp} {x : V} {d : Dt} (h : Rp K H x d) : decide (x = V.non) = isNone d := by
  cases h <;> rfl
theorem x2_isN : X2 X (fun x y H Q => y = .non ∧ Q (.bl (decide (x = .non))) H) oIsN := by
  intro H n x y d e Q Qd W hx hy w q
  cases e <;> first | exact w.elim | skip
  cases hy
  exact ⟨rfl, by rw [isN_eq hx]; exact q _ _ (fun _ => .bl _) w⟩
theorem x2_notN : X2 X (fun x y H Q => y = .non ∧ Q (.bl (!decide (x = .non))) H) oNotN := by
  intro H n x y d e Q Qd W hx hy w q
  cases e <;> first | exact w.elim | skip
  cases hy
  exact ⟨rfl, by rw [isN_eq hx]; exact q _ _ (fun _ => .bl _) w⟩
/-- is, is not of truths -/
def oIsB (d e : Dt) : Mv Dt := match d, e with
  | .bool a, .bool b => ret (.bool (decide (a = b)))
  | _, _ => bad
def oNotB (d e : Dt) : Mv Dt := match d, e with
  | .bool a, .bool b => ret (.bool (!decide (a = b)))
  | _, _ => bad
theorem x2_isB : X2 X rIsB oIsB := by
  intro H n x y d e Q Qd W hx hy w q
  cases d <;> cases e <;> first | exact w.elim | skip
  cases hx; cases hy
  exact ⟨_, _, rfl, rfl, q _ _ (fun _ => .bl _) w⟩
theorem x2_notB : X2 X rNotB oNotB := by
  intro H n x y d e Q Qd W hx hy w q
  cases d <;> cases e <;> first | exact w.elim | skip
  cases hx; cases hy
  exact ⟨_, _, rfl, rfl, q _ _ (fun _ => .bl _) w⟩
/-- in: a text in a text, flat data in a tuple or a list, data in a list -/
def hasT (z x : Str) : Bool := !(Builtin.Str.occurrences z x 0 z.length 1).isEmpty
def flatD : Dt → Bool
  | .none => true | .bool _ => true | .int _ => true | .str _ => true
  | _ => false
def inD (x : Dt) (ds : List Dt) : Bool := ds.any fun y => PyData.eqv y x
def inOk (x : Dt) : Dt → Prop
  | .str _ => ∃ y, x = .str y
  | .tuple ds => flatD x = true ∧ ds.all flatD = true
  | .list ds => SeqAt.shaped (.list ds) = true ∧ SeqAt.shaped x = true
  | _ => False
def inV' (x : Dt) : Dt → Bool
  | .str j => (match x with | .str i => hasT j i | _ => false)
  | .tuple ds => inD x ds
  | .list ds => inD x ds
  | _ => false
def oIn (x y : Dt) : Mv Dt := grd (inOk x y) (ret (.bool (inV' x y)))
def oNotIn (x y : Dt) : Mv Dt := grd (inOk x y) (ret (.bool (!inV' x y)))
theorem flat_of {K : PySem.W.Frag} {H : Hp} {x : V} {d : Dt} (h : Rp K H x d) (f : flatD d = true) : flatV x = true := by
  cases h <;> first | rfl | exact absurd f Bool.false_ne_true
theorem flats_of {K : PySem.W.Frag} {H : Hp} : ∀ {xs : List V} {ds : List Dt}, RpAll K H xs ds → ds.all flatD = true → xs.all flatV = true
  | _, [], h, _ => by cases h; rfl
  | _, d :: ds, h, f => by
    cases h with
    | cons h1 h2 =>
      rw [List.all_cons, Bool.and_eq_true] at f ⊢
      exact ⟨flat_of h1 f.1, flats_of h2 f.2⟩
theorem eqV_eq {K : PySem.W.Frag} {H : Hp} {x y : V} {d e : Dt} (hx : Rp K H x d) (hy : Rp K H y e) (fx : flatD d = true) (fy : flatD e = true) : eqV x y = PyData.eqv d e := by
  cases hx <;> cases hy <;> first
    | exact absurd fx Bool.false_ne_true
    | exact absurd fy Bool.false_ne_true
    | (simp only [eqV, PyData.eqv])
theorem inV_eq {K : PySem.W.Frag} {H : Hp} {x : V} {d : Dt} (hx : Rp K H x d) (fx : flatD d = true) : ∀ {xs : List V} {ds : List Dt}, RpAll K H xs ds → ds.all flatD = true → inV x xs = inD d ds
  | _, [], h, _ => by cases h; rfl
  | _, e :: ds, h, f => by
    cases h with
    | cons h1 h2 =>
      rw [List.all_cons, Bool.and_eq_true] at f
      have ih := inV_eq hx fx h2 f.2
      unfold inV inD at ih ⊢
      rw [List.any_cons, List.any_cons, ih, eqV_eq h1 hx f.1 fx]
def rInA (K : PySem.W.Frag) : R2 := fun x y H Q => (∃ i j, x = .str i ∧ y = .str j ∧ Q (.bl (!(Builtin.Str.occurrences j i 0 j.length 1).isEmpty)) H) ∨ rIn K false x y H Q ∨ rInD K x y H Q
def rNotInA (K : PySem.W.Frag) : R2 := fun x y H Q => (∃ i j, x = .str i ∧ y = .str j ∧ Q (.bl (!(!(Builtin.Str.occurrences j i 0 j.length 1).isEmpty))) H) ∨ rIn K true x y H Q ∨ rNotInD K x y H Q
theorem op_inA (hu : X.A.units + 65 < cLine) : OpR X (compareOp .In) (rInA X.K) := op_in_str.or (op_in_seq.or (op_inD hu))
theorem op_notInA (hu : X.A.units + 65 < cLine) : OpR X (compareOp .NotIn) (rNotInA X.K) := op_notin_str.or (op_notIn_seq.or (op_notInD hu))
theorem x2_in : X2 X (rInA X.K) oIn := by
  intro H n x y d e Q Qd W hx hy w q
  obtain ⟨ok, w⟩ := w
  cases e with
  | str j =>
    obtain ⟨i, rfl⟩ := ok
    cases hx; cases hy
    exact .inl ⟨_, _, rfl, rfl, q _ _ (fun _ => .bl _) w⟩
  | tuple ds =>
    cases hy with
    | tup h1 h2 =>
      exact .inr (.inl ⟨_, _, rfl, .inr h1, flat_of hx ok.1, flats_of h2 ok.2, by rw [if_neg Bool.false_ne_true, inV_eq hx ok.1 h2 ok.2]; exact q _ _ (fun _ => .bl _) w⟩)
  | list ds => exact .inr (.inr ⟨d, ds, hx.shp ok.2, hy.shp ok.1, ok.2, ok.1, q _ _ (fun _ => .bl _) w⟩)
  | _ => exact ok.elim
theorem x2_notIn : X2 X (rNotInA X.K) oNotIn := by
  intro H n x y d e Q Qd W hx hy w q
  obtain ⟨ok, w⟩ := w
  cases e with
  | str j =>
    obtain ⟨i, rfl⟩ := ok
    cases hx; cases hy
    exact .inl ⟨_, _, rfl, rfl, q _ _ (fun _ => .bl _) w⟩
  | tuple ds =>
    cases hy with
    | tup h1 h2 =>
      exact .inr (.inl ⟨_, _, rfl, .inr h1, flat_of hx ok.1, flats_of h2 ok.2, by rw [if_pos rfl, inV_eq hx ok.1 h2 ok.2]; exact q _ _ (fun _ => .bl _) w⟩)
  | list ds => exact .inr (.inr ⟨d, ds, hx.shp ok.2, hy.shp ok.1, ok.2, ok.1, q _ _ (fun _ => .bl _) w⟩)
  | _ => exact ok.elim
end
end Dl
namespace Dl
open PySem PySem.Spec L2

/-! ### repr of data: what the heap holds of a datum is read, and shown -/
section
variable {X : Cx} {pins : List (Addr × Obj)} {σ : L2.St} {H : Hp} {s : Shared}
theorem KV.keysVals {kvs : List (Key × V)} {vs : List (Key × Value)} (r : KV kvs vs) : ∀ {es : List DictEntry}, Pairs (mixKind X.prog X.w) es vs → Vals (kvs.map fun p => kV p.1) (es.map (·.key)) ∧ Vals (kvs.map (·.2)) (es.map (·.val)) := by
  induction r with
  | nil => intro es p; cases p; exact ⟨.nil, .nil⟩
  | @cons p q ps qs h t ih =>
    intro es pp
    cases pp with
    | cons h1 h2 h3 =>
      obtain ⟨i1, i2⟩ := ih h3
      refine ⟨.cons ?_ i1, .cons ?_ i2⟩
      · have e : p.1 = q.1 := h.1
        have g := keyIs_rel h1
        rw [← e] at g
        exact g
      · have g : RelV p.2 q.2 := h.2
        rw [← h2] at g
        exact g
mutual
theorem Rp.reads (I : Inv X pins σ H s) : ∀ (d : Dt) (v : V) (u : Value), Rp X.K H v d → RelV v u → ∃ as, Reads s.heap u d as
  | .none, _, _, h, r => by cases h; cases r; exact ⟨_, Reads.none⟩
  | .bool b, _, _, h, r => by cases h; cases r; exact ⟨_, Reads.bool b⟩
  | .int i, _, _, h, r => by cases h; obtain ⟨t, rfl⟩ := r; exact ⟨_, Reads.int i t⟩
  | .str x, _, _, h, r => by cases h; obtain ⟨t, rfl⟩ := r; exact ⟨_, Reads.str x t⟩
  | .list ds, _, _, h, r => by
    cases h with
    | lst hs ha =>
      cases r
      obtain ⟨its, rv, ⟨o, n, ho, hc, _, hd⟩, _⟩ := I.list (SqL.of hs)
      obtain ⟨as, hr⟩ := RpAll.reads I ds _ its ha rv
      exact ⟨_, Reads.list ho hc hd hr⟩
  | .tuple ds, _, _, h, r => by
    cases h with
    | tup hs ha =>
      cases r
      obtain ⟨its, rv, ⟨o, ho, hc, n, hd⟩, _⟩ := I.tuple hs
      obtain ⟨as, hr⟩ := RpAll.reads I ds _ its ha rv
      exact ⟨_, Reads.tuple ho hc hd hr⟩
  | .dict es, _, _, h, r => by
    cases h with
    | dct hs ha =>
      cases r
      obtain ⟨_, _, vs, rk, o, ee, ep, ho, hx, hd, _, hp, _⟩ := I.hok _ _ hs
      obtain ⟨r1, r2⟩ := KV.keysVals (X := X) rk hp
      obtain ⟨as, hr⟩ := RpKv.readsK I es _ _ ha r1
      obtain ⟨bs, hr2⟩ := RpKv.readsV I es _ _ ha r2
      exact ⟨_, Reads.dict ho hx.1 hd hr hr2⟩
theorem RpAll.reads (I : Inv X pins σ H s) : ∀ (ds : List Dt) (vs : List V) (us : List Value), RpAll X.K H vs ds → Vals vs us → ∃ as, ReadsAll s.heap us ds as
  | [], _, _, h, r => by cases h; cases r; exact ⟨_, ReadsAll.nil⟩
  | d :: ds, _, _, h, r => by
    cases h with
    | cons h1 h2 =>
      cases r with
      | cons r1 r2 =>
        obtain ⟨as, q1⟩ := Rp.reads I d _ _ h1 r1
        obtain ⟨bs, q2⟩ := RpAll.reads I ds _ _ h2 r2
        exact ⟨_, ReadsAll.cons q1 q2⟩
theorem RpKv.readsK (I : Inv X pins σ H s) : ∀ (es : List (Dt × Dt)) (kvs : List (Key × V)) (us : List Value), RpKv X.K H kvs es → Vals (kvs.map fun p => kV p.1) us → ∃ as, ReadsAll s.heap us (es.map (·.1)) as
  | [], _, _, h, r => by cases h; cases r; exact ⟨_, ReadsAll.nil⟩
  | (k, d) :: es, _, _, h, r => by
    cases h with
    | @cons k' v _ rr _ h1 h2 =>
      cases r with
      | cons r1 r2 =>
        obtain ⟨bs, q2⟩ := RpKv.readsK I es _ _ h2 r2
        cases k' with
        | inl i => obtain ⟨t, rfl⟩ := r1; exact ⟨_, ReadsAll.cons (Reads.int i t) q2⟩
        | inr x => obtain ⟨t, rfl⟩ := r1; exact ⟨_, ReadsAll.cons (Reads.str x t) q2⟩
theorem RpKv.readsV (I : Inv X pins σ H s) : ∀ (es : List (Dt × Dt)) (kvs : List (Key × V)) (us : List Value), RpKv X.K H kvs es → Vals (kvs.map (·.2)) us → ∃ as, ReadsAll s.heap us (es.map (·.2)) as
  | [], _, _, h, r => by cases h; cases r; exact ⟨_, ReadsAll.nil⟩
  | (k, d) :: es, _, _, h, r => by
    cases h with
    | @cons k' v _ rr _ h1 h2 =>
      cases r with
      | cons r1 r2 =>
        obtain ⟨as, q1⟩ := Rp.reads I d _ _ h1 r1
        obtain ⟨bs, q2⟩ := RpKv.readsV I es _ _ h2 r2
        exact ⟨_, ReadsAll.cons q1 q2⟩
end

/-- what stands below a datum, and that it is shown -/
abbrev Shows (X : Cx) (h : Heap) (d : Dt) (u : Value) : Prop := ∃ bs, ReadAtMost h d.depth bs ∧ ReprK X.prog X.w bs h d.depth u d.shown
abbrev ShowsAll (X : Cx) (h : Heap) (ds : List Dt) (us : List Value) : Prop := ∃ bs, ReadAtMost h (PyData.depthAll ds) bs ∧ ReprAllK X.prog X.w bs h (PyData.depthAll ds) us (PyData.shownAll ds)
theorem shows_cons {h : Heap} {d : Dt} {ds : List Dt} {u : Value} {us : List Value} (a : Shows X h d u) (b : ShowsAll X h ds us) : ShowsAll X h (d :: ds) (u :: us) := by
  obtain ⟨b1, h1, k1⟩ := a
  obtain ⟨b2, h2, k2⟩ := b
  refine ⟨b1 ++ b2, ?_, ?_⟩
  · simp only [PyData.depthAll]
    exact (h1.mono (Nat.le_max_left _ _)).append (h2.mono (Nat.le_max_right _ _))
  · simp only [PyData.depthAll, PyData.shownAll]
    exact .cons ((k1.more fun x hx => List.mem_append_left _ hx).level_le (Nat.le_max_left _ _)) (k2.more_le (fun x hx => List.mem_append_right _ hx) (Nat.le_max_right _ _))
theorem dict_shows {h : Heap} {es : List (Dt × Dt)} {ee : List DictEntry} (a : ShowsAll X h (es.map (·.1)) (ee.map (·.key))) (b : ShowsAll X h (es.map (·.2)) (ee.map (·.val))) :
    ∃ bs, ReadAtMost h (PyData.depthKv es) bs ∧ ReprEntriesK X.prog X.w bs h (PyData.depthKv es) ee (PyData.shownKv es) := by
  obtain ⟨b1, h1, k1⟩ := a
  obtain ⟨b2, h2, k2⟩ := b
  refine ⟨b1 ++ b2, (h1.mono (PyData.depthAll_keys_le es)).append (h2.mono (PyData.depthAll_vals_le es)), ?_⟩
  rw [PyData.shownKv_eq]
  exact ReprEntriesK.of_two ee _ _ (k1.more_le (fun x hx => List.mem_append_left _ hx) (PyData.depthAll_keys_le es)) (k2.more_le (fun x hx => List.mem_append_right _ hx) (PyData.depthAll_vals_le es))
mutual
theorem Rp.shows (I : Inv X pins σ H s) : ∀ (d : Dt) (v : V) (u : Value), Rp X.K H v d → RelV v u → d.showable = true → d.shown.length ≤ sizeLine → Shows X s.heap d u
  | .none, _, _, h, r, _, _ => by
    cases h; cases r
    exact ⟨[], (fun _ m => nomatch m), by simp only [PyData.shown]; exact .of_is ReprIs.none _ _ _⟩
  | .bool b, _, _, h, r, _, _ => by
    cases h; cases r
    exact ⟨[], (fun _ m => nomatch m), by simp only [PyData.shown]; exact .of_is (ReprIs.bool b) _ _ _⟩
  | .int i, _, _, h, r, sh, _ => by
    cases h; obtain ⟨t, rfl⟩ := r
    exact ⟨[], (fun _ m => nomatch m), by simp only [PyData.shown]; exact .of_is (ReprIs.int t (by simpa [PyData.showable] using sh)) _ _ _⟩
  | .str x, _, _, h, r, _, z => by
    cases h; obtain ⟨t, rfl⟩ := r
    exact ⟨[], (fun _ m => nomatch m), by simp only [PyData.shown]; exact .of_is (ReprIs.str x t (by simpa only [PyData.shown] using z)) _ _ _⟩
  | .list ds, v, u, h, r, sh, z => by
    obtain ⟨as, rd⟩ := Rp.reads I (.list ds) v u h r
    cases h with
    | lst hs ha =>
      cases r
      have z' : (listText (PyData.shownAll ds)).length ≤ sizeLine := by simpa only [PyData.shown] using z
      obtain ⟨its, rv, ⟨o, n, ho, hc, _, hd⟩, _⟩ := I.list (SqL.of hs)
      obtain ⟨bs, hb, hk⟩ := RpAll.shows I ds _ its ha rv (by simpa [PyData.showable] using sh) fun t ht => Nat.le_trans (listText_mem_le ht) z'
      have hna := not_mem_of_deeper rd (by simp only [PyData.depth]; omega) hb
      refine ⟨_ :: bs, ReadAtMost.cons rd (by simp only [PyData.depth]; omega) hb, ?_⟩
      simp only [PyData.depth, PyData.shown]
      cases its with
      | nil =>
        cases rv
        cases ds with
        | nil => simp only [PyData.shownAll, listText_nil]; exact ReprK.listEmpty ho hc hd
        | cons x y => cases ha
      | cons x l => exact ReprK.list ho hc hd hna (by simpa using hk.length_eq) fun i y e => hk.item i y (by simpa using e)
  | .tuple ds, v, u, h, r, sh, z => by
    obtain ⟨as, rd⟩ := Rp.reads I (.tuple ds) v u h r
    cases h with
    | tup hs ha =>
      cases r
      have z' : (tupleText (PyData.shownAll ds)).length ≤ sizeLine := by simpa only [PyData.shown] using z
      obtain ⟨its, rv, ⟨o, ho, hc, n, hd⟩, _⟩ := I.tuple hs
      obtain ⟨bs, hb, hk⟩ := RpAll.shows I ds _ its ha rv (by simpa [PyData.showable] using sh) fun t ht => Nat.le_trans (tupleText_mem_le ht) z'
      have hna := not_mem_of_deeper rd (by simp only [PyData.depth]; omega) hb
      refine ⟨_ :: bs, ReadAtMost.cons rd (by simp only [PyData.depth]; omega) hb, ?_⟩
      simp only [PyData.depth, PyData.shown]
      exact ReprK.tuple ho hc hd hna (by simpa using hk)
  | .dict es, v, u, h, r, sh, z => by
    obtain ⟨as, rd⟩ := Rp.reads I (.dict es) v u h r
    cases h with
    | dct hs ha =>
      cases r
      have z' : (dictText (PyData.shownKv es)).length ≤ sizeLine := by simpa only [PyData.shown] using z
      obtain ⟨_, sys, vs, rk, o, ee, ep, ho, hx, hd, _, hp, _⟩ := I.hok _ _ hs
      obtain ⟨r1, r2⟩ := KV.keysVals (X := X) rk hp
      obtain ⟨s1, s2⟩ := PyData.showableKv_split es (by simpa [PyData.showable] using sh)
      obtain ⟨bs, hb, hk⟩ := dict_shows (RpKv.showsK I es _ _ ha r1 s1 fun t ht => let ⟨p, hp, hl⟩ := PyData.shownKv_key_le es t ht; Nat.le_trans hl (Nat.le_trans (dictText_mem_le hp) z'))
        (RpKv.showsV I es _ _ ha r2 s2 fun t ht => let ⟨p, hp, hl⟩ := PyData.shownKv_val_le es t ht; Nat.le_trans hl (Nat.le_trans (dictText_mem_le hp) z'))
      have hna := not_mem_of_deeper rd (by simp only [PyData.depth]; omega) hb
      refine ⟨_ :: bs, ReadAtMost.cons rd (by simp only [PyData.depth]; omega) hb, ?_⟩
      simp only [PyData.depth, PyData.shown]
      exact ReprK.dict ho hx.1 hd sys hna hk
theorem RpAll.shows (I : Inv X pins σ H s) : ∀ (ds : List Dt) (vs : List V) (us : List Value), RpAll X.K H vs ds → Vals vs us → PyData.showableAll ds = true → (∀ t ∈ PyData.shownAll ds, t.length ≤ sizeLine) → ShowsAll X s.heap ds us
  | [], _, _, h, r, _, _ => by cases h; cases r; exact ⟨[], (fun _ m => nomatch m), by simp only [PyData.shownAll]; exact .nil⟩
  | d :: ds, _, _, h, r, sh, z => by
    cases h with
    | cons h1 h2 =>
      cases r with
      | cons r1 r2 =>
        have sh' : d.showable = true ∧ PyData.showableAll ds = true := by simpa [PyData.showableAll] using sh
        exact shows_cons (Rp.shows I d _ _ h1 r1 sh'.1 (z _ (by simp only [PyData.shownAll]; exact List.mem_cons_self))) (RpAll.shows I ds _ _ h2 r2 sh'.2 fun t ht => z t (by simp only [PyData.shownAll]; exact List.mem_cons_of_mem _ ht))
theorem RpKv.showsK (I : Inv X pins σ H s) : ∀ (es : List (Dt × Dt)) (kvs : List (Key × V)) (us : List Value), RpKv X.K H kvs es → Vals (kvs.map fun p => kV p.1) us → PyData.showableAll (es.map (·.1)) = true → (∀ t ∈ PyData.shownAll (es.map (·.1)), t.length ≤ sizeLine) → ShowsAll X s.heap (es.map (·.1)) us
  | [], _, _, h, r, _, _ => by cases h; cases r; exact ⟨[], (fun _ m => nomatch m), by simp only [List.map_nil, PyData.shownAll]; exact .nil⟩
  | (k, d) :: es, _, _, h, r, sh, z => by
    cases h with
    | @cons k' v _ rr _ h1 h2 =>
      cases r with
      | cons r1 r2 =>
        have sh' : (kD k').showable = true ∧ PyData.showableAll (es.map (·.1)) = true := by simpa [PyData.showableAll] using sh
        have z1 : (kD k').shown.length ≤ sizeLine := z _ (by simp only [List.map_cons, PyData.shownAll]; exact List.mem_cons_self)
        refine shows_cons ?_ (RpKv.showsK I es _ _ h2 r2 sh'.2 fun t ht => z t (by simp only [List.map_cons, PyData.shownAll]; exact List.mem_cons_of_mem _ ht))
        cases k' with
        | inl i =>
          obtain ⟨t, rfl⟩ := r1
          exact ⟨[], (fun _ m => nomatch m), by simp only [kD, PyData.shown]; exact .of_is (ReprIs.int t (by simpa [kD, PyData.showable] using sh'.1)) _ _ _⟩
        | inr x =>
          obtain ⟨t, rfl⟩ := r1
          exact ⟨[], (fun _ m => nomatch m), by simp only [kD, PyData.shown]; exact .of_is (ReprIs.str x t (by simpa only [kD, PyData.shown] using z1)) _ _ _⟩
theorem RpKv.showsV (I : Inv X pins σ H s) : ∀ (es : List (Dt × Dt)) (kvs : List (Key × V)) (us : List Value), RpKv X.K H kvs es → Vals (kvs.map (·.2)) us → PyData.showableAll (es.map (·.2)) = true → (∀ t ∈ PyData.shownAll (es.map (·.2)), t.length ≤ sizeLine) → ShowsAll X s.heap (es.map (·.2)) us
  | [], _, _, h, r, _, _ => by cases h; cases r; exact ⟨[], (fun _ m => nomatch m), by simp only [List.map_nil, PyData.shownAll]; exact .nil⟩
  | (k, d) :: es, _, _, h, r, sh, z => by
    cases h with
    | @cons k' v _ rr _ h1 h2 =>
      cases r with
      | cons r1 r2 =>
        have sh' : d.showable = true ∧ PyData.showableAll (es.map (·.2)) = true := by simpa [PyData.showableAll] using sh
        exact shows_cons (Rp.shows I d _ _ h1 r1 sh'.1 (z _ (by simp only [List.map_cons, PyData.shownAll]; exact List.mem_cons_self))) (RpKv.showsV I es _ _ h2 r2 sh'.2 fun t ht => z t (by simp only [List.map_cons, PyData.shownAll]; exact List.mem_cons_of_mem _ ht))
end
end

/-- repr: data of moderate depth -/
def shOk (d : Dt) : Prop := d.showable = true ∧ d.shown.length ≤ sizeLine ∧ d.depth ≤ 60
def oRepr : List Dt → Mv Dt
  | [d] => grd (shOk d) (ret (.str d.shown))
  | _ => bad
def rRepr (K : PySem.W.Frag) : List V → Hp → VK → Prop := fun xs H Q => ∃ x d, xs = [x] ∧ Rp K H x d ∧ shOk d ∧ Q (.str d.shown) H
section
variable {X : Cx} {g : Gh}
theorem call_repr (hg : X.A.guards = some []) (hu : X.A.units + 64 < cLine) : CallR X (.builtin "repr") (rRepr X.K) := by
  intro pins s σ H xs us Q I r h
  obtain ⟨x, d, rfl, rp, ⟨sh, z, dp⟩, q⟩ := h
  obtain ⟨u, rfl, rx⟩ := vals1 r
  have fin : ∀ (h' : Heap) (t tk : Nat), (∀ b o, s.heap.get? b = some o → h'.get? b = some o) → EP X pins σ Q (.str d.shown t) { s with heap := h', toks := tk } := fun h' t tk k => ⟨.str d.shown, H, I.kept k, ⟨_, rfl⟩, q⟩
  have same : ∀ t : Nat, EP X pins σ Q (.str d.shown s.toks) { s with toks := t } := fun t => fin s.heap s.toks t fun _ _ e => e
  cases d with
  | none =>
    cases rp; cases rx
    exact P.repr_of_none (same _)
  | bool b =>
    cases rp; cases rx
    exact P.repr_of_bool (by simpa only [PyData.shown] using same _)
  | int i =>
    cases rp; obtain ⟨t, rfl⟩ := rx
    exact P.repr_of_int (by simpa [PyData.showable] using sh) (by simpa only [PyData.shown] using same _)
  | str y =>
    cases rp; obtain ⟨t, rfl⟩ := rx
    exact P.repr_of_str (by simpa only [PyData.shown] using same _) (by simpa only [PyData.shown] using z)
  | list ds =>
    obtain ⟨bs, hb, hk⟩ := Rp.shows I _ _ _ rp rx sh z
    obtain ⟨as, rd⟩ := Rp.reads I _ _ _ rp rx
    cases rp with
    | lst hs ha =>
      cases rx
      have z' : (listText (PyData.shownAll ds)).length ≤ sizeLine := by simpa only [PyData.shown] using z
      have dp' : PyData.depthAll ds + 1 ≤ 60 := by simp only [PyData.depth] at dp; omega
      obtain ⟨its, rv, ⟨o, n, ho, hc, _, hd⟩, _⟩ := I.list (SqL.of hs)
      obtain ⟨bs, hb, hk⟩ := RpAll.shows I ds _ its ha rv (by simpa [PyData.showable] using sh) fun t ht => Nat.le_trans (listText_mem_le ht) z'
      have hna := not_mem_of_deeper rd (by simp only [PyData.depth]; omega) hb
      refine call_repr_slot (by omega) ⟨o, ho, hc⟩ F.slot_list_repr.toG ?_
      cases its with
      | nil =>
        cases rv
        cases ds with
        | nil => exact call_list_repr_empty ⟨o, ho, hc⟩ ho hd ⟨_, _, rfl, by have := same (s.toks + 1); simpa only [PyData.shown, PyData.shownAll, listText_nil] using this⟩
        | cons x y => cases ha
      | cons x l => exact call_list_reprK ho hc hd hna (by simpa using hk.length_eq) (fun i y e => hk.item i y (by simpa using e)) hg (fun b _ => Clear.nil b) (by show X.A.units + 1 + _ < cLine; omega) (fun _ _ e => e) (fun h' t tk k => ⟨_, _, rfl, by have := fin h' t tk k; simpa only [PyData.shown] using this⟩) z'
  | tuple ds =>
    obtain ⟨as, rd⟩ := Rp.reads I _ _ _ rp rx
    cases rp with
    | tup hs ha =>
      cases rx
      have z' : (tupleText (PyData.shownAll ds)).length ≤ sizeLine := by simpa only [PyData.shown] using z
      have dp' : PyData.depthAll ds + 1 ≤ 60 := by simp only [PyData.depth] at dp; omega
      obtain ⟨its, rv, ⟨o, ho, hc, n, hd⟩, _⟩ := I.tuple hs
      obtain ⟨bs, hb, hk⟩ := RpAll.shows I ds _ its ha rv (by simpa [PyData.showable] using sh) fun t ht => Nat.le_trans (tupleText_mem_le ht) z'
      have hna := not_mem_of_deeper rd (by simp only [PyData.depth]; omega) hb
      refine call_repr_slot (by omega) ⟨o, ho, hc⟩ F.slot_tuple_repr ?_
      exact call_tuple_reprK ho hc hd hna (by simpa using hk) hg (fun b _ => Clear.nil b) (by show X.A.units + 1 + _ < cLine; omega) (fun _ _ e => e) (fun h' t tk k => ⟨_, _, rfl, by have := fin h' t tk k; simpa only [PyData.shown] using this⟩) z'
  | dict es =>
    obtain ⟨as, rd⟩ := Rp.reads I _ _ _ rp rx
    cases rp with
    | dct hs ha =>
      cases rx
      have z' : (dictText (PyData.shownKv es)).length ≤ sizeLine := by simpa only [PyData.shown] using z
      have dp' : PyData.depthKv es + 1 ≤ 60 := by simp only [PyData.depth] at dp; omega
      obtain ⟨_, sys, vs, rk, o, ee, ep, ho, hx, hd, _, hp, _⟩ := I.hok _ _ hs
      obtain ⟨r1, r2⟩ := KV.keysVals (X := X) rk hp
      obtain ⟨s1, s2⟩ := PyData.showableKv_split es (by simpa [PyData.showable] using sh)
      obtain ⟨bs, hb, hk⟩ := dict_shows (RpKv.showsK I es _ _ ha r1 s1 fun t ht => let ⟨p, hp, hl⟩ := PyData.shownKv_key_le es t ht; Nat.le_trans hl (Nat.le_trans (dictText_mem_le hp) z'))
        (RpKv.showsV I es _ _ ha r2 s2 fun t ht => let ⟨p, hp, hl⟩ := PyData.shownKv_val_le es t ht; Nat.le_trans hl (Nat.le_trans (dictText_mem_le hp) z'))
      have hna := not_mem_of_deeper rd (by simp only [PyData.depth]; omega) hb
      refine call_repr_slot (by omega) ⟨o, ho, hx.1⟩ F.slot_dict_repr ?_
      exact call_dict_reprK ho hx.1 hd sys hna hk hg (fun b _ => Clear.nil b) (by show X.A.units + 1 + _ < cLine; omega) (fun _ _ e => e) (fun h' t tk k => ⟨_, _, rfl, by have := fin h' t tk k; simpa only [PyData.shown] using this⟩) z'
theorem xc_repr : XC X (rRepr X.K) oRepr := by
  intro H n xs ds Q Qd W h w q
  match ds, w with
  | [d], w =>
    cases h with
    | cons h1 h2 =>
      cases h2
      exact ⟨_, d, rfl, h1, w.1, q _ _ (fun _ => .str _) w.2⟩
end
end Dl
namespace Dl
open PySem PySem.Spec L2

section
variable {X : Cx}
theorem rp1 {K : PySem.W.Frag} {F : Hp} {xs : List V} {d : Dt} (h : RpAll K F xs [d]) : ∃ x, xs = [x] ∧ Rp K F x d := by
  cases h with
  | cons h1 h2 => cases h2; exact ⟨_, rfl, h1⟩
theorem rp2 {K : PySem.W.Frag} {F : Hp} {xs : List V} {d e : Dt} (h : RpAll K F xs [d, e]) : ∃ x y, xs = [x, y] ∧ Rp K F x d ∧ Rp K F y e := by
  cases h with
  | cons h1 h2 =>
    obtain ⟨y, rfl, h3⟩ := rp1 h2
    exact ⟨_, y, rfl, h1, h3⟩
def oLen : List Dt → Mv Dt
  | [.str x] => grd (x.length ≤ sizeLine) (ret (.int x.length))
  | [.list xs] => ret (.int xs.length)
  | [.tuple xs] => ret (.int xs.length)
  | _ => bad
theorem xc_len : XC X (fun xs H Q => ∃ x n, xs = [x] ∧ LenV X.K x H n ∧ Q (.int n) H) oLen := by
  intro H n xs ds Q Qd W h w q
  match ds, w with
  | [.str x], w =>
    obtain ⟨v, rfl, r⟩ := rp1 h
    cases r
    exact ⟨_, _, rfl, ⟨w.1, rfl⟩, q _ _ (fun _ => .int _) w.2⟩
  | [.list ys], w =>
    obtain ⟨v, rfl, r⟩ := rp1 h
    cases r with
    | lst h1 h2 => exact ⟨_, _, rfl, .inl ⟨_, SqL.of h1, rfl⟩, by rw [h2.length]; exact q _ _ (fun _ => .int _) w⟩
  | [.tuple ys], w =>
    obtain ⟨v, rfl, r⟩ := rp1 h
    cases r with
    | tup h1 h2 => exact ⟨_, _, rfl, .inr ⟨_, h1, rfl⟩, by rw [h2.length]; exact q _ _ (fun _ => .int _) w⟩
end
/-! ### one list that can be read -/
section
variable {K : PySem.W.Frag} {hd : Hd} {F H : Hp} {n : Nat}
theorem RpX.lst {v : V} {ds : List Dt} (h : RpX K hd F H v (.list ds)) (s : Same F H) : ∃ a vs, v = .ref a ∧ H a = some (.lst vs) ∧ RpAll K F vs ds := by
  rcases h with h | ⟨a, vs, ds', e1, e2, h1, h2, h3⟩
  · cases h with
    | lst h1 h2 => exact ⟨_, _, rfl, s _ _ h1, h2⟩
  · cases e2
    exact ⟨a, vs, e1, h1, h3⟩
theorem RpX.dat {v : V} {d : Dt} (h : RpX K hd F H v d) (n : ∀ ds, d ≠ .list ds) : Rp K F v d := by
  rcases h with h | ⟨a, vs, ds', e1, e2, h1, h2, h3⟩
  · exact h
  · exact absurd e2 (n ds')
theorem RpX.tup {v : V} {ds : List Dt} (h : RpX K hd F H v (.tuple ds)) : ∃ a vs, v = .ref a ∧ SqT K F a vs ∧ RpAll K F vs ds := by
  have q := h.dat (fun _ e => nomatch e)
  cases q with
  | tup h1 h2 => exact ⟨_, _, rfl, h1, h2⟩
theorem RpX.str {v : V} {x : Str} (h : RpX K hd F H v (.str x)) : v = .str x := by
  have q := h.dat (fun _ e => nomatch e)
  cases q; rfl
theorem RpX.int {v : V} {x : Int} (h : RpX K hd F H v (.int x)) : v = .int x := by
  have q := h.dat (fun _ e => nomatch e)
  cases q; rfl
/-- a list that was just laid, frozen at once -/
theorem laid_lst {F0 H0 : Hp} {p : Addr} {vs : List V} {ds : List Dt} (rb : RelB hd F0 H0 F H n) (np : H p = none) (ra : RpAll K F vs ds) : RelB hd F0 H0 (upd F p (.lst vs)) (upd H p (.lst vs)) n ∧ Rp K (upd F p (.lst vs)) (.ref p) (.list ds) :=
  ⟨rb.lay np, .lst upd_same (ra.ext' (fresh_ext rb.sub np))⟩
theorem laid_tup {F0 H0 : Hp} {p : Addr} {vs : List V} {ds : List Dt} (rb : RelB hd F0 H0 F H n) (np : H p = none) (ra : RpAll K F vs ds) : RelB hd F0 H0 (upd F p (.tup vs)) (upd H p (.tup vs)) n ∧ Rp K (upd F p (.tup vs)) (.ref p) (.tuple ds) :=
  ⟨rb.lay np, .tup (SqT.of upd_same) (ra.ext' (fresh_ext rb.sub np))⟩
theorem ixN_len {m n : Nat} (e : m = n) (i : Int) : ixN m i = ixN n i := by rw [e]
theorem RpAll.atI {vs : List V} {ds : List Dt} {i : Int} {d : Dt} (h : RpAll K F vs ds) (e : L2.atI ds i = some d) : ∃ v, L2.atI vs i = some v ∧ Rp K F v d := by
  unfold L2.atI at e ⊢
  rw [h.length]
  cases q : ixN ds.length i with
  | none => rw [q] at e; cases e
  | some j =>
    rw [q] at e
    exact h.at e
def cutD (xs : List Dt) (lo hi : Option Int) : List Dt := (xs.drop (HT.sIx xs.length 0 lo)).take (HT.sIx xs.length xs.length hi - HT.sIx xs.length 0 lo)
theorem RpAll.cut {vs : List V} {ds : List Dt} (h : RpAll K F vs ds) (lo hi : Option Int) : RpAll K F (cutV vs lo hi) (cutD ds lo hi) := by
  unfold cutV cutD
  rw [h.length]
  exact (h.drop _).take _
theorem cutD_whole {ds : List Dt} {lo hi : Option Int} (h : HT.sIx ds.length 0 lo = 0 ∧ HT.sIx ds.length ds.length hi = ds.length) : cutD ds lo hi = ds := by
  unfold cutD
  rw [h.1, h.2]
  simp
end

/-- two-place operations whose operands can be read now and whose result is frozen -/
def D2X (X : Cx) (g : Gh) (r : R2) (o : Dt → Dt → Mv Dt) : Prop := ∀ (F H : Hp) (n : Nat) (x y : V) (d e : Dt) (Q : VK) (Qd : Kd Dt), RelB g.hd F H F H n → RpX X.K g.hd F H x d → RpX X.K g.hd F H y e → o d e n Qd g.W →
  (∀ v d' F' H' n', RelB g.hd F H F' H' n' → Rp X.K F' v d' → Qd d' n' → Q v H') → r x y H Q

section
variable {X : Cx} {g : Gh} {a b c e : Expr} {es : List Expr} {pos : Pos} {ma mb mc : Me Dt}
theorem de_opX {op : Operator} {r : R2} {o : Dt → Dt → Mv Dt} (ho : OpR X (binaryOp op) r) (k : D2X X g r o) (ha : DX X g a ma) (hb : DX X g b mb) :
    DE X g (.BinOp a op b pos) (fun δ => bnd (ma δ) fun x => bnd (mb δ) fun y => o x y) := by
  obtain ⟨t, p, ha⟩ := ha
  obtain ⟨u, p2, hb⟩ := hb
  refine ⟨_, pe_op ho p p2, fun σ H F δ n Q Qd R q w => ?_⟩
  refine ha σ H F δ n _ _ R (fun v d F1 H1 n1 rb rp hq => ?_) w
  refine hb σ H1 F1 δ n1 _ _ (R.ext rb) (fun v2 d2 F2 H2 n2 rb2 rp2 hq2 => ?_) hq
  exact k F2 H2 n2 v v2 d d2 Q Qd rb2.refl (rp.ext rb2) rp2 hq2 fun v' d' F' H' n' r3 p3 q3 => q v' d' F' H' n' ((rb.trans rb2).trans r3) p3 q3
/-- x + y: numbers, texts, tuples, lists -/
def oPlus (d e : Dt) : Mv Dt := match d, e with
  | .int i, .int j => ret (.int (i + j))
  | .str x, .str y => grd (x.length + y.length ≤ sizeLine) (ret (.str (x ++ y)))
  | .tuple xs, .tuple ys => grd (xs.length + ys.length ≤ sizeLine) (ret (.tuple (xs ++ ys)))
  | .list xs, .list ys => grd (xs.length + ys.length ≤ sizeLine) (ret (.list (xs ++ ys)))
  | _, _ => bad
theorem d2x_plus : D2X X g (fun x y H Q => rAddA X.K x y H Q ∨ rCat x y H Q) oPlus := by
  intro F H n x y d e Q Qd rb hx hy w q
  cases d <;> cases e <;> first | exact w.elim | skip
  · exact .inl (d2_add F H n x y _ _ Q Qd rb (hx.dat fun _ e => nomatch e) (hy.dat fun _ e => nomatch e) w q)
  · exact .inl (d2_add F H n x y _ _ Q Qd rb (hx.dat fun _ e => nomatch e) (hy.dat fun _ e => nomatch e) w q)
  · obtain ⟨a, vs, rfl, h1, r1⟩ := hx.lst rb.sub
    obtain ⟨b, us, rfl, h2, r2⟩ := hy.lst rb.sub
    refine .inr ⟨a, b, vs, us, rfl, rfl, h1, h2, by rw [r1.length, r2.length]; exact w.1, fun p np => ?_⟩
    obtain ⟨l1, l2⟩ := laid_lst rb np (r1.app r2)
    exact q _ _ _ _ n l1 l2 w.2
  · exact .inl (d2_add F H n x y _ _ Q Qd rb (hx.dat fun _ e => nomatch e) (hy.dat fun _ e => nomatch e) w q)
theorem de_plus (ha : DX X g a ma) (hb : DX X g b mb) : DE X g (.BinOp a .Add b pos) (fun δ => bnd (ma δ) fun x => bnd (mb δ) fun y => oPlus x y) := de_opX (op_addA.or op_cat) d2x_plus ha hb
/-- x * y -/
def oTimes (d e : Dt) : Mv Dt := match d, e with
  | .int i, .int j => grd (CMul i j) (ret (.int (i * j)))
  | .str x, .int k => grd (MulOk x k) (ret (.str (Txt.mul x k)))
  | .tuple xs, .int k => grd (xs ≠ [] ∧ 2 ≤ k ∧ k ≤ 1000 ∧ xs.length ≤ 1000) (ret (.tuple (repT xs k)))
  | .list xs, .int k => grd (k ≤ 1000 ∧ 0 ≤ k ∧ xs.length ≤ 1000) (ret (.list (repT xs k)))
  | _, _ => bad
theorem d2x_times : D2X X g (fun x y H Q => rMulA X.K x y H Q ∨ rRep x y H Q) oTimes := by
  intro F H n x y d e Q Qd rb hx hy w q
  cases d <;> cases e <;> first | exact w.elim | skip
  · exact .inl (d2_mul F H n x y _ _ Q Qd rb (hx.dat fun _ e => nomatch e) (hy.dat fun _ e => nomatch e) w q)
  · exact .inl (d2_mul F H n x y _ _ Q Qd rb (hx.dat fun _ e => nomatch e) (hy.dat fun _ e => nomatch e) w q)
  · obtain ⟨a, vs, rfl, h1, r1⟩ := hx.lst rb.sub
    obtain rfl := hy.int
    obtain ⟨⟨w1, w2, w3⟩, w4⟩ := w
    rename_i ds k
    refine .inr ⟨a, k, vs, rfl, rfl, h1, by omega, by omega, ?_, fun p np => ?_⟩
    · rw [r1.length]
      have h2 : k.toNat ≤ 1000 := by omega
      have h3 := Nat.mul_le_mul w3 h2
      exact Nat.le_trans h3 (by decide)
    · obtain ⟨l1, l2⟩ := laid_lst rb np (r1.rep k.toNat)
      exact q _ _ _ _ n l1 l2 w4
  · exact .inl (d2_mul F H n x y _ _ Q Qd rb (hx.dat fun _ e => nomatch e) (hy.dat fun _ e => nomatch e) w q)
theorem de_times (ha : DX X g a ma) (hb : DX X g b mb) : DE X g (.BinOp a .Mult b pos) (fun δ => bnd (ma δ) fun x => bnd (mb δ) fun y => oTimes x y) := de_opX (op_mulA.or op_rep) d2x_times ha hb

/-! ### subscripts -/
def oAt (d i : Dt) : Mv Dt := match d, i with
  | .list xs, .int k => (match L2.atI xs k with | some y => ret y | none => bad)
  | .tuple xs, .int k => (match L2.atI xs k with | some y => ret y | none => bad)
  | .str z, .int k => grd (z.length ≤ sizeLine) (match L2.atI z.cps.toList k with | some c => ret (.str ⟨#[c]⟩) | none => bad)
  | _, _ => bad
theorem d2x_at : D2X X g (rIx X.K) oAt := by
  intro F H n x y d e Q Qd rb hx hy w q
  cases d <;> cases e <;> first | exact w.elim | skip
  · obtain rfl := hx.str
    obtain rfl := hy.int
    obtain ⟨w1, w⟩ := w
    rename_i z k
    cases h : L2.atI z.cps.toList k with
    | none => rw [h] at w; exact w.elim
    | some y =>
      rw [h] at w
      exact .inr (.inr ⟨z, k, y, rfl, rfl, w1, h, q _ _ F H n rb (.str _) w⟩)
  · obtain ⟨a, vs, rfl, h1, r1⟩ := hx.lst rb.sub
    obtain rfl := hy.int
    rename_i ds k
    have w : (match L2.atI ds k with | some y => ret y | none => bad : Mv Dt) n Qd g.W := w
    cases h : L2.atI ds k with
    | none => rw [h] at w; exact w.elim
    | some y =>
      rw [h] at w
      obtain ⟨v, h2, h3⟩ := r1.atI h
      exact .inl ⟨a, vs, k, v, rfl, rfl, SqL.of h1, h2, q _ _ F H n rb h3 w⟩
  · obtain ⟨a, vs, rfl, h1, r1⟩ := hx.tup
    obtain rfl := hy.int
    rename_i ds k
    have w : (match L2.atI ds k with | some y => ret y | none => bad : Mv Dt) n Qd g.W := w
    cases h : L2.atI ds k with
    | none => rw [h] at w; exact w.elim
    | some y =>
      rw [h] at w
      obtain ⟨v, h2, h3⟩ := r1.atI h
      exact .inr (.inl ⟨a, vs, k, v, rfl, rfl, sqT_ext rb.sub h1, h2, q _ _ F H n rb h3 w⟩)
theorem de_at (ha : DX X g a ma) (hb : DX X g b mb) (hs : PlainIx b) : DE X g (.Subscript a b pos) (fun δ => bnd (ma δ) fun x => bnd (mb δ) fun y => oAt x y) := by
  obtain ⟨t, p, ha⟩ := ha
  obtain ⟨u, p2, hb⟩ := hb
  refine ⟨_, pe_ix ix_seq p p2 hs, fun σ H F δ n Q Qd R q w => ?_⟩
  refine ha σ H F δ n _ _ R (fun v d F1 H1 n1 rb rp hq => ?_) w
  refine hb σ H1 F1 δ n1 _ _ (R.ext rb) (fun v2 d2 F2 H2 n2 rb2 rp2 hq2 => ?_) hq
  exact d2x_at F2 H2 n2 v v2 d d2 Q Qd rb2.refl (rp.ext rb2) rp2 hq2 fun v' d' F' H' n' r3 p3 q3 => q v' d' F' H' n' ((rb.trans rb2).trans r3) p3 q3
/-- a slice's bound -/
def DO (X : Cx) (g : Gh) (e : Option Expr) (m : Me (Option Int)) : Prop := ∃ t : TO, PO X e t ∧ ∀ (σ : L2.St) (H F : Hp) (δ : List Ds) (n : Nat) (Q : Option Int → Hp → Prop) (Qd : Kd (Option Int)), g.R X.K F σ H δ n →
  (∀ o F' H' n', RelB g.hd F H F' H' n' → Qd o n' → Q o H') → m δ n Qd g.W → t σ H Q
theorem do_none : DO X g none (fun _ => ret none) := ⟨_, po_none, fun σ H F δ n Q Qd r q w => q none F H n r.b.refl w⟩
def asI (d : Dt) : Mv (Option Int) := match d with
  | .int i => ret (some i)
  | _ => bad
theorem do_some (h : DE X g e ma) : DO X g (some e) (fun δ => bnd (ma δ) asI) := by
  obtain ⟨t, p, h⟩ := h
  refine ⟨_, po_some p, fun σ H F δ n Q Qd r q w => h σ H F δ n _ _ r (fun v d F' H' n' rb rp hq => ?_) w⟩
  cases d with
  | int i => cases rp; exact ⟨i, rfl, q _ F' H' n' rb hq⟩
  | _ => exact hq.elim
def oCut (d : Dt) (lo hi : Option Int) : Mv Dt := match d with
  | .str z => grd (z.length ≤ sizeLine) (ret (.str (Txt.slice z lo hi)))
  | .tuple xs => ret (.tuple (cutD xs lo hi))
  | .list xs => ret (.list (cutD xs lo hi))
  | _ => bad
theorem de_cut {lo hi : Option Expr} {p2 : Pos} {ml mh : Me (Option Int)} (ha : DX X g a ma) (hl : DO X g lo ml) (hh : DO X g hi mh) :
    DE X g (.Subscript a (.Slice lo hi none p2) pos) (fun δ => bnd (ma δ) fun x => bnd (ml δ) fun l => bnd (mh δ) fun h => oCut x l h) := by
  obtain ⟨t, p, ha⟩ := ha
  obtain ⟨u, p3, hl⟩ := hl
  obtain ⟨u2, p4, hh⟩ := hh
  refine ⟨_, pe_slice (C8.sl_txt.or (sl_tupA.or sl_list)) p p3 p4, fun σ H F δ n Q Qd R q w => ?_⟩
  refine ha σ H F δ n _ _ R (fun v d F1 H1 n1 rb rp hq => ?_) w
  refine hl σ H1 F1 δ n1 _ _ (R.ext rb) (fun l F2 H2 n2 rb2 hq2 => ?_) hq
  refine hh σ H2 F2 δ n2 _ _ ((R.ext rb).ext rb2) (fun h F3 H3 n3 rb3 hq3 => ?_) hq2
  have rp3 := (rp.ext rb2).ext rb3
  have RB := (rb.trans rb2).trans rb3
  cases d with
  | str z =>
    obtain rfl := rp3.str
    exact .inl ⟨z, rfl, hq3.1, q _ _ F3 H3 n3 RB (.str _) hq3.2⟩
  | tuple xs =>
    obtain ⟨a, vs, rfl, h1, r1⟩ := rp3.tup
    refine .inr (.inl ⟨a, vs, rfl, sqT_ext rb3.sub h1, fun z => ?_, fun z p np => ?_⟩)
    · rw [r1.length] at z
      have e : Qd (.tuple (cutD xs l h)) n3 := hq3
      rw [cutD_whole z] at e
      exact q _ _ F3 H3 n3 RB (.tup h1 r1) e
    · obtain ⟨l1, l2⟩ := laid_tup RB np (r1.cut l h)
      exact q _ _ _ _ n3 l1 l2 hq3
  | list xs =>
    obtain ⟨a, vs, rfl, h1, r1⟩ := rp3.lst rb3.sub
    refine .inr (.inr ⟨a, vs, rfl, SqL.of h1, fun p np => ?_⟩)
    obtain ⟨l1, l2⟩ := laid_lst RB np (r1.cut l h)
    exact q _ _ _ _ n3 l1 l2 hq3
  | _ => exact hq3.elim
/-- xs[::-1] of a list -/
def oRevL (d : Dt) : Mv Dt := match d with
  | .list xs => ret (.list xs.reverse)
  | _ => bad
theorem de_revL {k : Nat} {p1 p2 p3 : Pos} (ha : DX X g a ma) : DE X g (.Subscript a (.Slice none none (some (.UnaryOp .USub (.Constant (.int 1) k p1) p2)) p3) pos) (fun δ => bnd (ma δ) oRevL) := by
  obtain ⟨t, p, ha⟩ := ha
  refine ⟨_, pe_revL p, fun σ H F δ n Q Qd R q w => ha σ H F δ n _ _ R (fun v d F1 H1 n1 rb rp hq => ?_) w⟩
  cases d with
  | list xs =>
    obtain ⟨a, vs, rfl, h1, r1⟩ := rp.lst rb.sub
    refine ⟨a, vs, rfl, SqL.of h1, fun p np => ?_⟩
    obtain ⟨l1, l2⟩ := laid_lst rb np r1.rev
    exact q _ _ _ _ n1 l1 l2 hq
  | _ => exact hq.elim

/-! ### isinstance -/
def tyOf : Dt → String
  | .none => "NoneType" | .bool _ => "bool" | .int _ => "int" | .str _ => "str" | .list _ => "list" | .tuple _ => "tuple" | .dict _ => "dict"
theorem tyx_of {K : PySem.W.Frag} {H : Hp} {v : V} {d : Dt} (h : Rp K H v d) : TyX K H v (.type (tyOf d)) := by
  cases h with
  | non => exact .base .non
  | bl b => exact .base (.bl b)
  | int i => exact .base (.int i)
  | str x => exact .base (.str x)
  | lst h1 h2 => exact .base (.lst h1)
  | tup h1 h2 =>
    rcases h1 with (h1 | ⟨o, h1⟩) | ⟨o, its, n, h1, h2, h3, h4⟩
    · exact .base (.tup h1)
    · exact .fTuple h1
    · exact .kTuple h1 h2
  | dct h1 h2 => exact .base (.dK h1)
/-- the data of a type -/
def isBool : Dt → Bool
  | .none => false
  | .bool _ => true
  | .int _ => false
  | .str _ => false
  | .list _ => false
  | .tuple _ => false
  | .dict _ => false
def isInt : Dt → Bool
  | .none => false
  | .bool _ => true
  | .int _ => true
  | .str _ => false
  | .list _ => false
  | .tuple _ => false
  | .dict _ => false
def isStr : Dt → Bool
  | .none => false
  | .bool _ => false
  | .int _ => false
  | .str _ => true
  | .list _ => false
  | .tuple _ => false
  | .dict _ => false
def isList : Dt → Bool
  | .none => false
  | .bool _ => false
  | .int _ => false
  | .str _ => false
  | .list _ => true
  | .tuple _ => false
  | .dict _ => false
def isTup : Dt → Bool
  | .none => false
  | .bool _ => false
  | .int _ => false
  | .str _ => false
  | .list _ => false
  | .tuple _ => true
  | .dict _ => false
def isDct : Dt → Bool
  | .none => false
  | .bool _ => false
  | .int _ => false
  | .str _ => false
  | .list _ => false
  | .tuple _ => false
  | .dict _ => true
def isTS (T : String) (f : Dt → Bool) : Prop := ∀ d : Dt, kitB (tyOf d) T = some (f d)
theorem ts_bool : isTS "bool" isBool := fun d => by
  cases d with
  | none => exact (by decide +kernel : kitB "NoneType" "bool" = some false)
  | bool _ => exact (by decide +kernel : kitB "bool" "bool" = some true)
  | int _ => exact (by decide +kernel : kitB "int" "bool" = some false)
  | str _ => exact (by decide +kernel : kitB "str" "bool" = some false)
  | list _ => exact (by decide +kernel : kitB "list" "bool" = some false)
  | tuple _ => exact (by decide +kernel : kitB "tuple" "bool" = some false)
  | dict _ => exact (by decide +kernel : kitB "dict" "bool" = some false)
theorem ts_int : isTS "int" isInt := fun d => by
  cases d with
  | none => exact (by decide +kernel : kitB "NoneType" "int" = some false)
  | bool _ => exact (by decide +kernel : kitB "bool" "int" = some true)
  | int _ => exact (by decide +kernel : kitB "int" "int" = some true)
  | str _ => exact (by decide +kernel : kitB "str" "int" = some false)
  | list _ => exact (by decide +kernel : kitB "list" "int" = some false)
  | tuple _ => exact (by decide +kernel : kitB "tuple" "int" = some false)
  | dict _ => exact (by decide +kernel : kitB "dict" "int" = some false)
theorem ts_str : isTS "str" isStr := fun d => by
  cases d with
  | none => exact (by decide +kernel : kitB "NoneType" "str" = some false)
  | bool _ => exact (by decide +kernel : kitB "bool" "str" = some false)
  | int _ => exact (by decide +kernel : kitB "int" "str" = some false)
  | str _ => exact (by decide +kernel : kitB "str" "str" = some true)
  | list _ => exact (by decide +kernel : kitB "list" "str" = some false)
  | tuple _ => exact (by decide +kernel : kitB "tuple" "str" = some false)
  | dict _ => exact (by decide +kernel : kitB "dict" "str" = some false)
theorem ts_list : isTS "list" isList := fun d => by
  cases d with
  | none => exact (by decide +kernel : kitB "NoneType" "list" = some false)
  | bool _ => exact (by decide +kernel : kitB "bool" "list" = some false)
  | int _ => exact (by decide +kernel : kitB "int" "list" = some false)
  | str _ => exact (by decide +kernel : kitB "str" "list" = some false)
  | list _ => exact (by decide +kernel : kitB "list" "list" = some true)
  | tuple _ => exact (by decide +kernel : kitB "tuple" "list" = some false)
  | dict _ => exact (by decide +kernel : kitB "dict" "list" = some false)
theorem ts_tuple : isTS "tuple" isTup := fun d => by
  cases d with
  | none => exact (by decide +kernel : kitB "NoneType" "tuple" = some false)
  | bool _ => exact (by decide +kernel : kitB "bool" "tuple" = some false)
  | int _ => exact (by decide +kernel : kitB "int" "tuple" = some false)
  | str _ => exact (by decide +kernel : kitB "str" "tuple" = some false)
  | list _ => exact (by decide +kernel : kitB "list" "tuple" = some false)
  | tuple _ => exact (by decide +kernel : kitB "tuple" "tuple" = some true)
  | dict _ => exact (by decide +kernel : kitB "dict" "tuple" = some false)
theorem ts_dict : isTS "dict" isDct := fun d => by
  cases d with
  | none => exact (by decide +kernel : kitB "NoneType" "dict" = some false)
  | bool _ => exact (by decide +kernel : kitB "bool" "dict" = some false)
  | int _ => exact (by decide +kernel : kitB "int" "dict" = some false)
  | str _ => exact (by decide +kernel : kitB "str" "dict" = some false)
  | list _ => exact (by decide +kernel : kitB "list" "dict" = some false)
  | tuple _ => exact (by decide +kernel : kitB "tuple" "dict" = some false)
  | dict _ => exact (by decide +kernel : kitB "dict" "dict" = some true)
theorem de_isi {T : String} {f : Dt → Bool} {Tn : Str} {p pT : Pos} (hk : isTS T f) (hg : Gl X "isinstance") (hm : X.mg "isinstance" = none) (hgT : Gl X Tn) (hmT : X.mg Tn = none) (hvT : bootBuiltins Tn = some (.type T)) (ha : DX X g a ma)
    (hnT : Tn ≠ "__name__" := by decide) (hdT : (Tn == ("__debug__" : Str)) = false := by decide)
    (h1 : starEach [a, .Name Tn pT] X.env = (false, eval a X.env) :: starEach [.Name Tn pT] X.env := by rfl) (h2 : starEach [.Name Tn pT] X.env = (false, eval (.Name Tn pT) X.env) :: starEach [] X.env := by rfl)
    (hpl : (backTo pos (starEach [.Name Tn pT] X.env)).any (·.1) = false := by rfl) :
    DE X g (.Call (.Name "isinstance" p) [a, .Name Tn pT] [] pos) (fun δ => bnd (ma δ) fun d => ret (.bool (f d))) := by
  obtain ⟨t, pt, ha⟩ := ha
  refine ⟨_, pe_callB call_isi hg hm rfl (pa_cons pt (pa_cons (pe_bltn (v := .ty T) hgT hmT hvT rfl hnT hdT) pa_nil h2) h1) (by decide) (by decide) h1 hpl, fun σ H F δ n Q Qd R q w => ha σ H F δ n _ _ R (fun v d F1 H1 n1 rb rp hq => ?_) w⟩
  exact ⟨v, .ty T, _, _, f d, rfl, .ty T, tyx_of (rp.now rb.sub), kit_ty (hk d), q _ _ F1 H1 n1 rb (.bl _) hq⟩

/-! ### all, any, sum, abs, ord, str, int -/
def boolsOf : List Dt → Option (List Bool)
  | [] => some []
  | .bool b :: r => (boolsOf r).map (b :: ·)
  | _ :: _ => none
theorem boolsOf_eq : ∀ {ds : List Dt} {bs : List Bool}, boolsOf ds = some bs → ds = bs.map .bool
  | [], bs, h => by cases h; rfl
  | d :: ds, bs, h => by
    cases d with
    | bool b =>
      have h : (boolsOf ds).map (b :: ·) = some bs := h
      cases e : boolsOf ds with
      | none => rw [e] at h; cases h
      | some r => rw [e] at h; cases h; rw [boolsOf_eq e]; rfl
    | _ => cases h
theorem boolsOf_map : ∀ bs : List Bool, boolsOf (bs.map PyData.bool) = some bs
  | [] => rfl
  | b :: bs => by
    show (boolsOf (bs.map PyData.bool)).map (b :: ·) = _
    rw [boolsOf_map bs]; rfl
def intsOf : List Dt → Option (List Int)
  | [] => some []
  | .int b :: r => (intsOf r).map (b :: ·)
  | _ :: _ => none
theorem intsOf_eq : ∀ {ds : List Dt} {bs : List Int}, intsOf ds = some bs → ds = bs.map .int
  | [], bs, h => by cases h; rfl
  | d :: ds, bs, h => by
    cases d with
    | int b =>
      have h : (intsOf ds).map (b :: ·) = some bs := h
      cases e : intsOf ds with
      | none => rw [e] at h; cases h
      | some r => rw [e] at h; cases h; rw [intsOf_eq e]; rfl
    | _ => cases h
theorem intsOf_map : ∀ bs : List Int, intsOf (bs.map PyData.int) = some bs
  | [] => rfl
  | b :: bs => by
    show (intsOf (bs.map PyData.int)).map (b :: ·) = _
    rw [intsOf_map bs]; rfl
def textsOf : List Dt → Option (List Str)
  | [] => some []
  | .str b :: r => (textsOf r).map (b :: ·)
  | _ :: _ => none
theorem textsOf_eq : ∀ {ds : List Dt} {bs : List Str}, textsOf ds = some bs → ds = bs.map .str
  | [], bs, h => by cases h; rfl
  | d :: ds, bs, h => by
    cases d with
    | str b =>
      have h : (textsOf ds).map (b :: ·) = some bs := h
      cases e : textsOf ds with
      | none => rw [e] at h; cases h
      | some r => rw [e] at h; cases h; rw [textsOf_eq e]; rfl
    | _ => cases h
theorem textsOf_map : ∀ bs : List Str, textsOf (bs.map PyData.str) = some bs
  | [] => rfl
  | b :: bs => by
    show (textsOf (bs.map PyData.str)).map (b :: ·) = _
    rw [textsOf_map bs]; rfl
def oAll : List Dt → Mv Dt
  | [.list ds] => (match boolsOf ds with | some bs => ret (.bool (bs.all id)) | none => bad)
  | _ => bad
def oAny : List Dt → Mv Dt
  | [.list ds] => (match boolsOf ds with | some bs => ret (.bool (bs.any id)) | none => bad)
  | _ => bad
def oSum : List Dt → Mv Dt
  | [.list ds] => (match intsOf ds with | some bs => ret (.int bs.sum) | none => bad)
  | _ => bad
theorem xc_all : XC X (rAll X.K) oAll := by
  intro H n xs ds Q Qd W h w q
  match ds, w with
  | [.list ys], w =>
    obtain ⟨v, rfl, r⟩ := rp1 h
    have w : (match boolsOf ys with | some bs => ret (.bool (bs.all id)) | none => bad : Mv Dt) n Qd W := w
    cases e : boolsOf ys with
    | none => rw [e] at w; exact w.elim
    | some bs =>
      rw [e] at w
      cases r with
      | lst h1 h2 =>
        rw [boolsOf_eq e] at h2
        rw [h2.bools] at h1
        exact ⟨_, bs, rfl, SqL.of h1, q _ _ (fun _ => .bl _) w⟩
theorem xc_any : XC X (rAny X.K) oAny := by
  intro H n xs ds Q Qd W h w q
  match ds, w with
  | [.list ys], w =>
    obtain ⟨v, rfl, r⟩ := rp1 h
    have w : (match boolsOf ys with | some bs => ret (.bool (bs.any id)) | none => bad : Mv Dt) n Qd W := w
    cases e : boolsOf ys with
    | none => rw [e] at w; exact w.elim
    | some bs =>
      rw [e] at w
      cases r with
      | lst h1 h2 =>
        rw [boolsOf_eq e] at h2
        rw [h2.bools] at h1
        exact ⟨_, bs, rfl, SqL.of h1, q _ _ (fun _ => .bl _) w⟩
theorem xc_sum : XC X (rSum X.K) oSum := by
  intro H n xs ds Q Qd W h w q
  match ds, w with
  | [.list ys], w =>
    obtain ⟨v, rfl, r⟩ := rp1 h
    have w : (match intsOf ys with | some bs => ret (.int bs.sum) | none => bad : Mv Dt) n Qd W := w
    cases e : intsOf ys with
    | none => rw [e] at w; exact w.elim
    | some bs =>
      rw [e] at w
      cases r with
      | lst h1 h2 =>
        rw [intsOf_eq e] at h2
        rw [h2.ints] at h1
        exact ⟨_, bs, rfl, SqL.of h1, q _ _ (fun _ => .int _) w⟩
def oAbs : List Dt → Mv Dt
  | [.int i] => ret (.int (if i < 0 then -i else i))
  | _ => bad
theorem xc_abs : XC X (fun xs H Q => ∃ i, xs = [.int i] ∧ Q (.int (if i < 0 then -i else i)) H) oAbs := by
  intro H n xs ds Q Qd W h w q
  match ds, w with
  | [.int i], w =>
    obtain ⟨v, rfl, r⟩ := rp1 h
    cases r
    exact ⟨i, rfl, q _ _ (fun _ => .int _) w⟩
def oOrd : List Dt → Mv Dt
  | [.str x] => grd (x.length = 1) (ret (.int (x.cps.getD 0 0 : Nat)))
  | _ => bad
theorem xc_ord : XC X (fun xs H Q => ∃ x, xs = [.str x] ∧ x.length = 1 ∧ Q (.int (x.cps.getD 0 0 : Nat)) H) oOrd := by
  intro H n xs ds Q Qd W h w q
  match ds, w with
  | [.str x], w =>
    obtain ⟨v, rfl, r⟩ := rp1 h
    cases r
    exact ⟨x, rfl, w.1, q _ _ (fun _ => .int _) w.2⟩
def oStr : List Dt → Mv Dt
  | [.int i] => grd (i.natAbs.log2 < 1920) (ret (.str (toString i)))
  | _ => bad
theorem xc_str : XC X (fun xs H Q => ∃ i, xs = [.int i] ∧ i.natAbs.log2 < 1920 ∧ Q (.str (toString i)) H) oStr := by
  intro H n xs ds Q Qd W h w q
  match ds, w with
  | [.int i], w =>
    obtain ⟨v, rfl, r⟩ := rp1 h
    cases r
    exact ⟨i, rfl, w.1, q _ _ (fun _ => .str _) w.2⟩
def oIntC : List Dt → Mv Dt
  | [.int i] => ret (.int i)
  | [.bool b] => ret (.int (if b then 1 else 0))
  | [.str a] => (match PySem.intText? a with | some k => grd (a.length ≤ 640) (ret (.int k)) | none => bad)
  | _ => bad
def rIntC : List V → Hp → VK → Prop := fun xs H Q => ((∃ i, xs = [.int i] ∧ Q (.int i) H) ∨ ∃ k, xs = [.bl k] ∧ Q (.int (if k then 1 else 0)) H) ∨ (∃ a n, xs = [.str a] ∧ PySem.intText? a = some n ∧ a.length ≤ 640 ∧ Q (.int n) H)
theorem call_intC : CallR X (.type "int") rIntC := call_int1.or call_int_str
theorem xc_intC : XC X rIntC oIntC := by
  intro H n xs ds Q Qd W h w q
  match ds, w with
  | [.int i], w =>
    obtain ⟨v, rfl, r⟩ := rp1 h
    cases r
    exact .inl (.inl ⟨i, rfl, q _ _ (fun _ => .int _) w⟩)
  | [.bool b], w =>
    obtain ⟨v, rfl, r⟩ := rp1 h
    cases r
    exact .inl (.inr ⟨b, rfl, q _ _ (fun _ => .int _) w⟩)
  | [.str a], w =>
    obtain ⟨v, rfl, r⟩ := rp1 h
    cases r
    have w : (match PySem.intText? a with | some k => grd (a.length ≤ 640) (ret (.int k)) | none => bad : Mv Dt) n Qd W := w
    cases e : PySem.intText? a with
    | none => rw [e] at w; exact w.elim
    | some k => rw [e] at w; exact .inr ⟨a, k, rfl, e, w.1, q _ _ (fun _ => .int _) w.2⟩
/-- tuple(xs) -/
def oTupleC (d : Dt) : Mv Dt := match d with
  | .list xs => ret (.tuple xs)
  | .tuple xs => ret (.tuple xs)
  | _ => bad
theorem de_tupleC {p : Pos} (hg : Gl X "tuple") (hm : X.mg "tuple" = none) (ha : DX X g a ma)
    (he : starEach [a] X.env = (false, eval a X.env) :: starEach [] X.env := by rfl) (hpl : (backTo pos (starEach [] X.env)).any (·.1) = false := by rfl) :
    DE X g (.Call (.Name "tuple" p) [a] [] pos) (fun δ => bnd (ma δ) oTupleC) := by
  obtain ⟨t, pt, ha⟩ := ha
  refine ⟨_, pe_callTy call_tuple_of hg hm rfl (pa_cons pt pa_nil he) (by decide) (by decide) he hpl, fun σ H F δ n Q Qd R q w => ha σ H F δ n _ _ R (fun v d F1 H1 n1 rb rp hq => ?_) w⟩
  cases d with
  | list xs =>
    obtain ⟨a, vs, rfl, h1, r1⟩ := rp.lst rb.sub
    refine ⟨a, vs, rfl, .inl ⟨SqL.of h1, fun p np => ?_⟩⟩
    obtain ⟨l1, l2⟩ := laid_tup rb np r1
    exact q _ _ _ _ n1 l1 l2 hq
  | tuple xs =>
    obtain ⟨a, vs, rfl, h1, r1⟩ := rp.tup
    exact ⟨a, vs, rfl, .inr ⟨sqT_ext rb.sub h1, q _ _ F1 H1 n1 rb (.tup h1 r1) hq⟩⟩
  | _ => exact hq.elim

/-! ### methods of texts -/
def XM (X : Cx) (r : V → List V → Hp → VK → Prop) (o : Dt → List Dt → Mv Dt) : Prop := ∀ (H : Hp) (n : Nat) (x : V) (xs : List V) (d : Dt) (ds : List Dt) (Q : VK) (Qd : Kd Dt) (W : Wx), Rp X.K H x d → RpAll X.K H xs ds → o d ds n Qd W → (∀ v d', Sc X.K v d' → Qd d' n → Q v H) → r x xs H Q
/-- the receiver is a text -/
def onStr (d : Dt) (m : Mv Dt) : Mv Dt := match d with
  | .str _ => m
  | _ => bad
theorem de_m0 {id : String} {name : Str} {apos : Pos} {r : V → List V → Hp → VK → Prop} {o : Dt → List Dt → Mv Dt} (slot : Slot "str" name id) (ty : typeOf (.builtin id) = pure (.type "method_descriptor")) (rule : MtR X id r) (k : XM X r o) (ha : DX X g a ma)
    (hbase : attributeBase a name X.env (eval a X.env) = eval a X.env := by rfl) (hline : (apos.endLine == pos.line) = true := by rfl) : DE X g (.Call (.Attribute a name apos) [] [] pos) (fun δ => bnd (ma δ) fun d => onStr d (o d [])) := by
  obtain ⟨t, pt, ha⟩ := ha
  refine ⟨_, pe_m0 slot ty rule pt hbase hline, fun σ H F δ n Q Qd R q w => ha σ H F δ n _ _ R (fun v d F1 H1 n1 rb rp hq => ?_) w⟩
  cases d with
  | str x =>
    have hv := rp.str
    exact ⟨⟨x, hv⟩, k H1 n1 v [] (.str x) [] Q Qd g.W (rp.now rb.sub) .nil hq fun v' d' s hq => q v' d' F1 H1 n1 rb (s F1) hq⟩
  | _ => exact hq.elim
theorem de_m1 {id : String} {name : Str} {apos : Pos} {r : V → List V → Hp → VK → Prop} {o : Dt → List Dt → Mv Dt} (slot : Slot "str" name id) (ty : typeOf (.builtin id) = pure (.type "method_descriptor")) (rule : MtR X id r) (k : XM X r o) (ha : DX X g a ma) (hb : DX X g b mb)
    (hs : starEach [b] X.env = [(false, eval b X.env)] := by rfl) (hbase : attributeBase a name X.env (eval a X.env) = eval a X.env := by rfl) (hline : (apos.endLine == pos.line) = true := by rfl) :
    DE X g (.Call (.Attribute a name apos) [b] [] pos) (fun δ => bnd (ma δ) fun d => onStr d (bnd (mb δ) fun e => o d [e])) := by
  obtain ⟨t, pt, ha⟩ := ha
  obtain ⟨u, pu, hb⟩ := hb
  refine ⟨_, pe_m1 slot ty rule pt pu hs hbase hline, fun σ H F δ n Q Qd R q w => ha σ H F δ n _ _ R (fun v d F1 H1 n1 rb rp hq => ?_) w⟩
  cases d with
  | str x =>
    have hv := rp.str
    refine ⟨⟨x, hv⟩, hb σ H1 F1 δ n1 _ _ (R.ext rb) (fun v2 d2 F2 H2 n2 rb2 rp2 hq2 => ?_) hq⟩
    exact k H2 n2 v [v2] (.str x) [d2] Q Qd g.W ((rp.ext rb2).now rb2.sub) (.cons (rp2.now rb2.sub) .nil) hq2 fun v' d' s hq => q v' d' F2 H2 n2 (rb.trans rb2) (s F2) hq
  | _ => exact hq.elim
/-- o(text, text) without a condition -/
def o11 (f : Str → Str → Dt) : Dt → List Dt → Mv Dt
  | .str x, [.str y] => ret (f x y)
  | _, _ => bad
theorem xm_i {f : Str → Str → Int} : XM X (fun x xs H Q => ∃ a b, x = .str a ∧ xs = [.str b] ∧ Q (.int (f a b)) H) (o11 fun a b => .int (f a b)) := by
  intro H n x xs d ds Q Qd W hx h w q
  match d, ds, w with
  | .str x, [.str y], w =>
    obtain ⟨v, rfl, r⟩ := rp1 h
    cases hx
    cases r
    exact ⟨x, y, rfl, rfl, q _ _ (fun _ => .int _) w⟩
theorem xm_b {f : Str → Str → Bool} : XM X (fun x xs H Q => ∃ a b, x = .str a ∧ xs = [.str b] ∧ Q (.bl (f a b)) H) (o11 fun a b => .bool (f a b)) := by
  intro H n x xs d ds Q Qd W hx h w q
  match d, ds, w with
  | .str x, [.str y], w =>
    obtain ⟨v, rfl, r⟩ := rp1 h
    cases hx
    cases r
    exact ⟨x, y, rfl, rfl, q _ _ (fun _ => .bl _) w⟩
/-- o(text) -/
def o10 (C : Str → Prop) (f : Str → Dt) : Dt → List Dt → Mv Dt
  | .str x, [] => grd (C x) (ret (f x))
  | _, _ => bad
theorem xm_b0 {C : Str → Prop} {f : Str → Bool} : XM X (fun x xs H Q => ∃ a, x = .str a ∧ xs = [] ∧ C a ∧ Q (.bl (f a)) H) (o10 C fun a => .bool (f a)) := by
  intro H n x xs d ds Q Qd W hx h w q
  match d, ds, w with
  | .str x, [], w =>
    cases h
    cases hx
    exact ⟨x, rfl, rfl, w.1, q _ _ (fun _ => .bl _) w.2⟩
theorem xm_s0 {C : Str → Prop} {f : Str → Str} : XM X (fun x xs H Q => ∃ a, x = .str a ∧ xs = [] ∧ C a ∧ Q (.str (f a)) H) (o10 C fun a => .str (f a)) := by
  intro H n x xs d ds Q Qd W hx h w q
  match d, ds, w with
  | .str x, [], w =>
    cases h
    cases hx
    exact ⟨x, rfl, rfl, w.1, q _ _ (fun _ => .str _) w.2⟩
def oFind : Dt → List Dt → Mv Dt := o11 fun a b => .int (Txt.find a b)
theorem de_find {apos : Pos} (ha : DX X g a ma) (hb : DX X g b mb)
    (hs : starEach [b] X.env = [(false, eval b X.env)] := by rfl) (hbase : attributeBase a "find" X.env (eval a X.env) = eval a X.env := by rfl) (hline : (apos.endLine == pos.line) = true := by rfl) :
    DE X g (.Call (.Attribute a "find" apos) [b] [] pos) (fun δ => bnd (ma δ) fun d => onStr d (bnd (mb δ) fun e => oFind d [e])) := de_m1 F.slot_str_find F.type_str_find mt_find xm_i ha hb hs hbase hline
def oJoin (d : Dt) (ds : List Dt) : Mv Dt := match d, ds with
  | .str x, [.list ys] => (match textsOf ys with | some zs => grd ((zs.map (·.length)).sum + zs.length * x.length ≤ 16777216) (ret (.str (Txt.join x zs))) | none => bad)
  | .str x, [.tuple ys] => (match textsOf ys with | some zs => grd ((zs.map (·.length)).sum + zs.length * x.length ≤ 16777216) (ret (.str (Txt.join x zs))) | none => bad)
  | _, _ => bad
theorem xm_join : XM X (fun x xs H Q => ∃ a p, ∃ ys : List Str, x = .str a ∧ xs = [.ref p] ∧ (SqL X.K H p (ys.map V.str) ∨ SqT X.K H p (ys.map V.str)) ∧ (ys.map (·.length)).sum + ys.length * a.length ≤ 16777216 ∧ Q (.str (Txt.join a ys)) H) oJoin := by
  intro H n x xs d ds Q Qd W hx h w q
  match d, ds, w with
  | .str x, [.list ys], w =>
    obtain ⟨v, rfl, r⟩ := rp1 h
    cases hx
    have w : (match textsOf ys with | some zs => grd ((zs.map (·.length)).sum + zs.length * x.length ≤ 16777216) (ret (.str (Txt.join x zs))) | none => bad : Mv Dt) n Qd W := w
    cases e : textsOf ys with
    | none => rw [e] at w; exact w.elim
    | some zs =>
      rw [e] at w
      cases r with
      | lst h1 h2 =>
        rw [textsOf_eq e] at h2
        rw [h2.texts] at h1
        exact ⟨x, _, zs, rfl, rfl, .inl (SqL.of h1), w.1, q _ _ (fun _ => .str _) w.2⟩
  | .str x, [.tuple ys], w =>
    obtain ⟨v, rfl, r⟩ := rp1 h
    cases hx
    have w : (match textsOf ys with | some zs => grd ((zs.map (·.length)).sum + zs.length * x.length ≤ 16777216) (ret (.str (Txt.join x zs))) | none => bad : Mv Dt) n Qd W := w
    cases e : textsOf ys with
    | none => rw [e] at w; exact w.elim
    | some zs =>
      rw [e] at w
      cases r with
      | tup h1 h2 =>
        rw [textsOf_eq e] at h2
        rw [h2.texts] at h1
        exact ⟨x, _, zs, rfl, rfl, .inr h1, w.1, q _ _ (fun _ => .str _) w.2⟩
theorem de_join {apos : Pos} (ha : DX X g a ma) (hb : DX X g b mb)
    (hs : starEach [b] X.env = [(false, eval b X.env)] := by rfl) (hbase : attributeBase a "join" X.env (eval a X.env) = eval a X.env := by rfl) (hline : (apos.endLine == pos.line) = true := by rfl) :
    DE X g (.Call (.Attribute a "join" apos) [b] [] pos) (fun δ => bnd (ma δ) fun d => onStr d (bnd (mb δ) fun e => oJoin d [e])) := de_m1 F.slot_str_join F.type_str_join mt_join xm_join ha hb hs hbase hline

/-! ### a dict's display -/
/-- keys and values of a display -/
def DPs (X : Cx) (g : Gh) (pos : Pos) (ks : List (Option Expr)) (vs : List Expr) (m : Me (List (Dt × Dt))) : Prop := ∃ trs : List (TE × TE), PPs X pos ks vs trs ∧ ∀ (σ : L2.St) (H F : Hp) (δ : List Ds) (n : Nat) (Q : List (V × V) → Hp → Prop) (Qd : Kd (List (Dt × Dt))), g.R X.K F σ H δ n →
  (∀ ps ds F' H' n', RelB g.hd F H F' H' n' → RpAll X.K F' (ps.map (·.1)) (ds.map (·.1)) → RpAll X.K F' (ps.map (·.2)) (ds.map (·.2)) → Qd ds n' → Q ps H') → m δ n Qd g.W → tPairs trs σ H Q
theorem dps_nil : DPs X g pos [] [] (fun _ => ret []) := ⟨[], pps_nil, fun σ H F δ n Q Qd r q w => q [] [] F H n r.b.refl .nil .nil w⟩
theorem dps_cons {ks : List (Option Expr)} {vs : List Expr} {mr : Me (List (Dt × Dt))} (ha : DE X g a ma) (hb : DE X g b mb) (hr : DPs X g pos ks vs mr) :
    DPs X g pos (some a :: ks) (b :: vs) (fun δ => bnd (ma δ) fun x => bnd (mb δ) fun y => bnd (mr δ) fun r => ret ((x, y) :: r)) := by
  obtain ⟨t, p, ha⟩ := ha
  obtain ⟨u, p2, hb⟩ := hb
  obtain ⟨trs, p3, hr⟩ := hr
  refine ⟨_, pps_cons p p2 p3, fun σ H F δ n Q Qd R q w => ?_⟩
  refine ha σ H F δ n _ _ R (fun v d F1 H1 n1 rb rp hq => ?_) w
  refine hb σ H1 F1 δ n1 _ _ (R.ext rb) (fun v2 d2 F2 H2 n2 rb2 rp2 hq2 => ?_) hq
  refine hr σ H2 F2 δ n2 _ _ ((R.ext rb).ext rb2) (fun ps ds F3 H3 n3 rb3 r1 r2 hq3 => ?_) hq2
  exact q ((v, v2) :: ps) ((d, d2) :: ds) F3 H3 n3 ((rb.trans rb2).trans rb3) (.cons ((rp.ext' rb2.f0).ext' rb3.f0) r1) (.cons (rp2.ext' rb3.f0) r2) hq3
def keyOf : Dt → Option Key
  | .int i => some (.inl i)
  | .str x => some (.inr x)
  | _ => none
/-- the entries by keys, where all are ints and texts -/
def keysOf : List (Dt × Dt) → Option (List Key)
  | [] => some []
  | (k, _) :: r => match keyOf k, keysOf r with
    | some k, some ks => some (k :: ks)
    | _, _ => none
theorem mergeK_nodup : ∀ (more kvs : List (Key × V)), (∀ p ∈ more, ∀ q ∈ kvs, q.1 ≠ p.1) → (more.map (·.1)).Nodup → mergeK kvs more = kvs ++ more
  | [], kvs, _, _ => by simp [mergeK]
  | p :: r, kvs, h, nd => by
    have e : putK kvs p.1 p.2 = kvs ++ [p] := by
      unfold putK
      rw [if_neg]
      simp only [List.any_eq_true, decide_eq_true_eq, not_exists, not_and]
      exact fun q hq => h p List.mem_cons_self q hq
    have nd' : p.1 ∉ r.map (·.1) ∧ (r.map (·.1)).Nodup := by simpa using nd
    show mergeK (putK kvs p.1 p.2) r = _
    rw [e, mergeK_nodup r (kvs ++ [p]) ?_ nd'.2]
    · simp
    · intro x hx q hq
      rcases List.mem_append.mp hq with hq | hq
      · exact h x (List.mem_cons_of_mem _ hx) q hq
      · have : q = p := by simpa using hq
        subst this
        exact fun e => nd'.1 (List.mem_map.mpr ⟨x, hx, e.symm⟩)
theorem keyed {K : PySem.W.Frag} {F : Hp} : ∀ {ps : List (V × V)} {ds : List (Dt × Dt)} {ks : List Key}, keysOf ds = some ks → RpAll K F (ps.map (·.1)) (ds.map (·.1)) → RpAll K F (ps.map (·.2)) (ds.map (·.2)) →
    ∃ kvs : List (Key × V), ps = kvs.map (fun kv => (kV kv.1, kv.2)) ∧ kvs.map (·.1) = ks ∧ RpKv K F kvs ds
  | ps, [], ks, e, h, _ => by
    cases ps with
    | nil => cases e; exact ⟨[], rfl, rfl, .nil⟩
    | cons p r => cases h
  | ps, (k, d) :: ds, ks, e, h, h' => by
    cases ps with
    | nil => cases h
    | cons p r =>
      obtain ⟨pk, pv⟩ := p
      cases h with
      | cons h1 h2 =>
        cases h' with
        | cons h3 h4 =>
          cases ek : keyOf k with
          | none => simp only [keysOf, ek] at e; cases e
          | some k0 =>
            cases er : keysOf ds with
            | none => simp only [keysOf, ek, er] at e; cases e
            | some ks0 =>
              simp only [keysOf, ek, er] at e
              cases e
              obtain ⟨kvs, e1, e2, e3⟩ := keyed er h2 h4
              have hk : k = kD k0 ∧ pk = kV k0 := by
                cases k <;> first | cases ek
                · cases h1; exact ⟨rfl, rfl⟩
                · cases h1; exact ⟨rfl, rfl⟩
              obtain ⟨hk1, hk2⟩ := hk
              have hpk : pk = kV k0 := hk2
              refine ⟨(k0, pv) :: kvs, by rw [e1, hpk]; rfl, by rw [← e2]; rfl, ?_⟩
              rw [hk1]
              exact .cons h3 e3
instance (ks : List Key) : Decidable ks.Nodup := inferInstance
def oDisp (ds : List (Dt × Dt)) : Mv Dt := match keysOf ds with
  | some ks => grd (ks.Nodup ∧ ds.length ≤ 15) (ret (.dict ds))
  | none => bad
theorem RpKv.length {K : PySem.W.Frag} {F : Hp} : ∀ {kvs : List (Key × V)} {es : List (Dt × Dt)}, RpKv K F kvs es → kvs.length = es.length
  | _, [], h => by cases h; rfl
  | _, e :: es, h => by
    cases h with
    | cons h1 h2 => rw [List.length_cons, List.length_cons, RpKv.length h2]
theorem de_disp {ks : List (Option Expr)} {vs : List Expr} {m : Me (List (Dt × Dt))} (h : DPs X g pos ks vs m) (hall : ks.all (·.isSome) = true := by rfl) (hl : ks.length = vs.length := by rfl) (h0 : ks ≠ [] := by exact fun z => nomatch z) (h15 : ks.length ≤ 15 := by decide) :
    DE X g (.Dict ks vs pos) (fun δ => bnd (m δ) oDisp) := by
  obtain ⟨trs, p, h⟩ := h
  refine ⟨_, pe_disp p hall hl h0 h15, fun σ H F δ n Q Qd R q w p np => ?_⟩
  -- the empty dict is there while the pairs are made: it is not frozen
  have R1 : g.R X.K F σ (upd H p (.dK [])) δ n := R.ext (R.b.refl.layH np)
  refine h σ (upd H p (.dK [])) F δ n _ _ R1 (fun ps ds F1 H1 n1 rb r1 r2 hq => ?_) w
  unfold oDisp at hq
  cases e : keysOf ds with
  | none => rw [e] at hq; exact hq.elim
  | some ks0 =>
    rw [e] at hq
    obtain ⟨⟨nd, h15'⟩, hq⟩ := hq
    obtain ⟨kvs, e1, e2, e3⟩ := keyed e r1 r2
    have ni : ¬ InHd g.hd p := fun i => by
      obtain ⟨o, z⟩ := R.b.hand.there i
      rw [np] at z; cases z
    have hp1 : H1 p = some (.dK []) := rb.h0 p _ upd_same ni
    have em : mergeK [] kvs = kvs := by
      rw [mergeK_nodup kvs [] (fun _ _ _ z => nomatch z) (by rw [e2]; exact nd)]
      rfl
    refine ⟨hp1, kvs, e1, by rw [e3.length]; exact h15', ?_⟩
    rw [em]
    have fp1 : F1 p = none := by
      cases z : F1 p with
      | none => rfl
      | some u =>
        rcases rb.fnew p u z with y | y
        · rw [free_of R.b.sub np] at y; cases y
        · rw [upd_same] at y; cases y
    -- from the heap before the display
    have RB : RelB g.hd F H F1 H1 n1 := ⟨rb.sub, rb.f0, fun b o hb i => rb.h0 b o (by rw [upd_ne (fun z => by rw [z, np] at hb; cases hb)]; exact hb) i, fun b o hb => by
      rcases rb.fnew b o hb with z | z
      · exact .inl z
      · right
        by_cases y : b = p
        · rw [y]; exact np
        · rw [upd_ne y] at z; exact z, rb.hand, rb.hfree⟩
    have RB2 := RB.change (o := .dK kvs) fp1 np ni
    have RB3 := RB2.freeze (p := p) (o := .dK kvs) upd_same fp1 np ni
    have ex : Same F1 (upd F1 p (.dK kvs)) := fun b o hb => by
      rw [upd_ne (fun z => by rw [z, fp1] at hb; cases hb)]; exact hb
    exact q _ _ _ _ n1 RB3 (.dct upd_same (RpKv.ext ex _ e3)) hq

/-! ### f-strings -/
def oFmt (d : Dt) : Mv Dt := match d with
  | .str y => grd (y.length ≤ sizeLine) (ret (.str y))
  | .int i => grd (i.natAbs.log2 < 1920) (ret (.str (toString i)))
  | _ => bad
theorem de_fmt (ha : DE X g a ma) : DE X g (.FormattedValue a (-1) none pos) (fun δ => bnd (ma δ) oFmt) := by
  obtain ⟨t, p, ha⟩ := ha
  refine ⟨_, pe_fmt p, fun σ H F δ n Q Qd R q w => ha σ H F δ n _ _ R (fun v d F' H' n' rb rp hq => ?_) w⟩
  cases d with
  | str y => cases rp; exact .inl ⟨y, rfl, hq.1, q _ _ F' H' n' rb (.str _) hq.2⟩
  | int i => cases rp; exact .inr ⟨i, rfl, hq.1, q _ _ F' H' n' rb (.str _) hq.2⟩
  | _ => exact hq.elim
def DJ (X : Cx) (g : Gh) (es : List Expr) (m : Me (List Dt)) : Prop := ∃ ts : List TE, PJ X es ts ∧ ∀ (σ : L2.St) (H F : Hp) (δ : List Ds) (n : Nat) (acc : Str) (Q : Str → Hp → Prop) (Qd : Kd Str), g.R X.K F σ H δ n →
  (∀ out F' H' n', RelB g.hd F H F' H' n' → Qd out n' → Q out H') → (bnd (m δ) fun ds => (match textsOf ds with | some xs => grd ((xs.foldl (· ++ ·) acc).length ≤ sizeLine) (ret (xs.foldl (· ++ ·) acc)) | none => bad)) n Qd g.W → tJs ts acc σ H Q
end
end Dl
namespace Dl
open PySem PySem.Spec L2

/-! ### what is walked -/
def LimH (K : PySem.W.Frag) (H : Hp) : Prop := ∀ a xs, SqL K H a xs ∨ SqT K H a xs → xs.length ≤ sizeLine
theorem lim_of {X : Cx} {pins : List (Addr × Obj)} {σ : L2.St} {H : Hp} {s : Shared} (I : Inv X pins σ H s) : LimH X.K H := fun a xs h => by
  rcases h with h | h
  · obtain ⟨_, _, _, z⟩ := I.list h; exact z
  · obtain ⟨_, _, _, z⟩ := I.tuple h; exact z
theorem PI.lim {X : Cx} {tg it : Expr} {wi : TI} (h : PI X tg it wi) : PI X tg it (fun σ H R => wi σ H fun J H' => LimH X.K H' → R J H') :=
  ⟨fun pins s σ H R I w => thn (h.run pins s σ H _ I w) fun v s1 h1 => thn h1 fun itv s2 ⟨a, fp, tn, J, H', e, I', T, st, f, r⟩ => ⟨a, fp, tn, J, H', e, I', T, st, f, r (lim_of I')⟩⟩
/-- the walk yields these data, whatever else is laid meanwhile -/
def ItX (K : PySem.W.Frag) (hd : Hd) (J : It) (items : List Dt) (F H : Hp) : Prop := ∀ (i : Nat) (F2 H2 : Hp) (n : Nat), RelB hd F H F2 H2 n → i ≤ items.length →
  (i = items.length → J.stop i H2) ∧ (∀ d, items[i]? = some d → J.go i H2 ∧ ∀ x H3, J.yld i H2 x H3 → ∃ F3, RelB hd F2 H2 F3 H3 n ∧ Rp K F3 x d)
/-- .. as long as what was frozen stays -/
def ItF (K : PySem.W.Frag) (hd : Hd) (J : It) (items : List Dt) (F : Hp) : Prop := ∀ (i : Nat) (F2 H2 : Hp) (n : Nat), Same F F2 → RelB hd F2 H2 F2 H2 n → i ≤ items.length →
  (i = items.length → J.stop i H2) ∧ (∀ d, items[i]? = some d → J.go i H2 ∧ ∀ x H3, J.yld i H2 x H3 → ∃ F3, RelB hd F2 H2 F3 H3 n ∧ Rp K F3 x d)
def DI (X : Cx) (g : Gh) (tg it : Expr) (m : Me (List Dt)) : Prop := ∃ wi : TI, PI X tg it wi ∧ ∀ (σ : L2.St) (H F : Hp) (δ : List Ds) (n : Nat) (R : It → Hp → Prop) (Qd : Kd (List Dt)), g.R X.K F σ H δ n →
  (∀ J items F' H' n', RelB g.hd F H F' H' n' → ItX X.K g.hd J items F' H' → items.length ≤ sizeLine → Qd items n' → R J H') → m δ n Qd g.W → wi σ H R
def DF (X : Cx) (g : Gh) (tg it : Expr) (m : Me (List Dt)) : Prop := ∃ wi : TI, PI X tg it wi ∧ ∀ (σ : L2.St) (H F : Hp) (δ : List Ds) (n : Nat) (R : It → Hp → Prop) (Qd : Kd (List Dt)), g.R X.K F σ H δ n →
  (∀ J items F' H' n', RelB g.hd F H F' H' n' → ItF X.K g.hd J items F' → items.length ≤ sizeLine → Qd items n' → R J H') → m δ n Qd g.W → wi σ H R
section
variable {X : Cx} {g : Gh} {tg a b c e it : Expr} {es : List Expr} {pos : Pos} {ma mb mc : Me Dt}
theorem DF.di {m : Me (List Dt)} (h : DF X g tg it m) : DI X g tg it m := by
  obtain ⟨wi, p, h⟩ := h
  exact ⟨wi, p, fun σ H F δ n R Qd r q w => h σ H F δ n R Qd r (fun J items F' H' n' rb i z hq => q J items F' H' n' rb (fun i' F2 H2 n2 rb2 => i i' F2 H2 n2 rb2.f0 rb2.refl) z hq) w⟩
def itL (d : Dt) : Mv (List Dt) := match d with
  | .list xs => ret xs
  | _ => bad
def itT (d : Dt) : Mv (List Dt) := match d with
  | .tuple xs => ret xs
  | _ => bad
def charsD (x : Str) : List Dt := x.cps.toList.map fun c => PyData.str ⟨#[c]⟩
def itS (d : Dt) : Mv (List Dt) := match d with
  | .str x => grd (x.length ≤ sizeLine) (ret (charsD x))
  | _ => bad
theorem at_list {K : PySem.W.Frag} {hd : Hd} {F H : Hp} {n : Nat} {a : Addr} {vs : List V} {ds : List Dt} (sq : SqL K H a vs) (uq : ∀ xs, SqL K H a xs → xs = vs) (ra : RpAll K F vs ds) (rb : RelB hd F H F H n) (i : Nat) (hi : i ≤ ds.length) :
    (i = ds.length → (Itl K a).stop i H) ∧ (∀ d, ds[i]? = some d → (Itl K a).go i H ∧ ∀ x H3, (Itl K a).yld i H x H3 → ∃ F3, RelB hd F H F3 H3 n ∧ Rp K F3 x d) := by
  refine ⟨fun e => ⟨vs, sq, by rw [ra.length]; omega⟩, fun d hd' => ?_⟩
  obtain ⟨v, h1, h2⟩ := ra.at hd'
  refine ⟨⟨vs, v, sq, h1⟩, fun x H3 y => ?_⟩
  obtain ⟨rfl, y⟩ := y
  have e := y vs sq
  rw [h1] at e
  cases e
  exact ⟨F, rb, h2⟩
theorem sqL_inj {K : PySem.W.Frag} {H : Hp} {a : Addr} {vs xs : List V} (h : H a = some (.lst vs)) (hK : K.lookup a = none) (q : SqL K H a xs) : xs = vs := by
  rcases q with (q | ⟨o, q⟩) | ⟨o, its, n, q, _⟩
  · rw [h] at q; cases q; rfl
  · rw [h] at q; cases q
  · rw [hK] at q; cases q
/-- what is tracked is none of the written part -/
def ApK (K : PySem.W.Frag) (H : Hp) : Prop := ∀ a o, H a = some o → K.lookup a = none
theorem apK_of {X : Cx} {pins : List (Addr × Obj)} {σ : L2.St} {H : Hp} {s : Shared} (I : Inv X pins σ H s) : ApK X.K H := fun a o h => by
  cases e : X.K.lookup a with
  | none => rfl
  | some u =>
    obtain ⟨_, z⟩ := I.bs a u (I.ok.mod.kin a u e)
    rw [h] at z; cases z
theorem PI.ap {X : Cx} {tg it : Expr} {wi : TI} (h : PI X tg it wi) : PI X tg it (fun σ H R => wi σ H fun J H' => ApK X.K H' → LimH X.K H' → R J H') :=
  ⟨fun pins s σ H R I w => thn (h.run pins s σ H _ I w) fun v s1 h1 => thn h1 fun itv s2 ⟨a, fp, tn, J, H', e, I', T, st, f, r⟩ => ⟨a, fp, tn, J, H', e, I', T, st, f, r (apK_of I') (lim_of I')⟩⟩
theorem di_list (ha : DX X g a ma) : DI X g tg a (fun δ => bnd (ma δ) itL) := by
  obtain ⟨t, p, ha⟩ := ha
  refine ⟨_, PI.ap (pi_list p), fun σ H F δ n R Qd r q w => ha σ H F δ n _ _ r (fun v d F1 H1 n1 rb rp hq => ?_) w⟩
  cases d with
  | list ds =>
    obtain ⟨a, vs, rfl, h1, r1⟩ := rp.lst rb.sub
    refine ⟨a, rfl, ⟨vs, SqL.of h1⟩, fun ak lim => q _ ds F1 H1 n1 rb (fun i F2 H2 n2 rb2 hi => ?_) (by rw [← r1.length]; exact lim a vs (.inl (SqL.of h1))) hq⟩
    have h2 : H2 a = some (.lst vs) := by
      rcases rp with rp | ⟨a', vs', ds', e1, e2, h3, h4, h5⟩
      · cases rp with
        | lst h3 h4 =>
          have z := rb2.sub _ _ (rb2.f0 _ _ h3)
          have z2 := rb.sub _ _ h3
          rw [h1] at z2; cases z2
          exact z
      · cases e1
        exact rb2.h0 _ _ h1 h4
    exact at_list (SqL.of h2) (fun xs sx => sqL_inj h2 (ak a _ h1) sx) (r1.ext' rb2.f0) rb2.refl i hi
  | _ => exact hq.elim
theorem df_list (ha : DE X g a ma) : DF X g tg a (fun δ => bnd (ma δ) itL) := by
  obtain ⟨t, p, ha⟩ := ha
  refine ⟨_, PI.ap (pi_list p), fun σ H F δ n R Qd r q w => ha σ H F δ n _ _ r (fun v d F1 H1 n1 rb rp hq => ?_) w⟩
  cases d with
  | list ds =>
    cases rp with
    | @lst a vs _ h1 r1 =>
      have h1' := rb.sub _ _ h1
      refine ⟨a, rfl, ⟨vs, SqL.of h1'⟩, fun ak lim => q _ ds F1 H1 n1 rb (fun i F2 H2 n2 sm rb2 hi => ?_) (by rw [← r1.length]; exact lim a vs (.inl (SqL.of h1'))) hq⟩
      have h2 : H2 a = some (.lst vs) := rb2.sub _ _ (sm _ _ h1)
      exact at_list (SqL.of h2) (fun xs sx => sqL_inj h2 (ak a _ h1') sx) (r1.ext' sm) rb2 i hi
  | _ => exact hq.elim
theorem df_tup (ha : DE X g a ma) : DF X g tg a (fun δ => bnd (ma δ) itT) := by
  obtain ⟨t, p, ha⟩ := ha
  refine ⟨_, PI.ap (pi_tup p), fun σ H F δ n R Qd r q w => ha σ H F δ n _ _ r (fun v d F1 H1 n1 rb rp hq => ?_) w⟩
  cases d with
  | tuple ds =>
    cases rp with
    | @tup a vs _ h1 r1 =>
      have h1' := sqT_ext rb.sub h1
      refine ⟨a, rfl, ⟨vs, h1'⟩, fun ak lim => q _ ds F1 H1 n1 rb (fun i F2 H2 n2 sm rb2 hi => ?_) (by rw [← r1.length]; exact lim a vs (.inr h1')) hq⟩
      have h2 := sqT_ext rb2.sub (sqT_ext sm h1)
      refine ⟨fun e => ⟨vs, h2, by rw [r1.length]; omega⟩, fun d hd' => ?_⟩
      obtain ⟨v, h3, h4⟩ := (r1.ext' sm).at hd'
      refine ⟨⟨vs, v, h2, h3⟩, fun x H3 y => ?_⟩
      obtain ⟨rfl, y⟩ := y
      have e := y vs h2
      rw [h3] at e
      cases e
      exact ⟨F2, rb2, h4⟩
  | _ => exact hq.elim
theorem df_str (ha : DE X g a ma) : DF X g tg a (fun δ => bnd (ma δ) itS) := by
  obtain ⟨t, p, ha⟩ := ha
  refine ⟨_, pi_str p, fun σ H F δ n R Qd r q w => ha σ H F δ n _ _ r (fun v d F1 H1 n1 rb rp hq => ?_) w⟩
  cases d with
  | str x =>
    cases rp
    have hl : (charsD x).length = x.length := by unfold charsD Str.length; simp
    refine ⟨x, rfl, q _ (charsD x) F1 H1 n1 rb (fun i F2 H2 n2 sm rb2 hi => ?_) (by rw [hl]; exact hq.1) hq.2⟩
    refine ⟨fun e => ?_, fun d hd' => ?_⟩
    · rw [hl] at e
      have e : i = x.cps.size := e
      show x.cps.size ≤ i
      omega
    · unfold charsD at hd'
      rw [List.getElem?_map] at hd'
      obtain ⟨c, hc, rfl⟩ := Option.map_eq_some_iff.mp hd'
      have hc' : x.cps[i]? = some c := by simpa using hc
      refine ⟨?_, fun y H3 hy => ?_⟩
      · show i < x.cps.size
        by_cases z : i < x.cps.size
        · exact z
        · rw [Array.getElem?_eq_none (by omega)] at hc'; cases hc'
      · obtain ⟨rfl, c', e1, rfl⟩ := hy
        rw [hc'] at e1; cases e1
        exact ⟨F2, rb2, .str _⟩
  | _ => exact hq.elim
/-- range(n), range(a, b) -/
def upTo (lo : Int) (n : Nat) : List Dt := (List.range n).map fun (i : Nat) => PyData.int (lo + (i : Int))
theorem upTo_length (lo : Int) (n : Nat) : (upTo lo n).length = n := by simp [upTo]
theorem at_range {K : PySem.W.Frag} {hd : Hd} {lo : Int} {m : Nat} {F : Hp} : ItF K hd (Itr lo m) (upTo lo m) F := by
  intro i F2 H2 n2 sm rb2 hi
  rw [upTo_length] at hi ⊢
  refine ⟨fun e => ?_, fun d hd' => ?_⟩
  · show m ≤ i
    omega
  · unfold upTo at hd'
    rw [List.getElem?_map] at hd'
    obtain ⟨j, hj, rfl⟩ := Option.map_eq_some_iff.mp hd'
    have hj2 : i < m ∧ i = j := by
      by_cases z : i < m
      · rw [List.getElem?_range z] at hj; cases hj; exact ⟨z, rfl⟩
      · rw [List.getElem?_eq_none (by simpa using z)] at hj; cases hj
    obtain ⟨h1, rfl⟩ := hj2
    refine ⟨h1, fun y H3 hy => ?_⟩
    obtain ⟨rfl, rfl⟩ := hy
    exact ⟨F2, rb2, .int _⟩
def itR1 (d : Dt) : Mv (List Dt) := match d with
  | .int k => grd (k ≤ 16000000) (ret (upTo 0 k.toNat))
  | _ => bad
theorem df_range1 {p : Pos} (hg : Gl X "range") (hm : X.mg "range" = none) (ha : DE X g a ma) (hs : starEach [a] X.env = (false, eval a X.env) :: starEach [] X.env := by rfl) (hs' : starEach [a] X.env = [(false, eval a X.env)] := by rfl)
    (lo : ∀ k : Int, k ≤ 16000000 → -(2 ^ 62) ≤ k ∨ k < -(2 ^ 62) := by intro k _; omega) :
    DF X g tg (.Call (.Name "range" p) [a] [] pos) (fun δ => bnd (ma δ) fun d => match d with | .int k => grd (-(2 ^ 62) ≤ k ∧ k ≤ 16000000) (ret (upTo 0 k.toNat)) | _ => bad) := by
  obtain ⟨t, p, ha⟩ := ha
  refine ⟨_, pi_range1 hg hm (pa_cons p pa_nil hs) hs', fun σ H F δ n R Qd r q w => ha σ H F δ n _ _ r (fun v d F1 H1 n1 rb rp hq => ?_) w⟩
  cases d with
  | int k =>
    cases rp
    obtain ⟨⟨h1, h2⟩, hq⟩ := hq
    refine ⟨k, rfl, h1, by omega, q _ _ F1 H1 n1 rb at_range ?_ hq⟩
    rw [upTo_length]
    exact Nat.le_trans (show k.toNat ≤ 16000000 by omega) (by decide)
  | _ => exact hq.elim
theorem df_range2 {p : Pos} (hg : Gl X "range") (hm : X.mg "range" = none) (ha : DE X g a ma) (hb : DE X g b mb) (hs : starEach [a, b] X.env = (false, eval a X.env) :: starEach [b] X.env := by rfl) (hs0 : starEach [b] X.env = (false, eval b X.env) :: starEach [] X.env := by rfl)
    (hs' : starEach [a, b] X.env = [(false, eval a X.env), (false, eval b X.env)] := by rfl) (hs2 : starEach [b] X.env = [(false, eval b X.env)] := by rfl) :
    DF X g tg (.Call (.Name "range" p) [a, b] [] pos) (fun δ => bnd (ma δ) fun d => bnd (mb δ) fun e => match d, e with | .int k, .int l => grd (-(2 ^ 61) ≤ k ∧ k < 2 ^ 61 ∧ -(2 ^ 61) ≤ l ∧ l ≤ k + 16000000) (ret (upTo k (l - k).toNat)) | _, _ => bad) := by
  obtain ⟨t, p, ha⟩ := ha
  obtain ⟨u, p2, hb⟩ := hb
  refine ⟨_, pi_range2 hg hm (pa_cons p (pa_cons p2 pa_nil hs0) hs) hs' hs2, fun σ H F δ n R Qd r q w => ha σ H F δ n _ _ r (fun v d F1 H1 n1 rb rp hq => ?_) w⟩
  refine hb σ H1 F1 δ n1 _ _ (r.ext rb) (fun v2 d2 F2 H2 n2 rb2 rp2 hq2 => ?_) hq
  cases d <;> cases d2 <;> first | exact hq2.elim | skip
  cases rp; cases rp2
  rename_i k l
  obtain ⟨⟨h1, h2, h3, h4⟩, hq3⟩ := hq2
  refine ⟨k, l, rfl, ⟨by omega, by omega, by omega, by omega⟩, q _ _ F2 H2 n2 (rb.trans rb2) at_range ?_ hq3⟩
  rw [upTo_length]
  exact Nat.le_trans (show (l - k).toNat ≤ 16000000 by omega) (by decide)

/-! ### targets -/
def DG (X : Cx) (g : Gh) (tg : Expr) (is : List Nat) (m : Dt → List Ds → Mv (List Ds)) : Prop := ∃ t : TG, PG X tg t ∧ ∀ (v : V) (d : Dt) (σ : L2.St) (H F : Hp) (δ : List Ds) (n : Nat) (Q : L2.St → Hp → Prop) (Qd : Kd (List Ds)), g.R X.K F σ H δ n → Rp X.K F v d →
  (∀ σ' δ', g.R X.K F σ' H δ' n → σ'.length = σ.length → (∀ j, j ∉ is → σ'[j]? = σ[j]?) → Qd δ' n → Q σ' H) → m d δ n Qd g.W → t v σ H Q
def DGs (X : Cx) (g : Gh) (ts : List Expr) (is : List Nat) (m : List Dt → List Ds → Mv (List Ds)) : Prop := ∃ t : TGs, PGs X ts t ∧ ∀ (vs : List V) (ds : List Dt) (σ : L2.St) (H F : Hp) (δ : List Ds) (n : Nat) (Q : L2.St → Hp → Prop) (Qd : Kd (List Ds)), g.R X.K F σ H δ n → RpAll X.K F vs ds →
  (∀ σ' δ', g.R X.K F σ' H δ' n → σ'.length = σ.length → (∀ j, j ∉ is → σ'[j]? = σ[j]?) → Qd δ' n → Q σ' H) → m ds δ n Qd g.W → t vs σ H Q
def gN (i : Nat) (d : Dt) (δ : List Ds) : Mv (List Ds) := ret (δ.set i (.d d))
theorem dg_name (i : Nat) {x : Str} (hN : X.N.Nodup) (hi : X.N[i]? = some x := by rfl) (hx : Loc X.env.scope x := by first | exact Or.inl rfl | exact Or.inr rfl) (hf : X.fn x = true ∨ X.env.scope.names.lookup x = some .local := by first | exact .inl rfl | exact .inr rfl) : DG X g (.Name x pos) [i] (gN i) := by
  refine ⟨_, pg_name hN hi hx hf, fun v d σ H F δ n Q Qd r rp q w => q _ _ (r.put i rp) (List.length_set ..) (fun j hj => ?_) w⟩
  rw [List.getElem?_set_ne]
  intro e
  exact hj (by rw [e]; simp)
def gsNil (ds : List Dt) (δ : List Ds) : Mv (List Ds) := match ds with
  | [] => ret δ
  | _ => bad
def gsCons (m1 : Dt → List Ds → Mv (List Ds)) (m2 : List Dt → List Ds → Mv (List Ds)) (ds : List Dt) (δ : List Ds) : Mv (List Ds) := match ds with
  | d :: r => bnd (m1 d δ) (m2 r)
  | _ => bad
theorem dgs_nil : DGs X g [] [] gsNil := by
  refine ⟨_, pgs_nil, fun vs ds σ H F δ n Q Qd r rp q w => ?_⟩
  cases ds with
  | nil => cases rp; exact ⟨rfl, q σ δ r rfl (fun _ _ => rfl) w⟩
  | cons d ds => exact w.elim
theorem dgs_cons {is js : List Nat} {m1 : Dt → List Ds → Mv (List Ds)} {m2 : List Dt → List Ds → Mv (List Ds)} (h : DG X g e is m1) (hr : DGs X g es js m2)
    (hs : (assignEach (e :: es) X.env).map (·.2) = assign e X.env :: (assignEach es X.env).map (·.2) := by rfl) : DGs X g (e :: es) (is ++ js) (gsCons m1 m2) := by
  obtain ⟨t, p, h⟩ := h
  obtain ⟨u, p2, hr⟩ := hr
  refine ⟨_, pgs_cons p p2 hs, fun vs ds σ H F δ n Q Qd r rp q w => ?_⟩
  cases ds with
  | nil => exact w.elim
  | cons d ds =>
    cases rp with
    | @cons v vr _ _ h1 h2 =>
      refine ⟨v, vr, rfl, h v d σ H F δ n _ _ r h1 (fun σ1 δ1 r1 l1 k1 hq => ?_) w⟩
      refine hr vr ds σ1 H F δ1 n _ _ r1 h2 (fun σ2 δ2 r2 l2 k2 hq2 => ?_) hq
      refine q σ2 δ2 r2 (l2.trans l1) (fun j hj => ?_) hq2
      rw [List.mem_append, not_or] at hj
      rw [k2 j hj.2, k1 j hj.1]
def gTupM (m : List Dt → List Ds → Mv (List Ds)) (k : Nat) (d : Dt) (δ : List Ds) : Mv (List Ds) := match d with
  | .tuple ds => grd (ds.length = k) (m ds δ)
  | _ => bad
theorem dg_tup {is : List Nat} {m : List Dt → List Ds → Mv (List Ds)} {k k2 : Nat} (hc : X.calm = true) (h : DGs X g es is m) (hn : (assignEach es X.env).length = k := by rfl) (hst : (assignEach es X.env).findIdx? (·.1) = none := by rfl) : DG X g (.Tuple es k2 pos) is (gTupM m k) := by
  obtain ⟨t, p, h⟩ := h
  refine ⟨_, pg_tup hc p hn hst, fun v d σ H F δ n Q Qd r rp q w => ?_⟩
  cases d with
  | tuple ds =>
    cases rp with
    | @tup a vs _ h1 h2 =>
      exact ⟨a, vs, rfl, sqT_ext r.b.sub h1, by rw [h2.length]; exact w.1, h vs ds σ H F δ n Q Qd r h2 q w.2⟩
  | _ => exact w.elim

/-! ### comprehensions -/
/-- the slots that a block forgets -/
def wipeD (δ : List Ds) : List Nat → List Ds
  | [] => δ
  | v :: vs => (wipeD δ vs).set v .no
theorem Rel.wipe {K : PySem.W.Frag} {hd : Hd} {F0 H0 F H : Hp} {σ : L2.St} {δ : List Ds} {n : Nat} (r : Rel K hd F0 H0 F σ H δ n) : ∀ vs : List Nat, Rel K hd F0 H0 F (L2.wipe σ vs) H (wipeD δ vs) n
  | [] => r
  | v :: vs => by
    have q := Rel.wipe r vs
    have no : ∀ (j : Nat) (xs : List Dt), ((wipeD δ vs).set v .no)[j]? = some (.own xs) → v ≠ j := fun j xs e z => by
      subst z
      by_cases y : v < (wipeD δ vs).length
      · rw [List.getElem?_set_self y] at e; cases e
      · rw [List.getElem?_eq_none (by simpa using y)] at e; cases e
    refine ⟨q.b, by show ((L2.wipe σ vs).set v none).length = ((wipeD δ vs).set v .no).length; rw [List.length_set, List.length_set]; exact q.len, fun j s e => ?_, fun j k xs ys a h1 h2 h3 h4 => ?_⟩
    · show SlotOk K hd H0 F H s (((L2.wipe σ vs).set v none)[j]?)
      have e : ((wipeD δ vs).set v .no)[j]? = some s := e
      by_cases z : v = j
      · subst z
        by_cases y : v < (wipeD δ vs).length
        · rw [List.getElem?_set_self y] at e; cases e; exact True.intro
        · rw [List.getElem?_eq_none (by simpa using y)] at e; cases e
      · rw [List.getElem?_set_ne z] at e ⊢
        exact q.slot j s e
    · have n1 := no j xs h1
      have n2 := no k ys h2
      have h1 : ((wipeD δ vs).set v .no)[j]? = _ := h1
      have h2 : ((wipeD δ vs).set v .no)[k]? = _ := h2
      have h3 : ((L2.wipe σ vs).set v none)[j]? = _ := h3
      have h4 : ((L2.wipe σ vs).set v none)[k]? = _ := h4
      rw [List.getElem?_set_ne n1] at h1 h3
      rw [List.getElem?_set_ne n2] at h2 h4
      exact q.own j k xs ys a h1 h2 h3 h4
theorem wipe_at (τ : L2.St) (us : List Nat) (j : Nat) : (L2.wipe τ us)[j]? = if j ∈ us ∧ j < τ.length then some none else τ[j]? := by
  induction us with
  | nil => simp [L2.wipe]
  | cons u us ih =>
    show ((L2.wipe τ us).set u none)[j]? = _
    by_cases e : u = j
    · subst e
      by_cases z : u < τ.length
      · rw [List.getElem?_set_self (by rw [wipe_length]; exact z), if_pos ⟨by simp, z⟩]
      · rw [List.getElem?_eq_none (by rw [List.length_set, wipe_length]; omega), if_neg (fun q => z q.2), List.getElem?_eq_none (by omega)]
    · rw [List.getElem?_set_ne e, ih]
      have m : j ∈ u :: us ↔ j ∈ us := by
        rw [List.mem_cons]
        exact ⟨fun q => q.elim (fun q => absurd q.symm e) id, .inr⟩
      by_cases z : j ∈ us ∧ j < τ.length
      · rw [if_pos z, if_pos ⟨m.mpr z.1, z.2⟩]
      · rw [if_neg z, if_neg (fun q => z ⟨m.mp q.1, q.2⟩)]
theorem wipe_same {σ σ' : L2.St} (vs : List Nat) (hl : σ'.length = σ.length) (hk : ∀ j, j ∉ vs → σ'[j]? = σ[j]?) : L2.wipe σ' vs = L2.wipe σ vs := by
  apply List.ext_getElem?
  intro j
  rw [wipe_at, wipe_at, hl]
  by_cases z : j ∈ vs ∧ j < σ.length
  · rw [if_pos z, if_pos z]
  · rw [if_neg z, if_neg z]
    by_cases y : j ∈ vs
    · have : ¬ j < σ.length := fun q => z ⟨y, q⟩
      rw [List.getElem?_eq_none (by omega), List.getElem?_eq_none (by omega)]
    · exact hk j y
theorem wipe_of {σ σ2 : L2.St} {vs is : List Nat} (his : ∀ i ∈ is, i ∈ vs) (l : σ2.length = (L2.wipe σ vs).length) (k : ∀ j, j ∉ is → σ2[j]? = (L2.wipe σ vs)[j]?) : L2.wipe σ2 vs = L2.wipe σ vs :=
  wipe_same vs (l.trans (wipe_length σ vs)) fun j hj => by
    rw [k j (fun z => hj (his j z)), wipe_at, if_neg fun z => hj z.1]
abbrev Gh.calm (g : Gh) : Gh := { g with W := fun _ _ => False }
/-- tests of a clause -/
def DIfs (X : Cx) (g : Gh) (ifs : List Expr) (m : Me Bool) : Prop := ∃ t : TT, PTs X ifs t ∧ ∀ (σ : L2.St) (H F : Hp) (δ : List Ds) (n : Nat) (Q : Bool → Hp → Prop) (Qd : Kd Bool), g.R X.K F σ H δ n →
  (∀ b F' H' n', RelB g.hd F H F' H' n' → Qd b n' → Q b H') → m δ n Qd g.W → t σ H Q
theorem difs_nil : DIfs X g [] (fun _ => ret true) := ⟨_, pts_nil, fun σ H F δ n Q Qd r q w => q true F H n r.b.refl w⟩
theorem difs_one {m : Me Bool} (h : DT X g c m) : DIfs X g [c] m := by
  obtain ⟨t, p, h⟩ := h
  exact ⟨_, pts_one p, h⟩
/-- the items of a comprehension one by one -/
def lcM (gt : Dt → List Ds → Mv (List Ds)) (mi : Me Bool) (me : Me Dt) (δ : List Ds) : List Dt → List Dt → Mv (List Dt)
  | [], acc => ret acc
  | x :: xs, acc => bnd (gt x δ) fun δ' => bnd (mi δ') fun b => if b then bnd (me δ') fun y => lcM gt mi me δ xs (acc ++ [y]) else lcM gt mi me δ xs acc
/-- every block of that scope -/
def Blk (X : Cx) (scope : Scope) (P : Cx → Prop) : Prop := ∀ (s : Shared) (H : Hp) (C : Addr) (cl : List (Str × Addr)) (fp : List Addr), P (X.blk s H scope (compEnvC scope cl C X.env) fp)
/-- one reading of the comprehension's parts for every block, and what it needs -/
theorem lc_parts {elt : Expr} {ifs : List Expr} {scope : Scope} {vs : List Nat} {is : List Nat} {mit : Me (List Dt)} {gt : Dt → List Ds → Mv (List Ds)} {mi : Me Bool} {me : Me Dt}
    (hi : DI X g tg it mit) (his : ∀ i ∈ is, i ∈ vs) (hg : Blk X scope fun Y => DG Y g.calm tg is gt) (ht : Blk X scope fun Y => DIfs Y g.calm ifs mi) (he : Blk X scope fun Y => DE Y g.calm elt me) :
    ∃ (wi : TI) (tG : TG) (tT : TT) (tE : TE), PI X tg it wi ∧ (∀ (s : Shared) (H : Hp) (C : Addr) (cl : List (Str × Addr)) (fp : List Addr), PG (X.blk s H scope (compEnvC scope cl C X.env) fp) tg tG) ∧
      (∀ (s : Shared) (H : Hp) (C : Addr) (cl : List (Str × Addr)) (fp : List Addr), PTs (X.blk s H scope (compEnvC scope cl C X.env) fp) ifs tT) ∧ (∀ (s : Shared) (H : Hp) (C : Addr) (cl : List (Str × Addr)) (fp : List Addr), PE (X.blk s H scope (compEnvC scope cl C X.env) fp) elt tE) ∧
      ∀ (σ : L2.St) (H F : Hp) (δ : List Ds) (n : Nat) (Q : VK) (Qd : Kd (List Dt)), g.R X.K F σ H δ n →
        (∀ a us ds F' H' n', RelB g.hd F H F' H' n' → H a = none → F' a = none → H' a = some (.lst us) → RpAll X.K F' us ds → Qd ds n' → Q (.ref a) H') →
        (bnd (mit δ) fun items n Q W => lcM gt mi me (wipeD δ vs) items [] n Q fun _ _ => False) n Qd g.W → tLc wi tG tT tE vs σ H Q := by
  obtain ⟨wi, pi, hi⟩ := hi
  let TG' : TG := fun v σ H Q => ∀ (s : Shared) (H0 : Hp) (C : Addr) (cl : List (Str × Addr)) (fp : List Addr), (hg s H0 C cl fp).choose v σ H Q
  let TT' : TT := fun σ H Q => ∀ (s : Shared) (H0 : Hp) (C : Addr) (cl : List (Str × Addr)) (fp : List Addr), (ht s H0 C cl fp).choose σ H Q
  let TE' : TE := fun σ H Q => ∀ (s : Shared) (H0 : Hp) (C : Addr) (cl : List (Str × Addr)) (fp : List Addr), (he s H0 C cl fp).choose σ H Q
  refine ⟨wi, TG', TT', TE', pi, (fun s H0 C cl fp => ⟨fun pins s' σ H v u Q I r w => (hg s H0 C cl fp).choose_spec.1.run pins s' σ H v u Q I r (w s H0 C cl fp)⟩),
    (fun s H0 C cl fp => ⟨fun pins s' σ H Q I w => (ht s H0 C cl fp).choose_spec.1.run pins s' σ H Q I (w s H0 C cl fp)⟩),
    (fun s H0 C cl fp => ⟨fun pins s' σ H Q I w => (he s H0 C cl fp).choose_spec.1.run pins s' σ H Q I (w s H0 C cl fp)⟩), fun σ H F δ n Q Qd R q w => ?_⟩
  refine hi σ H F δ n _ _ R (fun J items F1 H1 n1 rb ix lim hq => ?_) w
  intro D nD
  have fD : F1 D = none := free_of rb.sub nD
  have hD0 : ¬ InHd g.hd D := fun i => by
    obtain ⟨o, z⟩ := rb.hand.there i
    rw [nD] at z; cases z
  have hHD : H D = none := rb.old (fun b i => rb.hand.there i) nD
  refine ⟨fun i m H2 => m = items.length - i ∧ i ≤ items.length ∧ ∃ F2 n2 acc us, RelB g.hd F1 H1 F2 H2 n2 ∧ H2 D = some (.lst us) ∧ F2 D = none ∧ RpAll X.K F2 us acc ∧ acc.length ≤ i ∧
      lcM gt mi me (wipeD δ vs) (items.drop i) acc n2 Qd (fun _ _ => False),
    ⟨items.length, by simp, Nat.zero_le _, F1, n1, [], [], rb.refl.layH nD, upd_same, fD, .nil, Nat.zero_le _, hq⟩, ?_⟩
  rintro i m H2 ⟨rfl, hi', F2, n2, acc, us, rb2, hD2, fD2, ra, hla, hq2⟩
  obtain ⟨stop, go⟩ := ix i F2 H2 n2 rb2 hi'
  by_cases hlt : i < items.length
  · obtain ⟨d, hd'⟩ : ∃ d, items[i]? = some d := ⟨items[i], by simp [hlt]⟩
    obtain ⟨hgo, hy⟩ := go d hd'
    have e : items.drop i = d :: items.drop (i + 1) := by
      rw [List.drop_eq_getElem_cons hlt]
      have : items[i] = d := by
        have := hd'
        rw [List.getElem?_eq_getElem hlt] at this
        exact Option.some.inj this
      rw [this]
    rw [e] at hq2
    refine .inr ⟨hgo, fun H' => ∃ F3 n3 acc us, RelB g.hd F1 H1 F3 H' n3 ∧ H' D = some (.lst us) ∧ F3 D = none ∧ RpAll X.K F3 us acc ∧ acc.length ≤ i + 1 ∧ lcM gt mi me (wipeD δ vs) (items.drop (i + 1)) acc n3 Qd (fun _ _ => False),
      fun H' ⟨F3, n3, acc', us', k1, k2, k3, k4, k5, k6⟩ => ⟨items.length - (i + 1), by omega, rfl, by omega, F3, n3, acc', us', k1, k2, k3, k4, k5, k6⟩, fun x H' y => ?_⟩
    obtain ⟨F3, rb3, rx⟩ := hy x H' y
    have RB3 := rb2.trans rb3
    have keep : ∀ {F4 H4 n4}, RelB g.hd F3 H' F4 H4 n4 → H4 D = some (.lst us) ∧ F4 D = none := fun {F4 H4 n4} rb4 => by
      have z := rb3.trans rb4
      refine ⟨z.h0 _ _ hD2 hD0, ?_⟩
      cases y : F4 D with
      | none => rfl
      | some u =>
        rcases z.fnew D u y with k | k
        · rw [fD2] at k; cases k
        · rw [hD2] at k; cases k
    have R3 : g.calm.R X.K F3 (L2.wipe σ vs) H' (wipeD δ vs) n2 := by
      have z := (R.ext (rb.trans RB3)).wipe vs
      exact z
    intro s H0 C cl fp
    refine (hg s H0 C cl fp).choose_spec.2 x d _ H' F3 _ n2 _ _ R3 rx (fun σ2 δ2 R4 l4 k4 hq4 => ?_) hq2
    refine ⟨wipe_of his l4 k4, ?_⟩
    intro s H0 C cl fp
    refine (ht s H0 C cl fp).choose_spec.2 σ2 H' F3 δ2 n2 _ _ R4 (fun b F5 H5 n5 rb5 hq5 => ?_) hq4
    obtain ⟨kD5, kF5⟩ := keep rb5
    cases b with
    | false =>
      rw [if_neg Bool.false_ne_true] at hq5 ⊢
      exact ⟨F5, n5, acc, us, RB3.trans rb5, kD5, kF5, (ra.ext' rb3.f0).ext' rb5.f0, by omega, hq5⟩
    | true =>
      rw [if_pos rfl] at hq5 ⊢
      intro s H0 C cl fp
      refine (he s H0 C cl fp).choose_spec.2 σ2 H5 F5 δ2 n5 _ _ (R4.ext rb5) (fun y d6 F6 H6 n6 rb6 rp6 hq6 => ?_) hq5
      obtain ⟨kD6, kF6⟩ := keep (rb5.trans rb6)
      have ra6 := ((ra.ext' rb3.f0).ext' rb5.f0).ext' rb6.f0
      refine ⟨us, kD6, ?_, F6, n6, acc ++ [d6], us ++ [y], ((RB3.trans rb5).trans rb6).change kF6 nD hD0, upd_same, kF6, ra6.app (.cons rp6 .nil), by rw [List.length_append, List.length_singleton]; omega, hq6⟩
      rw [ra6.length]
      omega
  · have e : i = items.length := by omega
    refine .inl ⟨stop e, ?_⟩
    rw [e, List.drop_length] at hq2
    exact q D us acc F2 H2 n2 (rb.trans rb2) hHD fD2 hD2 ra hq2
/-- what a comprehension is -/
def lcD (mit : Me (List Dt)) (gt : Dt → List Ds → Mv (List Ds)) (mi : Me Bool) (me : Me Dt) (vs : List Nat) : Me (List Dt) := fun δ => bnd (mit δ) fun items n Q _ => lcM gt mi me (wipeD δ vs) items [] n Q fun _ _ => False
theorem dn_lc {elt : Expr} {ifs : List Expr} {scope : Scope} {own : List (Str × Nat)} {is : List Nat} {mit : Me (List Dt)} {gt : Dt → List Ds → Mv (List Ds)} {mi : Me Bool} {me : Me Dt} (hc : X.calm = true) (hN : X.N.Nodup) (ok : BlkOk X.N X.env.scope scope own)
    (hi : DI X g tg it mit) (hg : Blk X scope fun Y => DG Y g.calm tg is gt) (ht : Blk X scope fun Y => DIfs Y g.calm ifs mi) (he : Blk X scope fun Y => DE Y g.calm elt me) (his : ∀ i ∈ is, i ∈ own.map (·.2) := by decide) (hs : ∀ x, foldedSetIterable it X.env x = pure x := by intro _; rfl) :
    DN X g (.ListComp elt [⟨tg, it, ifs, 0⟩] scope pos) (lcD mit gt mi me (own.map (·.2))) := by
  obtain ⟨wi, tG, tT, tE, p1, p2, p3, p4, sp⟩ := lc_parts (vs := own.map (·.2)) hi his hg ht he
  exact ⟨_, pe_lc hc hN p1 ok p2 p3 p4 hs, sp⟩

end
end Dl
namespace Dl
open PySem PySem.Spec L2

/-! ### statements -/
/-- what is wanted behind a statement -/
structure Sk where
  nx : List Ds → Nat → Prop
  rt : Dt → Nat → Prop
  bk : List Ds → Nat → Prop := fun _ _ => False
  ct : List Ds → Nat → Prop := fun _ _ => False
abbrev Ms := List Ds → Nat → Sk → Wx → Prop
def SpS (g : Gh) (K : PySem.W.Frag) (t : TS) (m : Ms) : Prop := ∀ (σ : L2.St) (H F : Hp) (δ : List Ds) (n : Nat) (D : Ends) (k : Sk), g.R K F σ H δ n →
  (∀ σ' H' F' δ' n', Same F F' → g.R K F' σ' H' δ' n' → k.nx δ' n' → D.nx σ' H') → (∀ v d H' F' n', Same F F' → g.B F' H' n' → Rp K F' v d → k.rt d n' → D.rt v H') →
  (∀ σ' H' F' δ' n', Same F F' → g.R K F' σ' H' δ' n' → k.bk δ' n' → D.bk σ' H') → (∀ σ' H' F' δ' n', Same F F' → g.R K F' σ' H' δ' n' → k.ct δ' n' → D.ct σ' H') → m δ n k g.W → t D σ H
def DS (X : Cx) (g : Gh) (st : Stmt) (m : Ms) : Prop := ∃ t : TS, PS X st t ∧ SpS g X.K t m
def DSs (X : Cx) (g : Gh) (st : List Stmt) (m : Ms) : Prop := ∃ t : TS, PSs X st t ∧ SpS g X.K t m
section
variable {X : Cx} {g : Gh} {tg a b c e it : Expr} {es : List Expr} {pos : Pos} {ma mb mc : Me Dt} {st : Stmt} {rest body orelse : List Stmt} {m m1 m2 : Ms}
def sNext : Ms := fun δ n k _ => k.nx δ n
def sSeq (m1 m2 : Ms) : Ms := fun δ n k W => m1 δ n { k with nx := fun δ' n' => m2 δ' n' k W } W
theorem dss_nil : DSs X g [] sNext := ⟨_, pss_nil, fun σ H F δ n D k R q1 q2 q3 q4 w => q1 σ H F δ n (Same.refl _) R w⟩
theorem dss_cons (h1 : DS X g st m1) (h2 : DSs X g rest m2) : DSs X g (st :: rest) (sSeq m1 m2) := by
  obtain ⟨t, p, h1⟩ := h1
  obtain ⟨u, p2, h2⟩ := h2
  refine ⟨_, pss_cons p p2, fun σ H F δ n D k R q1 q2 q3 q4 w => ?_⟩
  refine h1 σ H F δ n _ { k with nx := fun δ' n' => m2 δ' n' k g.W } R (fun σ' H' F' δ' n' sm R' hq => ?_) q2 q3 q4 w
  exact h2 σ' H' F' δ' n' D k R' (fun a b c d e s => q1 a b c d e (sm.trans s)) (fun a b c d e s => q2 a b c d e (sm.trans s)) (fun a b c d e s => q3 a b c d e (sm.trans s)) (fun a b c d e s => q4 a b c d e (sm.trans s)) hq
theorem dss_one (h1 : DS X g st m1) : DSs X g [st] m1 := by
  obtain ⟨t, p, h1⟩ := h1
  exact ⟨_, pss_one p, h1⟩
theorem ds_pass : DS X g (.Pass pos) sNext := ⟨_, ps_pass, fun σ H F δ n D k R q1 q2 q3 q4 w => q1 σ H F δ n (Same.refl _) R w⟩
theorem ds_break : DS X g (.Break pos) (fun δ n k _ => k.bk δ n) := ⟨_, ps_break, fun σ H F δ n D k R q1 q2 q3 q4 w => q3 σ H F δ n (Same.refl _) R w⟩
theorem ds_continue : DS X g (.Continue pos) (fun δ n k _ => k.ct δ n) := ⟨_, ps_continue, fun σ H F δ n D k R q1 q2 q3 q4 w => q4 σ H F δ n (Same.refl _) R w⟩
theorem ds_doc {x : Str} {j : Nat} {p : Pos} : DS X g (.Expr (.Constant (.str x) j p) pos) sNext := ⟨_, ps_doc, fun σ H F δ n D k R q1 q2 q3 q4 w => q1 σ H F δ n (Same.refl _) R w⟩
theorem ds_expr (h : DE X g e ma) (hs : swapsWith e none pos.line X.env = pure false := by rfl) : DS X g (.Expr e pos) (fun δ n k W => ma δ n (fun _ n' => k.nx δ n') W) := by
  obtain ⟨t, p, h⟩ := h
  exact ⟨_, ps_expr p hs, fun σ H F δ n D k R q1 q2 q3 q4 w => h σ H F δ n _ _ R (fun v d F' H' n' rb rp hq => q1 σ H' F' δ n' rb.f0 (R.ext rb) hq) w⟩
theorem ds_ret (h : DE X g e ma) : DS X g (.Return (some e) pos) (fun δ n k W => ma δ n k.rt W) := by
  obtain ⟨t, p, h⟩ := h
  exact ⟨_, ps_ret p, fun σ H F δ n D k R q1 q2 q3 q4 w => h σ H F δ n _ _ R (fun v d F' H' n' rb rp hq => q2 v d H' F' n' rb.f0 (R.b.trans rb) rp hq) w⟩
theorem ds_retN : DS X g (.Return none pos) (fun δ n k _ => k.rt .none n) := ⟨_, ps_retN, fun σ H F δ n D k R q1 q2 q3 q4 w => q2 .non .none H F n (Same.refl _) R.b .non w⟩
def sIf (mc : Me Bool) (m1 m2 : Ms) : Ms := fun δ n k W => mc δ n (fun b n' => if b = true then m1 δ n' k W else m2 δ n' k W) W
theorem ds_if {mt : Me Bool} (hc : DT X g c mt) (ha : DSs X g body m1) (hb : DSs X g orelse m2) : DS X g (.If c body orelse pos) (sIf mt m1 m2) := by
  obtain ⟨tc, pc, hc⟩ := hc
  obtain ⟨t, p, ha⟩ := ha
  obtain ⟨u, p2, hb⟩ := hb
  refine ⟨_, ps_if pc p p2, fun σ H F δ n D k R q1 q2 q3 q4 w => hc σ H F δ n _ _ R (fun b F' H' n' rb hq => ?_) w⟩
  have z1 : ∀ σ' H'' F'' δ' n', Same F' F'' → g.R X.K F'' σ' H'' δ' n' → k.nx δ' n' → D.nx σ' H'' := fun a b c d e s => q1 a b c d e (rb.f0.trans s)
  have z2 : ∀ v d H'' F'' n', Same F' F'' → g.B F'' H'' n' → Rp X.K F'' v d → k.rt d n' → D.rt v H'' := fun a b c d e s => q2 a b c d e (rb.f0.trans s)
  have z3 : ∀ σ' H'' F'' δ' n', Same F' F'' → g.R X.K F'' σ' H'' δ' n' → k.bk δ' n' → D.bk σ' H'' := fun a b c d e s => q3 a b c d e (rb.f0.trans s)
  have z4 : ∀ σ' H'' F'' δ' n', Same F' F'' → g.R X.K F'' σ' H'' δ' n' → k.ct δ' n' → D.ct σ' H'' := fun a b c d e s => q4 a b c d e (rb.f0.trans s)
  cases b with
  | true => rw [if_pos rfl] at hq ⊢; exact ha σ H' F' δ n' D k (R.ext rb) z1 z2 z3 z4 hq
  | false => rw [if_neg Bool.false_ne_true] at hq ⊢; exact hb σ H' F' δ n' D k (R.ext rb) z1 z2 z3 z4 hq
/-- target = e -/
def sAsg (me : Me Dt) (gt : Dt → List Ds → Mv (List Ds)) : Ms := fun δ n k W => me δ n (fun d n' => gt d δ n' k.nx W) W
theorem ds_asg {is : List Nat} {gt : Dt → List Ds → Mv (List Ds)} (he : DE X g e ma) (hg : DG X g tg is gt) (hs : swapsWithSole [tg] e pos.line X.env = pure false := by rfl) (hw : swappedStores [tg] e X.env = pure none := by rfl)
    (h1 : (assignEach [tg] X.env).map (·.2) = [assign tg X.env] := by rfl) : DS X g (.Assign [tg] e pos) (sAsg ma gt) := by
  obtain ⟨t, p, he⟩ := he
  obtain ⟨u, p2, hg⟩ := hg
  refine ⟨_, ps_asg p p2 hs hw h1, fun σ H F δ n D k R q1 q2 q3 q4 w => he σ H F δ n _ _ R (fun v d F' H' n' rb rp hq => ?_) w⟩
  exact hg v d σ H' F' δ n' _ _ (R.ext rb) rp (fun σ' δ' R' _ _ hq => q1 σ' H' F' δ' n' rb.f0 R' hq) hq
theorem ds_set (i : Nat) {x : Str} {p' : Pos} (hN : X.N.Nodup) (he : DE X g e ma) (hi : X.N[i]? = some x := by rfl) (hx : Loc X.env.scope x := by first | exact Or.inl rfl | exact Or.inr rfl) (hs : swapsWith e (some (.Name x p')) pos.line X.env = pure false := by rfl)
    (hf : X.fn x = true ∨ X.env.scope.names.lookup x = some .local := by first | exact .inl rfl | exact .inr rfl) : DS X g (.Assign [.Name x p'] e pos) (sAsg ma (gN i)) := by
  obtain ⟨t, p, he⟩ := he
  exact ⟨_, ps_set hN hi hx p hs hf, fun σ H F δ n D k R q1 q2 q3 q4 w => he σ H F δ n _ _ R (fun v d F' H' n' rb rp hq => q1 _ H' F' _ n' rb.f0 ((R.ext rb).put i rp) hq) w⟩
/-- name = a new list that stays the def's own -/
def sOwn (i : Nat) (me : Me (List Dt)) : Ms := fun δ n k W => me δ n (fun ds n' => k.nx (δ.set i (.own ds)) n') W
theorem own_in {K : PySem.W.Frag} {F H : Hp} {σ : L2.St} {δ : List Ds} {n : Nat} {F' H' : Hp} {n' : Nat} {p : Addr} {vs : List V} {ds : List Dt} (R : g.R K F σ H δ n) (rb : RelB g.hd F H F' H' n') (na : H p = none) (fa : F' p = none) (ha : H' p = some (.lst vs)) (hr : RpAll K F' vs ds) (i : Nat) :
    g.R K F' (σ.set i (some (.ref p))) H' (δ.set i (.own ds)) n' := by
  have ni : ¬ InHd g.hd p := fun z => by
    obtain ⟨o, y⟩ := R.b.hand.there z
    rw [na] at y; cases y
  have h0 : g.H0 p = none := R.b.old (fun b i => R.b.hand.there i) na
  exact (R.ext rb).putOwn i fa h0 ni ha hr fun j ys e => R.fresh na j ys e
theorem ds_own (i : Nat) {x : Str} {p' : Pos} {me : Me (List Dt)} (hN : X.N.Nodup) (he : DN X g e me) (hi : X.N[i]? = some x := by rfl) (hx : Loc X.env.scope x := by first | exact Or.inl rfl | exact Or.inr rfl) (hs : swapsWith e (some (.Name x p')) pos.line X.env = pure false := by rfl)
    (hf : X.fn x = true ∨ X.env.scope.names.lookup x = some .local := by first | exact .inl rfl | exact .inr rfl) : DS X g (.Assign [.Name x p'] e pos) (sOwn i me) := by
  obtain ⟨t, p, he⟩ := he
  exact ⟨_, ps_set hN hi hx p hs hf, fun σ H F δ n D k R q1 q2 q3 q4 w => he σ H F δ n _ _ R (fun a vs ds F' H' n' rb na fa ha hr hq => q1 _ H' F' _ n' rb.f0 (own_in R rb na fa ha hr i) hq) w⟩
/-- name = [.. for ..] on one line -/
theorem ds_ownLc (i : Nat) {x : Str} {p' spos : Pos} {elt : Expr} {ifs : List Expr} {scope : Scope} {own : List (Str × Nat)} {is : List Nat} {mit : Me (List Dt)} {gt : Dt → List Ds → Mv (List Ds)} {mi : Me Bool} {me : Me Dt} (hc : X.calm = true) (hN : X.N.Nodup) (ok : BlkOk X.N X.env.scope scope own)
    (hit : DI X g tg it mit) (hg : Blk X scope fun Y => DG Y g.calm tg is gt) (ht : Blk X scope fun Y => DIfs Y g.calm ifs mi) (he : Blk X scope fun Y => DE Y g.calm elt me) (hi : X.N[i]? = some x := by rfl) (hl : X.env.scope.names.lookup x = some .local := by rfl)
    (hk : X.env.scope.kind = .function := by rfl) (hln : (p'.line == pos.line) = true := by rfl) (hno : (scope.names.any fun (n, k) => n == x && (k == .local || k == .cell)) = false := by rfl)
    (his : ∀ i ∈ is, i ∈ own.map (·.2) := by decide) (hs : ∀ x, foldedSetIterable it X.env x = pure x := by intro _; rfl) :
    DS X g (.Assign [.Name x p'] (.ListComp elt [⟨tg, it, ifs, 0⟩] scope pos) spos) (sOwn i (lcD mit gt mi me (own.map (·.2)))) := by
  obtain ⟨wi, tG, tT, tE, p1, p2, p3, p4, sp⟩ := lc_parts (vs := own.map (·.2)) hit his hg ht he
  exact ⟨_, ps_setLc hc hN hi hl (sw_true hk hl hln hno) p1 ok p2 p3 p4 hs, fun σ H F δ n D k R q1 q2 q3 q4 w => sp σ H F δ n _ _ R (fun a vs ds F' H' n' rb na fa ha hr hq => q1 _ H' F' _ n' rb.f0 (own_in R rb na fa ha hr i) hq) w⟩
/-- a name's own list becomes a datum -/
def frz (i : Nat) (δ : List Ds) : List Ds := match δ[i]? with
  | some (.own xs) => δ.set i (.d (.list xs))
  | _ => δ
theorem Rel.frz {K : PySem.W.Frag} {hd : Hd} {F0 H0 F H : Hp} {σ : L2.St} {δ : List Ds} {n : Nat} (r : Rel K hd F0 H0 F σ H δ n) (i : Nat) : ∃ F', Same F F' ∧ Rel K hd F0 H0 F' σ H (Dl.frz i δ) n := by
  unfold Dl.frz
  cases e : δ[i]? with
  | none => exact ⟨F, Same.refl _, r⟩
  | some s =>
    cases s with
    | own xs =>
      obtain ⟨a, vs, h1, h2, h3, h4, h5, h6⟩ := r.slot i _ e
      have ex : Same F (upd F a (.lst vs)) := fun x o y => by
        rw [upd_ne (fun z => by rw [z, h2] at y; cases y)]; exact y
      have b2 := r.b.freeze h5 h2 h3 h4
      have hl : i < δ.length := by
        by_cases z : i < δ.length
        · exact z
        · rw [List.getElem?_eq_none (by simpa using z)] at e; cases e
      refine ⟨upd F a (.lst vs), ex, b2, by rw [List.length_set]; exact r.len, fun j s e2 => ?_, fun j k ys zs b e1 e2 e3 e4 => ?_⟩
      · by_cases q : i = j
        · subst q
          rw [List.getElem?_set_self hl] at e2
          cases e2
          exact ⟨_, h1, .lst upd_same (h6.ext' ex)⟩
        · rw [List.getElem?_set_ne q] at e2
          have z := r.slot j s e2
          cases s with
          | no => trivial
          | d x =>
            obtain ⟨v, k1, k2⟩ := z
            exact ⟨v, k1, k2.ext' ex⟩
          | own ys =>
            obtain ⟨b, us, k1, k2, k3, k4, k5, k6⟩ := z
            refine ⟨b, us, k1, ?_, k3, k4, k5, k6.ext' ex⟩
            rw [upd_ne ?_]
            · exact k2
            · intro y
              subst y
              exact q (r.own i j xs ys b e e2 h1 k1)
          | hand => exact z
      · have ne : ∀ (j : Nat) (ys : List Dt), (δ.set i (.d (.list xs)))[j]? = some (.own ys) → i ≠ j := fun j ys e q => by
          subst q
          rw [List.getElem?_set_self hl] at e; cases e
        have n1 := ne j ys e1
        have n2 := ne k zs e2
        rw [List.getElem?_set_ne n1] at e1
        rw [List.getElem?_set_ne n2] at e2
        exact r.own j k ys zs b e1 e2 e3 e4
    | no => exact ⟨F, Same.refl _, r⟩
    | d x => exact ⟨F, Same.refl _, r⟩
    | hand => exact ⟨F, Same.refl _, r⟩
theorem dss_frz (i : Nat) (h : DSs X g rest m) : DSs X g rest (fun δ => m (frz i δ)) := by
  obtain ⟨t, p, h⟩ := h
  refine ⟨t, p, fun σ H F δ n D k R q1 q2 q3 q4 w => ?_⟩
  obtain ⟨F', ex, R'⟩ := Rel.frz R i
  exact h σ H F' _ n D k R' (fun a b c d e s => q1 a b c d e (ex.trans s)) (fun a b c d e s => q2 a b c d e (ex.trans s)) (fun a b c d e s => q3 a b c d e (ex.trans s)) (fun a b c d e s => q4 a b c d e (ex.trans s)) w
/-- an own list of a slot is rewritten -/
theorem Rel.rewrite {K : PySem.W.Frag} {hd : Hd} {F0 H0 F H : Hp} {σ : L2.St} {δ : List Ds} {n : Nat} (r : Rel K hd F0 H0 F σ H δ n) {i : Nat} {xs : List Dt} {a : Addr} {us : List V} {ys : List Dt} (e : δ[i]? = some (.own xs)) (h1 : σ[i]? = some (some (.ref a)))
    (h2 : RpAll K F us ys) : Rel K hd F0 H0 F σ (upd H a (.lst us)) (δ.set i (.own ys)) n := by
  obtain ⟨a', vs, k1, k2, k3, k4, k5, k6⟩ := r.slot i _ e
  rw [h1] at k1
  cases k1
  have hl : i < δ.length := by
    by_cases z : i < δ.length
    · exact z
    · rw [List.getElem?_eq_none (by simpa using z)] at e; cases e
  refine ⟨r.b.change k2 k3 k4, by rw [List.length_set]; exact r.len, fun j s e2 => ?_, fun j k ys' zs b e1 e2 e3 e4 => ?_⟩
  · by_cases q : i = j
    · subst q
      rw [List.getElem?_set_self hl] at e2
      cases e2
      exact ⟨a, us, h1, k2, k3, k4, upd_same, h2⟩
    · rw [List.getElem?_set_ne q] at e2
      have z := r.slot j s e2
      cases s with
      | no => trivial
      | d x => exact z
      | own zs =>
        obtain ⟨b, ws, j1, j2, j3, j4, j5, j6⟩ := z
        refine ⟨b, ws, j1, j2, j3, j4, ?_, j6⟩
        rw [upd_ne ?_]
        · exact j5
        · intro y
          subst y
          exact q (r.own i j xs zs b e e2 h1 j1)
      | hand => exact z
  · have un : ∀ (j : Nat) (zs : List Dt), (δ.set i (.own ys))[j]? = some (.own zs) → ∃ ws, δ[j]? = some (.own ws) := fun j zs e' => by
      by_cases q : i = j
      · subst q; exact ⟨xs, e⟩
      · rw [List.getElem?_set_ne q] at e'; exact ⟨zs, e'⟩
    obtain ⟨w1, f1⟩ := un j ys' e1
    obtain ⟨w2, f2⟩ := un k zs e2
    exact r.own j k w1 w2 b f1 f2 e3 e4
/-- the own list of a slot -/
def withOwn (i : Nat) (δ : List Ds) (f : List Dt → Prop) : Prop := match δ[i]? with
  | some (.own xs) => f xs
  | _ => False
theorem withOwn.ex {i : Nat} {δ : List Ds} {f : List Dt → Prop} (h : withOwn i δ f) : ∃ xs, δ[i]? = some (.own xs) ∧ f xs := by
  unfold withOwn at h
  cases e : δ[i]? with
  | none => rw [e] at h; exact h.elim
  | some s =>
    rw [e] at h
    cases s with
    | own xs => exact ⟨xs, rfl, h⟩
    | _ => exact h.elim
def sAppend (i : Nat) (me : Me Dt) : Ms := fun δ n k W => withOwn i δ fun xs => me δ n (fun d n' => xs.length < sizeLine ∧ k.nx (δ.set i (.own (xs ++ [d]))) n') W
def sExtend (i : Nat) (me : Me Dt) : Ms := fun δ n k W => withOwn i δ fun xs => me δ n (fun d n' => match d with | .list ys => xs.length + ys.length ≤ sizeLine ∧ k.nx (δ.set i (.own (xs ++ ys))) n' | _ => False) W
section
variable {x : Str} {px apos cpos : Pos}
theorem ds_append (i : Nat) (he : DE X g e ma) (hN : X.N[i]? = some x := by rfl) (hv : Vis X.env.scope x := by first | exact Or.inl rfl | exact Or.inr (Or.inl rfl) | exact Or.inr (Or.inr rfl)) (hd : (x == ("__debug__" : Str)) = false := by decide)
    (hcd : (x == ("__classdict__" : Str)) = false := by decide)
    (hbase : attributeBase (.Name x px) "append" X.env (eval (.Name x px) X.env) = eval (.Name x px) X.env := by rfl)
    (hfew : ((backTo cpos (starEach [e] X.env)).all (fun x => !x.1) && (backToKw cpos (keywordEach [] X.env)).all (fun x => x.1.isSome)
      && decide (([e] : List Expr).length + ([] : List Keyword).length + (if ([] : List Keyword).isEmpty then 0 else 1) < 30)) = true := by rfl)
    (hline : (apos.endLine == cpos.line) = true := by rfl) (hs : starEach [e] X.env = (false, eval e X.env) :: starEach [] X.env := by rfl) (hplain : (backTo cpos (starEach [] X.env)).any (·.1) = false := by rfl)
    (hsw : swapsWith (.Call (.Attribute (.Name x px) "append" apos) [e] [] cpos) none pos.line X.env = pure false := by rfl) :
    DS X g (.Expr (.Call (.Attribute (.Name x px) "append" apos) [e] [] cpos) pos) (sAppend i ma) := by
  obtain ⟨t, p, he⟩ := he
  refine ⟨_, ps_expr (pe_bm PySem.F.plainAttrs_list PySem.F.slot_list_append PySem.F.type_list_append mt_append (pe_var hN hv hd hcd) (pa_cons p pa_nil hs) hbase hfew hline hs hplain) hsw, fun σ H F δ n D k R q1 q2 q3 q4 w => ?_⟩
  obtain ⟨xs, es, w⟩ := withOwn.ex w
  obtain ⟨a, vs, k1, k2, k3, k4, k5, k6⟩ := R.slot i _ es
  refine ⟨.ref a, k1, .inl ⟨rfl, vs, SqL.of k5⟩, he σ H F δ n _ _ R (fun v d F' H' n' rb rp hq => ?_) w⟩
  have k6' := k6.ext' rb.f0
  refine ⟨a, vs, v, rfl, rfl, rb.h0 _ _ k5 k4, by rw [k6'.length]; exact hq.1, ?_⟩
  exact q1 σ _ F' _ n' rb.f0 ((R.ext rb).rewrite es k1 (k6'.app (.cons rp .nil))) hq.2
theorem ds_extend (i : Nat) (he : DX X g e ma) (hN : X.N[i]? = some x := by rfl) (hv : Vis X.env.scope x := by first | exact Or.inl rfl | exact Or.inr (Or.inl rfl) | exact Or.inr (Or.inr rfl)) (hd : (x == ("__debug__" : Str)) = false := by decide)
    (hcd : (x == ("__classdict__" : Str)) = false := by decide)
    (hbase : attributeBase (.Name x px) "extend" X.env (eval (.Name x px) X.env) = eval (.Name x px) X.env := by rfl)
    (hfew : ((backTo cpos (starEach [e] X.env)).all (fun x => !x.1) && (backToKw cpos (keywordEach [] X.env)).all (fun x => x.1.isSome)
      && decide (([e] : List Expr).length + ([] : List Keyword).length + (if ([] : List Keyword).isEmpty then 0 else 1) < 30)) = true := by rfl)
    (hline : (apos.endLine == cpos.line) = true := by rfl) (hs : starEach [e] X.env = (false, eval e X.env) :: starEach [] X.env := by rfl) (hplain : (backTo cpos (starEach [] X.env)).any (·.1) = false := by rfl)
    (hsw : swapsWith (.Call (.Attribute (.Name x px) "extend" apos) [e] [] cpos) none pos.line X.env = pure false := by rfl) :
    DS X g (.Expr (.Call (.Attribute (.Name x px) "extend" apos) [e] [] cpos) pos) (sExtend i ma) := by
  obtain ⟨t, p, he⟩ := he
  refine ⟨_, ps_expr (pe_bm PySem.F.plainAttrs_list PySem.F.slot_list_extend PySem.F.type_list_extend mt_extend (pe_var hN hv hd hcd) (pa_cons p pa_nil hs) hbase hfew hline hs hplain) hsw, fun σ H F δ n D k R q1 q2 q3 q4 w => ?_⟩
  obtain ⟨xs, es, w⟩ := withOwn.ex w
  obtain ⟨a, vs, k1, k2, k3, k4, k5, k6⟩ := R.slot i _ es
  refine ⟨.ref a, k1, .inl ⟨rfl, vs, SqL.of k5⟩, he σ H F δ n _ _ R (fun v d F' H' n' rb rp hq => ?_) w⟩
  cases d with
  | list ys =>
    have k6' := k6.ext' rb.f0
    obtain ⟨b, us, rfl, h1, r1⟩ := rp.lst rb.sub
    refine ⟨a, b, vs, us, rfl, rfl, rb.h0 _ _ k5 k4, h1, by rw [k6'.length, r1.length]; exact hq.1, ?_⟩
    exact q1 σ _ F' _ n' rb.f0 ((R.ext rb).rewrite es k1 (k6'.app r1)) hq.2
  | _ => exact hq.elim
/-- target = x.pop() -/
def sPop (i : Nat) (gt : Dt → List Ds → Mv (List Ds)) : Ms := fun δ n k W => withOwn i δ fun xs => match xs.getLast? with
  | some d => gt d (δ.set i (.own xs.dropLast)) n k.nx W
  | none => False
theorem RpAll.last {K : PySem.W.Frag} {F : Hp} {vs : List V} {ds : List Dt} {d : Dt} (h : RpAll K F vs ds) (e : ds.getLast? = some d) : ∃ v, vs[vs.length - 1]? = some v ∧ Rp K F v d := by
  rw [List.getLast?_eq_getElem?] at e
  rw [h.length]
  exact h.at e
theorem RpAll.init {K : PySem.W.Frag} {F : Hp} : ∀ {vs : List V} {ds : List Dt}, RpAll K F vs ds → RpAll K F vs.dropLast ds.dropLast
  | _, [], h => by cases h; exact .nil
  | _, [d], h => by
    cases h with
    | cons h1 h2 => cases h2; exact .nil
  | _, d :: e :: ds, h => by
    cases h with
    | cons h1 h2 =>
      cases h2 with
      | cons h3 h4 => exact .cons h1 (RpAll.init (.cons h3 h4))
theorem ds_pop (i : Nat) {is : List Nat} {gt : Dt → List Ds → Mv (List Ds)} (hg : DG X g tg is gt) (hN : X.N[i]? = some x := by rfl) (hv : Vis X.env.scope x := by first | exact Or.inl rfl | exact Or.inr (Or.inl rfl) | exact Or.inr (Or.inr rfl)) (hd : (x == ("__debug__" : Str)) = false := by decide)
    (hcd : (x == ("__classdict__" : Str)) = false := by decide)
    (hbase : attributeBase (.Name x px) "pop" X.env (eval (.Name x px) X.env) = eval (.Name x px) X.env := by rfl) (hline : (apos.endLine == cpos.line) = true := by rfl)
    (hs : swapsWithSole [tg] (.Call (.Attribute (.Name x px) "pop" apos) [] [] cpos) pos.line X.env = pure false := by rfl) (hw : swappedStores [tg] (.Call (.Attribute (.Name x px) "pop" apos) [] [] cpos) X.env = pure none := by rfl)
    (h1 : (assignEach [tg] X.env).map (·.2) = [assign tg X.env] := by rfl) :
    DS X g (.Assign [tg] (.Call (.Attribute (.Name x px) "pop" apos) [] [] cpos) pos) (sPop i gt) := by
  obtain ⟨u, p2, hg⟩ := hg
  refine ⟨_, ps_asg (pe_bm0 PySem.F.plainAttrs_list PySem.F.slot_list_pop PySem.F.type_list_pop mt_pop (pe_var hN hv hd hcd) hbase hline) p2 hs hw h1, fun σ H F δ n D k R q1 q2 q3 q4 w => ?_⟩
  obtain ⟨xs, es, w⟩ := withOwn.ex w
  obtain ⟨a, vs, k1, k2, k3, k4, k5, k6⟩ := R.slot i _ es
  cases el : xs.getLast? with
  | none => rw [el] at w; exact w.elim
  | some d =>
    rw [el] at w
    obtain ⟨v, hv1, hv2⟩ := k6.last el
    refine ⟨.ref a, k1, .inl ⟨rfl, vs, SqL.of k5⟩, a, vs, v, rfl, rfl, k5, hv1, ?_⟩
    exact hg v d σ _ F _ n _ _ (R.rewrite es k1 k6.init) hv2 (fun σ' δ' R' _ _ hq => q1 σ' _ F δ' n (Same.refl _) R' hq) w
end
/-- name op= e, whole numbers -/
def sAug (i : Nat) (f : Int → Int → Int) (me : Me Dt) : Ms := fun δ n k W => match δ[i]? with
  | some (.d (.int a)) => me δ n (fun d n' => match d with | .int b => k.nx (δ.set i (.d (.int (f a b)))) n' | _ => False) W
  | _ => False
theorem ds_aug (i : Nat) {x : Str} {p' : Pos} {op : Operator} {f : Int → Int → Int} (ho : PIp X op (ipI f)) (hN : X.N.Nodup) (he : DE X g e ma) (hi : X.N[i]? = some x := by rfl) (hx : Loc X.env.scope x := by first | exact Or.inl rfl | exact Or.inr rfl)
    (hf : X.fn x = true ∨ X.env.scope.names.lookup x = some .local := by first | exact .inl rfl | exact .inr rfl) : DS X g (.AugAssign (.Name x p') op e pos) (sAug i f ma) := by
  obtain ⟨t, p, he⟩ := he
  refine ⟨_, ps_aug hN hi hx p ho hf, fun σ H F δ n D k R q1 q2 q3 q4 w => ?_⟩
  unfold sAug at w
  cases es : δ[i]? with
  | none => rw [es] at w; exact w.elim
  | some s =>
    rw [es] at w
    cases s with
    | d y =>
      cases y with
      | int z =>
        obtain ⟨v, k1, k2⟩ := R.slot i _ es
        cases k2
        refine ⟨.int z, k1, he σ H F δ n _ _ R (fun v d F' H' n' rb rp hq => ?_) w⟩
        cases d with
        | int y =>
          cases rp
          exact ⟨z, y, rfl, rfl, q1 _ H' F' _ n' rb.f0 ((R.ext rb).put i (.int _)) hq⟩
        | _ => exact hq.elim
      | _ => exact w.elim
    | _ => exact w.elim

/-! ### for, while -/
def forM (gt : Dt → List Ds → Mv (List Ds)) (mb : Ms) : List Dt → Ms
  | [] => sNext
  | x :: xs => fun δ n k W => gt x δ n (fun δ' n' => mb δ' n' { k with nx := fun δ'' n'' => forM gt mb xs δ'' n'' k W, ct := fun δ'' n'' => forM gt mb xs δ'' n'' k W, bk := k.nx } W) W
def sFor (mit : Me (List Dt)) (gt : Dt → List Ds → Mv (List Ds)) (mb : Ms) : Ms := fun δ n k W => mit δ n (fun items n' => forM gt mb items δ n' k W) W
theorem ds_for {is : List Nat} {mit : Me (List Dt)} {gt : Dt → List Ds → Mv (List Ds)} (hx : XOk X g) (hi : DF X g tg it mit) (hg : DG X g tg is gt) (hb : DSs X g body m) (hs : ∀ x, foldedSetIterable it X.env x = pure x := by intro _; rfl) :
    DS X g (.For tg it body [] pos) (sFor mit gt m) := by
  obtain ⟨wi, pi, hi⟩ := hi
  obtain ⟨tg', pg, hg⟩ := hg
  obtain ⟨tb, pb, hb⟩ := hb
  refine ⟨_, ps_for hx.own hx.calm pi pg pb hs, fun σ H F δ n D k R q1 q2 q3 q4 w => ?_⟩
  refine hi σ H F δ n _ _ R (fun J items F1 H1 n1 rb ix lim hq => ?_) w
  refine ⟨fun i m' σ2 H2 => m' = items.length - i ∧ i ≤ items.length ∧ ∃ F2 δ2 n2, Same F1 F2 ∧ g.R X.K F2 σ2 H2 δ2 n2 ∧ forM gt m (items.drop i) δ2 n2 k g.W, ⟨items.length, by simp, Nat.zero_le _, F1, δ, n1, Same.refl _, R.ext rb, hq⟩, ?_⟩
  rintro i m' σ2 H2 ⟨rfl, hi', F2, δ2, n2, sm, R2, hq2⟩
  obtain ⟨stop, go⟩ := ix i F2 H2 n2 sm R2.b.refl hi'
  by_cases hlt : i < items.length
  · obtain ⟨d, hd'⟩ : ∃ d, items[i]? = some d := ⟨items[i], by simp [hlt]⟩
    obtain ⟨hgo, hy⟩ := go d hd'
    have e : items.drop i = d :: items.drop (i + 1) := by
      rw [List.drop_eq_getElem_cons hlt]
      have : items[i] = d := by
        have := hd'
        rw [List.getElem?_eq_getElem hlt] at this
        exact Option.some.inj this
      rw [this]
    rw [e] at hq2
    refine .inr ⟨hgo, fun σ' H' => ∃ F3 δ3 n3, Same F1 F3 ∧ g.R X.K F3 σ' H' δ3 n3 ∧ forM gt m (items.drop (i + 1)) δ3 n3 k g.W,
      fun σ' H' ⟨F3, δ3, n3, k1, k2, k3⟩ => ⟨items.length - (i + 1), by omega, rfl, by omega, F3, δ3, n3, k1, k2, k3⟩, fun x H' y => ?_⟩
    obtain ⟨F3, rb3, rx⟩ := hy x H' y
    refine hg x d σ2 H' F3 δ2 n2 _ _ (R2.ext rb3) rx (fun σ4 δ4 R4 _ _ hq4 => ?_) hq2
    refine hb σ4 H' F3 δ4 n2 _ _ R4 (fun a b c d' e s r h => ?_) (fun a b c d' e s r p h => ?_) (fun a b c d' e s r h => ?_) (fun a b c d' e s r h => ?_) hq4
    · exact ⟨c, d', e, (sm.trans rb3.f0).trans s, r, h⟩
    · exact q2 a b c d' e (((rb.f0.trans sm).trans rb3.f0).trans s) r p h
    · exact q1 a b c d' e (((rb.f0.trans sm).trans rb3.f0).trans s) r h
    · exact ⟨c, d', e, (sm.trans rb3.f0).trans s, r, h⟩
  · have e : i = items.length := by omega
    refine .inl ⟨stop e, ?_⟩
    rw [e, List.drop_length] at hq2
    exact q1 σ2 H2 F2 δ2 n2 (rb.f0.trans sm) R2 hq2
/-- while, by a word with a measure -/
def sWhile (mc : Me Bool) (mb : Ms) : Ms := fun δ n k W => ∃ P : Nat → List Ds → Nat → Prop, (∃ m0, P m0 δ n) ∧ ∀ m0 δ n, P m0 δ n →
  mc δ n (fun b n' => if b = true then mb δ n' { k with nx := fun δ'' n'' => ∃ m1, m1 < m0 ∧ P m1 δ'' n'', ct := fun δ'' n'' => ∃ m1, m1 < m0 ∧ P m1 δ'' n'', bk := k.nx } W else k.nx δ n') W
theorem ds_while {mt : Me Bool} (hx : XOk X g) (hc : DT X g c mt) (hb : DSs X g body m) : DS X g (.While c body [] pos) (sWhile mt m) := by
  obtain ⟨tc, pc, hc⟩ := hc
  obtain ⟨tb, pb, hb⟩ := hb
  refine ⟨_, ps_while hx.own pc pb, fun σ H F δ n D k R q1 q2 q3 q4 w => ?_⟩
  obtain ⟨P, ⟨m0, w0⟩, turn⟩ := w
  refine ⟨fun m0 σ2 H2 => ∃ F2 δ2 n2, Same F F2 ∧ g.R X.K F2 σ2 H2 δ2 n2 ∧ P m0 δ2 n2, ⟨m0, F, δ, n, Same.refl _, R, w0⟩, ?_⟩
  rintro m1 σ2 H2 ⟨F2, δ2, n2, sm, R2, w2⟩
  refine hc σ2 H2 F2 δ2 n2 _ _ R2 (fun b F3 H3 n3 rb3 hq3 => ?_) (turn m1 δ2 n2 w2)
  cases b with
  | true =>
    rw [if_pos rfl] at hq3 ⊢
    refine ⟨fun σ4 H4 => ∃ m', m' < m1 ∧ ∃ F4 δ4 n4, Same F F4 ∧ g.R X.K F4 σ4 H4 δ4 n4 ∧ P m' δ4 n4, fun σ4 H4 ⟨m', l, z⟩ => ⟨m', l, z⟩, ?_⟩
    refine hb σ2 H3 F3 δ2 n3 _ _ (R2.ext rb3) (fun a b c d' e s r h => ?_) (fun a b c d' e s r p h => ?_) (fun a b c d' e s r h => ?_) (fun a b c d' e s r h => ?_) hq3
    · obtain ⟨m', l, h⟩ := h
      exact ⟨m', l, c, d', e, (sm.trans rb3.f0).trans s, r, h⟩
    · exact q2 a b c d' e ((sm.trans rb3.f0).trans s) r p h
    · exact q1 a b c d' e ((sm.trans rb3.f0).trans s) r h
    · obtain ⟨m', l, h⟩ := h
      exact ⟨m', l, c, d', e, (sm.trans rb3.f0).trans s, r, h⟩
  | false =>
    rw [if_neg Bool.false_ne_true] at hq3 ⊢
    exact q1 σ2 H3 F3 δ2 n3 (sm.trans rb3.f0) (R2.ext rb3) hq3

/-! ### several names at once -/
/-- a value for a slot: a datum, or a new list -/
def NewOk (K : PySem.W.Frag) (hd : Hd) (H F' H' : Hp) : V → Ds → Prop
  | v, .d x => Rp K F' v x
  | v, .own xs => ∃ (a : Addr) (vs : List V), v = .ref a ∧ H a = none ∧ F' a = none ∧ H' a = some (.lst vs) ∧ RpAll K F' vs xs
  | _, _ => False
def DV (X : Cx) (g : Gh) (e : Expr) (m : Me Ds) : Prop := ∃ t : TE, PE X e t ∧ ∀ (σ : L2.St) (H F : Hp) (δ : List Ds) (n : Nat) (Q : VK) (Qd : Kd Ds), g.R X.K F σ H δ n →
  (∀ v s F' H' n', RelB g.hd F H F' H' n' → NewOk X.K g.hd H F' H' v s → Qd s n' → Q v H') → m δ n Qd g.W → t σ H Q
theorem DE.val (h : DE X g e ma) : DV X g e (fun δ => bnd (ma δ) fun d => ret (.d d)) := by
  obtain ⟨t, p, h⟩ := h
  exact ⟨t, p, fun σ H F δ n Q Qd R q w => h σ H F δ n _ _ R (fun v d F' H' n' rb rp hq => q v (.d d) F' H' n' rb rp hq) w⟩
theorem DN.val {me : Me (List Dt)} (h : DN X g e me) : DV X g e (fun δ => bnd (me δ) fun ds => ret (.own ds)) := by
  obtain ⟨t, p, h⟩ := h
  exact ⟨t, p, fun σ H F δ n Q Qd R q w => h σ H F δ n _ _ R (fun a vs ds F' H' n' rb na fa ha hr hq => q _ (.own ds) F' H' n' rb ⟨a, vs, rfl, na, fa, ha, hr⟩ hq) w⟩
theorem NewOk.ext {K : PySem.W.Frag} {hd : Hd} {F H F' H' F'' H'' : Hp} {n n' : Nat} {v : V} {s : Ds} (rb : RelB hd F H F' H' n) (rb2 : RelB hd F' H' F'' H'' n') (ni : ∀ b, InHd hd b → ∃ o, H b = some o) (h : NewOk K hd H F' H' v s) : NewOk K hd H F'' H'' v s := by
  cases s with
  | d x => exact Rp.ext' rb2.f0 h
  | own xs =>
    obtain ⟨a, vs, h1, h2, h3, h4, h5⟩ := h
    refine ⟨a, vs, h1, h2, ?_, rb2.h0 _ _ h4 (fun i => by obtain ⟨o, z⟩ := ni _ i; rw [h2] at z; cases z), h5.ext' rb2.f0⟩
    cases y : F'' a with
    | none => rfl
    | some u =>
      rcases rb2.fnew a u y with k | k
      · rw [h3] at k; cases k
      · rw [h4] at k; cases k
  | no => exact h
  | hand => exact h
/-- a slot takes such a value: what stood there before is forgotten; the other names' own lists are others -/
theorem Rel.take {K : PySem.W.Frag} {hd : Hd} {F0 H0 F H : Hp} {σ : L2.St} {δ : List Ds} {n : Nat} (r : Rel K hd F0 H0 F σ H δ n) {v : V} {s : Ds} {Hb : Hp} (i : Nat) (h : NewOk K hd Hb F H v s) (hb : ∀ a, Hb a = none → H0 a = none ∧ ¬ InHd hd a)
    (nw : ∀ xs, s = .own xs → ∀ (j : Nat) (ys : List Dt), δ[j]? = some (.own ys) → σ[j]? ≠ some (some v)) : Rel K hd F0 H0 F (σ.set i (some v)) H (δ.set i s) n := by
  cases s with
  | d x => exact r.put i h
  | own xs =>
    obtain ⟨a, vs, rfl, h2, h3, h4, h5⟩ := h
    obtain ⟨z1, z2⟩ := hb a h2
    exact r.putOwn i h3 z1 z2 h4 h5 (nw xs rfl)
  | no => exact h.elim
  | hand => exact h.elim
def sPar (i j : Nat) (m1 m2 : Me Ds) : Ms := fun δ n k W => m1 δ n (fun s1 n1 => m2 δ n1 (fun s2 n2 => k.nx ((δ.set i s1).set j s2) n2) W) W
theorem newRef {K : PySem.W.Frag} {hd : Hd} {Hb F H : Hp} {v : V} {xs : List Dt} (h : NewOk K hd Hb F H v (.own xs)) : ∃ a, v = .ref a ∧ Hb a = none := by
  obtain ⟨a, vs, h1, h2, _⟩ := h
  exact ⟨a, h1, h2⟩
theorem NewOk.there {K : PySem.W.Frag} {hd : Hd} {Hb F H : Hp} {a : Addr} {xs : List Dt} (h : NewOk K hd Hb F H (.ref a) (.own xs)) : ∃ o, H a = some o := by
  obtain ⟨b, vs, h1, h2, h3, h4, _⟩ := h
  cases h1
  exact ⟨_, h4⟩
theorem ds_par (i j : Nat) {x y : Str} {mv mw : Me Ds} {px py pt : Pos} {kt k2 : Nat} {pt2 : Pos} (hc : X.calm = true) (hN : X.N.Nodup) (ha : DV X g a mv) (hb : DV X g b mw) (hi : X.N[i]? = some x := by rfl) (hj : X.N[j]? = some y := by rfl) (hij : i ≠ j := by decide)
    (hx : X.env.scope.names.lookup x = some .local := by rfl) (hy : X.env.scope.names.lookup y = some .local := by rfl)
    (h1 : starEach [a, b] X.env = (false, eval a X.env) :: starEach [b] X.env := by rfl) (h2 : starEach [b] X.env = (false, eval b X.env) :: starEach [] X.env := by rfl)
    (hw : swappedStores [.Tuple [.Name x px, .Name y py] kt pt] (.Tuple [a, b] k2 pt2) X.env = pure (some [x, y]) := by rfl)
    (hs : swapsWithSole [.Tuple [.Name x px, .Name y py] kt pt] (.Tuple [a, b] k2 pt2) pos.line X.env = pure false := by rfl) :
    DS X g (.Assign [.Tuple [.Name x px, .Name y py] kt pt] (.Tuple [a, b] k2 pt2) pos) (sPar i j mv mw) := by
  obtain ⟨t, p, ha⟩ := ha
  obtain ⟨u, p2, hb⟩ := hb
  refine ⟨_, ps_par hc hN hi hj hij hx hy (pa_cons p (pa_cons p2 pa_nil h2) h1) hw hs, fun σ H F δ n D k R q1 q2 q3 q4 w => ?_⟩
  refine ha σ H F δ n _ _ R (fun v s F1 H1 n1 rb1 o1 hq1 => ?_) w
  refine hb σ H1 F1 δ n1 _ _ (R.ext rb1) (fun v2 s2 F2 H2 n2 rb2 o2 hq2 => ?_) hq1
  refine ⟨v, v2, rfl, q1 _ H2 F2 _ n2 (rb1.f0.trans rb2.f0) ?_ hq2⟩
  have o1' := o1.ext rb1 rb2 (fun b i => R.b.hand.there i)
  have old : ∀ a, H a = none → g.H0 a = none ∧ ¬ InHd g.hd a := fun a na => ⟨R.b.old (fun b i => R.b.hand.there i) na, fun i => by
    obtain ⟨o, z⟩ := R.b.hand.there i
    rw [na] at z; cases z⟩
  have R1 := R.ext rb1
  have old1 : ∀ a, H1 a = none → g.H0 a = none ∧ ¬ InHd g.hd a := fun a na => ⟨R1.b.old (fun b i => R1.b.hand.there i) na, fun i => by
    obtain ⟨o, z⟩ := R1.b.hand.there i
    rw [na] at z; cases z⟩
  have S1 := (R1.ext rb2).take i o1' old (fun xs e j ys ej => by
    subst e
    obtain ⟨a, rfl, na⟩ := newRef o1'
    exact R.fresh na j ys ej)
  refine S1.take j o2 old1 (fun xs e j' ys ej => ?_)
  subst e
  obtain ⟨a2, rfl, na2⟩ := newRef o2
  by_cases e : i = j'
  · subst e
    by_cases z : i < δ.length
    · rw [List.getElem?_set_self z] at ej
      cases ej
      obtain ⟨a1, rfl, na1⟩ := newRef o1'
      obtain ⟨o, ho⟩ := o1.there
      rw [List.getElem?_set_self (by rw [R.len]; exact z)]
      intro y
      have : a1 = a2 := by cases y; rfl
      rw [this, na2] at ho; cases ho
    · rw [List.getElem?_eq_none (by simpa using z)] at ej; cases ej
  · rw [List.getElem?_set_ne e] at ej ⊢
    exact R1.fresh na2 j' ys ej
def sPar3 (i j l : Nat) (m1 m2 m3 : Me Ds) : Ms := fun δ n k W => m1 δ n (fun s1 n1 => m2 δ n1 (fun s2 n2 => m3 δ n2 (fun s3 n3 => k.nx (((δ.set i s1).set j s2).set l s3) n3) W) W) W
theorem ds_par3 (i j l : Nat) {x y z : Str} {mv mw mz : Me Ds} {px py pz pt : Pos} {kt k2 : Nat} {pt2 : Pos} (hc : X.calm = true) (hN : X.N.Nodup) (ha : DV X g a mv) (hb : DV X g b mw) (hcc : DV X g c mz) (hi : X.N[i]? = some x := by rfl) (hj : X.N[j]? = some y := by rfl) (hl : X.N[l]? = some z := by rfl) (hij : i ≠ j := by decide) (hil : i ≠ l := by decide) (hjl : j ≠ l := by decide)
    (hx : X.env.scope.names.lookup x = some .local := by rfl) (hy : X.env.scope.names.lookup y = some .local := by rfl) (hz : X.env.scope.names.lookup z = some .local := by rfl)
    (h1 : starEach [a, b, c] X.env = (false, eval a X.env) :: starEach [b, c] X.env := by rfl) (h2 : starEach [b, c] X.env = (false, eval b X.env) :: starEach [c] X.env := by rfl) (h3 : starEach [c] X.env = (false, eval c X.env) :: starEach [] X.env := by rfl)
    (hw : swappedStores [.Tuple [.Name x px, .Name y py, .Name z pz] kt pt] (.Tuple [a, b, c] k2 pt2) X.env = pure (some [x, y, z]) := by rfl)
    (hs : swapsWithSole [.Tuple [.Name x px, .Name y py, .Name z pz] kt pt] (.Tuple [a, b, c] k2 pt2) pos.line X.env = pure false := by rfl) :
    DS X g (.Assign [.Tuple [.Name x px, .Name y py, .Name z pz] kt pt] (.Tuple [a, b, c] k2 pt2) pos) (sPar3 i j l mv mw mz) := by
  obtain ⟨t, p, ha⟩ := ha
  obtain ⟨u, p2, hb⟩ := hb
  obtain ⟨u3, p3, hcc⟩ := hcc
  refine ⟨_, ps_par3 hc hN hi hj hl hij hil hjl hx hy hz (pa_cons p (pa_cons p2 (pa_cons p3 pa_nil h3) h2) h1) hw hs, fun σ H F δ n D k R q1 q2 q3 q4 w => ?_⟩
  refine ha σ H F δ n _ _ R (fun v s F1 H1 n1 rb1 o1 hq1 => ?_) w
  refine hb σ H1 F1 δ n1 _ _ (R.ext rb1) (fun v2 s2 F2 H2 n2 rb2 o2 hq2 => ?_) hq1
  refine hcc σ H2 F2 δ n2 _ _ ((R.ext rb1).ext rb2) (fun v3 s3 F3 H3 n3 rb3 o3 hq3 => ?_) hq2
  refine ⟨v, v2, v3, rfl, q1 _ H3 F3 _ n3 ((rb1.f0.trans rb2.f0).trans rb3.f0) ?_ hq3⟩
  have R1 := R.ext rb1
  have R2 := R1.ext rb2
  have o1' := o1.ext rb1 (rb2.trans rb3) (fun b i => R.b.hand.there i)
  have o2' := o2.ext rb2 rb3 (fun b i => R1.b.hand.there i)
  have old : ∀ {F H σ δ n}, g.R X.K F σ H δ n → ∀ a, H a = none → g.H0 a = none ∧ ¬ InHd g.hd a := fun R a na => ⟨R.b.old (fun b i => R.b.hand.there i) na, fun i => by
    obtain ⟨o, z⟩ := R.b.hand.there i
    rw [na] at z; cases z⟩
  have S1 := (R2.ext rb3).take i o1' (old R) (fun xs e j ys ej => by
    subst e
    obtain ⟨a, rfl, na⟩ := newRef o1'
    exact R.fresh na j ys ej)
  have S2 := S1.take j o2' (old R1) (fun xs e j' ys ej => by
    subst e
    obtain ⟨a2, rfl, na2⟩ := newRef o2'
    by_cases e : i = j'
    · subst e
      by_cases z : i < δ.length
      · rw [List.getElem?_set_self z] at ej
        cases ej
        obtain ⟨a1, rfl, na1⟩ := newRef o1'
        obtain ⟨o, ho⟩ := o1.there
        rw [List.getElem?_set_self (by rw [R.len]; exact z)]
        intro y
        have : a1 = a2 := by cases y; rfl
        rw [this, na2] at ho; cases ho
      · rw [List.getElem?_eq_none (by simpa using z)] at ej; cases ej
    · rw [List.getElem?_set_ne e] at ej ⊢
      exact R1.fresh na2 j' ys ej)
  refine S2.take l o3 (old R2) (fun xs e j' ys ej => ?_)
  subst e
  obtain ⟨a3, rfl, na3⟩ := newRef o3
  by_cases ej2 : j = j'
  · subst ej2
    by_cases z : j < (δ.set i s).length
    · rw [List.getElem?_set_self z] at ej
      cases ej
      obtain ⟨a2, rfl, na2⟩ := newRef o2'
      obtain ⟨o, ho⟩ := o2.there
      rw [List.getElem?_set_self (by rw [List.length_set] at z ⊢; rw [R.len]; exact z)]
      intro y
      have : a2 = a3 := by cases y; rfl
      rw [this, na3] at ho; cases ho
    · rw [List.getElem?_eq_none (by simpa using z)] at ej; cases ej
  · rw [List.getElem?_set_ne ej2] at ej ⊢
    by_cases e : i = j'
    · subst e
      by_cases z : i < δ.length
      · rw [List.getElem?_set_self z] at ej
        cases ej
        obtain ⟨a1, rfl, na1⟩ := newRef o1'
        obtain ⟨o, ho⟩ := (o1.ext rb1 rb2 (fun b i => R.b.hand.there i)).there
        rw [List.getElem?_set_self (by rw [R.len]; exact z)]
        intro y
        have : a1 = a3 := by cases y; rfl
        rw [this, na3] at ho; cases ho
      · rw [List.getElem?_eq_none (by simpa using z)] at ej; cases ej
    · rw [List.getElem?_set_ne e] at ej ⊢
      exact R2.fresh na3 j' ys ej
end
end Dl
namespace Dl
open PySem PySem.Spec L2
open PyProof.Rows hiding St

/-! ### a def's promise where no repr is under way -/
structure FnG (P : Program) (w : World) (K : PySem.W.Frag) (mg : Str → Option Value) (base : Heap) (k : Nat) (f : Addr) (fd : FuncData) (ps : List Str) (sp : Sp) : Prop where
  long : ∀ vs H Q E, sp vs H Q E → vs.length = ps.length
  goes : ∀ (A : Around) (outer : List Env) (s : Shared) (H : Hp) (args : Args) (us : List Value) (vs : List V) (Q : VK) (E : XK), Room k A → A.guards = some [] → Env0 P w K mg base A outer s H → BindsTo s fd args (ps.zip us) → Vals vs us → sp vs H Q E →
    codeAny (model P w) A (.call (.ref f) args) (CR (L2.CX P w) outer P w H s Q E) s
section
variable {P : Program} {w : World} {K : PySem.W.Frag} {mg : Str → Option Value} {base : Heap}
theorem FnG.more {j k : Nat} {f : Addr} {fd : FuncData} {ps : List Str} {sp : Sp} (G : FnG P w K mg base j f fd ps sp) (h : j ≤ k) : FnG P w K mg base k f fd ps sp :=
  ⟨G.long, fun A outer s H args us vs Q E room gu e b v q => G.goes A outer s H args us vs Q E (room.mono h) gu e b v q⟩
/-- a def by its body: the reading is chosen at the entry -/
theorem FnG.of {x qual : Str} {params : Arguments} {body : List Stmt} {scope : Scope} {dvs : List V} {kws : List (Str × V)} {f : Addr} {fd : FuncData} {N ps : List Str} {k : Nat} {sp : Sp} (D : FunD K x qual params body scope dvs kws f fd) (S : FnScope N ps scope)
    (long : ∀ vs H Q E, sp vs H Q E → vs.length = ps.length)
    (walk : ∀ (cdv : Value) (A : Around) (outer : List Env) (s : Shared) (H : Hp) (vs : List V) (Q : VK) (E : XK), Room k (A.deeper (envOfC qual scope s.heap.objs.size f cdv)) → A.guards = some [] → sp vs H Q E →
      ∃ t, PSs (cxOf (L2.CX P w) P w K mg base N qual scope f cdv A outer s H E) body t ∧ t { nx := fun _ H' => Q .non H', rt := Q } (L2.start N vs) H) : FnG P w K mg base (k + 1) f fd ps sp := by
  obtain ⟨oc, od, dV, kV, doc, pm, an, cdv, ct, osl, e0, look, code, _, _⟩ := D.ex
  subst e0
  constructor
  · exact long
  intro A outer s H args us vs Q E room gu env bind rel want
  have count := long _ _ _ _ want
  have inK : K.In s.heap := env.mod.kin.keeps fun b o e => (env.bs b o e).1
  have noLim : s.heap.NoLimit := env.mod.nolimit.keeps fun b o e => (env.bs b o e).1
  have kinds : ∀ y ∈ ps.zip us, scope.names.lookup y.1 = some .local ∨ (scope.names.lookup y.1 = some .cell ∧ ((cellsFrom (s.heap.objs.size + 1) scope.names []).lookup y.1).isSome = true) := by
    rintro ⟨p, u⟩ mem
    cases S.par p (List.of_mem_zip mem).1 with
    | inl q => exact Or.inl q
    | inr q => exact Or.inr ⟨q, PySem.W.cellsFrom_some _ _ _ (Or.inl q)⟩
  refine codeAny_call_function room.depth (inK _ _ look) rfl S.co S.gen rfl (PySem.W.codeRec_of inK code) (bind _ _ _ _ (wpAny_newFunctionEnv_cells S.kind kinds fun en he s1 inside => ?_))
  subst he
  obtain ⟨t, reads, meets⟩ := walk cdv A outer s H vs Q E (room.deeper _) gu want
  have I0 : Inv (cxOf (L2.CX P w) P w K mg base N qual scope f cdv A outer s H E) [] (L2.start N vs) H s1 := inv_start S room.hd env count rel inside
  refine ⟨noLim.keeps inside.toInCall.keep, codeAny_func (wpAny_mono (reads.run [] s1 (L2.start N vs) H _ I0 meets) ?_ fun _ _ z => z)⟩
  have close : ∀ {σ2 : L2.St} {H2 : Hp} {s2 : Shared} {v : V} {u : Value}, Inv (cxOf (L2.CX P w) P w K mg base N qual scope f cdv A outer s H E) [] σ2 H2 s2 → RelV v u → Q v H2 → CE outer P w H s Q u s2 :=
    fun {_ H2 _ v _} J rv q => ⟨v, H2, J.os, J.bare, J.base, J.hok, rv, q⟩
  intro flow s2 done
  cases flow with
  | next => exact let ⟨_, _, J, q⟩ := done; close (v := V.non) (u := Value.none) J rfl q
  | ret u => exact let ⟨_, _, _, J, rv, q⟩ := done; close J rv q
  | brk => exact let ⟨_, _, _, q⟩ := done; q.elim
  | cont => exact let ⟨_, _, _, q⟩ := done; q.elim
end
/-- such a def is called -/
theorem callG {X : Cx} {k : Nat} {f : Addr} {fd : FuncData} {ps : List Str} {sp : Sp} {E : XK} {pins : List (Addr × Obj)} {σ : L2.St} {H : Hp} {s : Shared} {Q : VK} {us bound : List Value} {vs : List V} {kw : List (Str × Value)}
    (G : FnG X.prog X.w X.K X.mg X.base k f fd ps sp) (room : Room k X.A) (gu : X.A.guards = some []) (pass : Passes (L2.CX X.prog X.w) X E) (I : Inv X pins σ H s) (bind : BindsTo s fd ⟨us, kw⟩ (ps.zip bound)) (rel : Vals vs bound) (want : sp vs H Q E) :
    wpAny (model X.prog X.w) X.A (call (.ref f) us kw) (EP X pins σ Q) X.xe s := by
  apply wpAny_call
  refine codeAny_mono (G.goes X.A X.stack s H ⟨us, kw⟩ bound vs Q E room gu I.env0 bind rel want) ?_
  intro r s' h
  match r with
  | .error e => exact pass pins σ H s e s' I h
  | .ok (.ret u) => exact I.after h
  | .ok .next => exact h.elim
  | .ok .brk => exact h.elim
  | .ok .cont => exact h.elim

/-! ### promises by meanings -/
def slotOf : Da → Ds
  | .d x => .d x
  | .hand => .hand
def slotsOf (N : List Str) (as : List Da) : List Ds := as.map slotOf ++ List.replicate (N.length - as.length) .no
def spD (K : PySem.W.Frag) (ar : Nat) (mF : List Da → Mv Dt) : Sp := fun vs H Q E => ∃ (hd : Hd) (F : Hp) (as : List Da) (n : Nat) (Qd : Kd Dt) (W : Wx), RelB hd F H F H n ∧ DasOk K hd F vs as ∧ as.length = ar ∧ mF as n Qd W ∧
  (∀ v d F' H' n', RelB hd F H F' H' n' → Rp K F' v d → Qd d n' → Q v H') ∧ ∀ cls a fs F' H' n', RelB hd F H F' H' n' → ExAt K F' H' a fs → W (cls, fs) n' → E cls a H'
abbrev FnD (P : Program) (w : World) (K : PySem.W.Frag) (mg : Str → Option Value) (base : Heap) (k : Nat) (f : Addr) (fd : FuncData) (ps : List Str) (mF : List Da → Mv Dt) : Prop := FnG P w K mg base k f fd ps (spD K ps.length mF)
theorem DasOk.length {K : PySem.W.Frag} {hd : Hd} {F : Hp} : ∀ {vs : List V} {as : List Da}, DasOk K hd F vs as → vs.length = as.length
  | _, _, .nil => rfl
  | _, _, .cons _ t => congrArg Nat.succ t.length
theorem DasOk.at {K : PySem.W.Frag} {hd : Hd} {F : Hp} : ∀ {vs : List V} {as : List Da} {i : Nat} {a : Da}, DasOk K hd F vs as → as[i]? = some a → ∃ v, vs[i]? = some v ∧ DaOk K hd F v a
  | _, _, _, _, .nil, e => by simp at e
  | _, _, 0, _, .cons h _, e => by simp at e; subst e; exact ⟨_, rfl, h⟩
  | _, _, i + 1, _, .cons _ t, e => by
    obtain ⟨v, h1, h2⟩ := t.at (by simpa using e)
    exact ⟨v, by simpa using h1, h2⟩
/-- the slots at a def's entry -/
theorem rel_start {K : PySem.W.Frag} {hd : Hd} {F H : Hp} {n : Nat} {N : List Str} {vs : List V} {as : List Da} (rb : RelB hd F H F H n) (da : DasOk K hd F vs as) (hl : as.length ≤ N.length) : Rel K hd F H F (L2.start N vs) H (slotsOf N as) n := by
  have hlen := da.length
  have at_ : ∀ (i : Nat) (s : Ds), (slotsOf N as)[i]? = some s → s = .no ∨ ∃ a v, as[i]? = some a ∧ s = slotOf a ∧ (L2.start N vs)[i]? = some (some v) ∧ DaOk K hd F v a := by
    intro i s e
    unfold slotsOf at e
    by_cases h : i < as.length
    · right
      rw [List.getElem?_append_left (by rw [List.length_map]; exact h), List.getElem?_map] at e
      obtain ⟨a, ha, e2⟩ := Option.map_eq_some_iff.mp e
      obtain ⟨v, hv, ok⟩ := da.at ha
      refine ⟨a, v, ha, e2.symm, ?_, ok⟩
      unfold L2.start
      rw [List.getElem?_append_left (by rw [List.length_map, hlen]; exact h), List.getElem?_map, hv]
      rfl
    · left
      rw [List.getElem?_append_right (by rw [List.length_map]; omega), List.getElem?_replicate] at e
      split at e
      · cases e; rfl
      · cases e
  refine ⟨rb, ?_, fun i s e => ?_, fun i j xs ys a e1 _ _ _ => ?_⟩
  · unfold L2.start slotsOf
    rw [List.length_append, List.length_append, List.length_map, List.length_map, List.length_replicate, List.length_replicate, hlen]
  · rcases at_ i s e with rfl | ⟨a, v, _, rfl, h, ok⟩
    · trivial
    · cases a with
      | d x => exact ⟨v, h, ok⟩
      | hand =>
        obtain ⟨x, c, h1, h2⟩ := ok
        exact ⟨x, c, h1, by rw [h, h2]⟩
  · rcases at_ i _ e1 with e | ⟨a, v, _, e, _⟩
    · cases e
    · cases a <;> cases e
section
variable {P : Program} {w : World} {K : PySem.W.Frag} {mg : Str → Option Value} {base : Heap}
/-- THE RULE: a def by its body's meaning -/
theorem FnD.of {x qual : Str} {params : Arguments} {body : List Stmt} {scope : Scope} {dvs : List V} {kws : List (Str × V)} {f : Addr} {fd : FuncData} {N ps : List Str} {k : Nat} {mF : List Da → Mv Dt} (m : Ms) (D : FunD K x qual params body scope dvs kws f fd) (S : FnScope N ps scope)
    (walk : ∀ (cdv : Value) (A : Around) (outer : List Env) (s : Shared) (H : Hp) (E : XK) (g : Gh), XOk (cxOf (L2.CX P w) P w K mg base N qual scope f cdv A outer s H E) g → Room k (A.deeper (envOfC qual scope s.heap.objs.size f cdv)) →
      DSs (cxOf (L2.CX P w) P w K mg base N qual scope f cdv A outer s H E) g body m)
    (mean : ∀ (as : List Da) (n : Nat) (Qd : Kd Dt) (W : Wx), as.length = ps.length → mF as n Qd W → m (slotsOf N as) n { nx := fun _ n' => Qd .none n', rt := Qd } W) : FnD P w K mg base (k + 1) f fd ps mF := by
  refine FnG.of D S (fun vs H Q E h => ?_) (fun cdv A outer s H vs Q E room gu h => ?_)
  · obtain ⟨hd, F, as, n, Qd, W, _, da, hl, _⟩ := h
    rw [da.length, hl]
  · obtain ⟨hd, F, as, n, Qd, W, rb, da, hl, hm, q, qx⟩ := h
    have hlN : as.length ≤ N.length := by
      rw [hl, ← S.pre, List.length_take]
      exact Nat.min_le_right _ _
    have tk : Takes (cxOf (L2.CX P w) P w K mg base N qual scope f cdv A outer s H E) (fun cls d _ H' => E cls d H') := takes_of rfl rfl rfl rfl
    have ok : XOk (cxOf (L2.CX P w) P w K mg base N qual scope f cdv A outer s H E) ⟨hd, F, H, W⟩ := by
      refine ⟨rfl, passes_of rfl, gu, S.nd, passes_call tk ?_⟩
      rintro cls a σ H' ⟨fs, n', F', hB, hx, hw⟩
      exact qx cls a fs F' H' n' hB hx hw
    obtain ⟨t, reads, spec⟩ := walk cdv A outer s H E ⟨hd, F, H, W⟩ ok room
    refine ⟨t, reads, spec (L2.start N vs) H F (slotsOf N as) n _ { nx := fun _ n' => Qd .none n', rt := Qd } (rel_start rb da hlN) (fun σ' H' F' δ' n' _ R h => ?_) (fun v d H' F' n' _ B rp h => ?_) (fun _ _ _ _ _ _ _ h => h) (fun _ _ _ _ _ _ _ h => h) (mean as n Qd W hl hm)⟩
    · exact q .non .none F' H' n' R.b .non h
    · exact q v d F' H' n' B rp h
theorem FnD.more {j k : Nat} {f : Addr} {fd : FuncData} {ps : List Str} {mF : List Da → Mv Dt} (G : FnD P w K mg base j f fd ps mF) (h : j ≤ k) : FnD P w K mg base k f fd ps mF := FnG.more G h
/-- a narrower promise -/
theorem FnD.imp {k : Nat} {f : Addr} {fd : FuncData} {ps : List Str} {mF mF' : List Da → Mv Dt} (G : FnD P w K mg base k f fd ps mF) (h : ∀ as n Q W, as.length = ps.length → mF' as n Q W → mF as n Q W) : FnD P w K mg base k f fd ps mF' := by
  have im : ∀ vs H Q E, spD K ps.length mF' vs H Q E → spD K ps.length mF vs H Q E := fun vs H Q E ⟨hd, F, as, n, Qd, W, rb, da, hl, hm, q, qx⟩ => ⟨hd, F, as, n, Qd, W, rb, da, hl, h as n Qd W hl hm, q, qx⟩
  exact ⟨fun vs H Q E q => G.long vs H Q E (im _ _ _ _ q), fun A outer s H args us vs Q E r gu e b v q => G.goes A outer s H args us vs Q E r gu e b v (im _ _ _ _ q)⟩
end

/-! ### calls as expressions -/
section
variable {X : Cx} {g : Gh} {e : Expr} {es : List Expr} {kws : List Keyword} {x : Str} {p pos kpos : Pos} {k : Nat} {f : Addr} {fd : FuncData} {ps : List Str} {mF : List Da → Mv Dt} {m : Me (List Da)}
/-- what the callee is told by the caller -/
theorem told {σ : L2.St} {H F : Hp} {δ : List Ds} {n : Nat} {H1 F1 : Hp} {n1 : Nat} {vs : List V} {as : List Da} {Q : VK} {Qd : Kd Dt} (R : g.R X.K F σ H δ n) (rb : RelB g.hd F H F1 H1 n1) (da : DasOk X.K g.hd F1 vs as) (hl : as.length = ps.length) (hm : mF as n1 Qd g.W)
    (q : ∀ v d F' H' n', RelB g.hd F H F' H' n' → Rp X.K F' v d → Qd d n' → Q v H') : spD X.K ps.length mF vs H1 Q (EOf X.K g) := by
  refine ⟨g.hd, F1, as, n1, Qd, g.W, rb.refl, da, hl, hm, fun v d F' H' n' r2 rp hq => q v d F' H' n' (rb.trans r2) rp hq, fun cls a fs F' H' n' r2 hx hw => ?_⟩
  exact ⟨fs, n', F', (R.b.trans rb).trans r2, hx, hw⟩
/-- the arguments are as many as the parameters -/
def many (c : Nat) (mF : List Da → Mv Dt) (as : List Da) : Mv Dt := fun n Q W => as.length = c ∧ mF as n Q W
theorem de_call (G : FnD X.prog X.w X.K X.mg X.base k f fd ps mF) (hx : XOk X g) (room : Room k X.A) (hg : Gl X x) (hm : X.mg x = some (.ref f)) (hk : PySem.W.keepIn X.K (.ref f) = true)
    (hb : ∀ us : List Value, us.length = ps.length → ∀ s : Shared, X.K.In s.heap → BindsTo s fd ⟨us, []⟩ (ps.zip us)) (ha : DAs X g (e :: es) m) (hdb : (x == ("__debug__" : Str)) = false := by decide)
    (he : starEach (e :: es) X.env = (false, eval e X.env) :: starEach es X.env := by rfl) (hpl : (backTo pos (starEach es X.env)).any (·.1) = false := by rfl) :
    DE X g (.Call (.Name x p) (e :: es) [] pos) (fun δ => bnd (m δ) (many ps.length mF)) := by
  obtain ⟨t, pa, ha⟩ := ha
  refine ⟨fun σ H Q => t σ H fun vs H1 => vs.length = ps.length ∧ spD X.K ps.length mF vs H1 Q (EOf X.K g), ⟨fun pins s σ H Q I h => ?_⟩, fun σ H F δ n Q Qd R q w => ha σ H F δ n _ _ R (fun vs as F1 H1 n1 rb da hq => ⟨by rw [da.length]; exact hq.1, told R rb da hq.1 hq.2 q⟩) w⟩
  apply wpAny_Call_Name_kw
  refine ld_glob I hg hm ?_ hdb
  refine PySem.W.callWith_K (h₀ := X.base) I.ok.mod.kin hk (thn (pa.run pos pins s σ H _ I h) ?_) he hpl
  rintro us s1 ⟨vs, H1, I1, rel, hl, want⟩
  have hl2 : us.length = ps.length := by rw [← rel.length]; exact hl
  exact ⟨I1.kIn, callG G room hx.guards hx.pass I1 (hb us hl2 s1 I1.kIn) rel want⟩
/-- f(), no arguments -/
theorem de_call0 (G : FnD X.prog X.w X.K X.mg X.base k f fd [] mF) (hx : XOk X g) (room : Room k X.A) (hg : Gl X x) (hm : X.mg x = some (.ref f)) (hk : PySem.W.keepIn X.K (.ref f) = true)
    (hb : ∀ us : List Value, us.length = ([] : List Str).length → ∀ s : Shared, X.K.In s.heap → BindsTo s fd ⟨us, []⟩ (([] : List Str).zip us)) (hdb : (x == ("__debug__" : Str)) = false := by decide) :
    DE X g (.Call (.Name x p) [] [] pos) (fun _ => mF []) := by
  refine ⟨fun σ H Q => spD X.K ([] : List Str).length mF [] H Q (EOf X.K g), ⟨fun pins s σ H Q I h => ?_⟩, fun σ H F δ n Q Qd R q w => told R R.b.refl .nil rfl w q⟩
  apply wpAny_Call_Name_kw
  refine ld_glob I hg hm ?_ hdb
  exact PySem.W.callWith_K0 I.kIn hk (callG G room hx.guards hx.pass I (hb [] rfl s I.kIn) .nil h)
/-- f(k = e, ..): keywords alone, π puts them in the parameters' order -/
def DKs (X : Cx) (g : Gh) (kws : List Keyword) (m : Me (List Da)) : Prop := ∃ t : TA, PK X kws t ∧ ∀ (σ : L2.St) (H F : Hp) (δ : List Ds) (n : Nat) (Q : List V → Hp → Prop) (Qd : Kd (List Da)), g.R X.K F σ H δ n →
  (∀ vs ds F' H' n', RelB g.hd F H F' H' n' → DasOk X.K g.hd F' vs ds → Qd ds n' → Q vs H') → m δ n Qd g.W → t σ H Q
theorem dks_nil : DKs X g [] (fun _ => ret []) := ⟨_, pk_nil, fun σ H F δ n Q Qd r q w => q [] [] F H n r.b.refl .nil w⟩
theorem dks_cons {nm : Option Str} {m1 : Me Da} {mr : Me (List Da)} (h : DA1 X g e m1) (hr : DKs X g kws mr) : DKs X g (⟨nm, e, kpos⟩ :: kws) (fun δ => bnd (m1 δ) fun x => bnd (mr δ) fun xs => ret (x :: xs)) := by
  obtain ⟨t, p, h⟩ := h
  obtain ⟨tr, pr, hr⟩ := hr
  refine ⟨_, pk_cons p pr, fun σ H F δ n Q Qd r q w => h σ H F δ n _ _ r (fun v d F1 H1 n1 rb rp hq => ?_) w⟩
  refine hr σ H1 F1 δ n1 _ _ (r.ext rb) (fun vs ds F2 H2 n2 rb2 rp2 hq2 => ?_) hq
  exact q _ _ F2 H2 n2 (rb.trans rb2) (.cons (rp.ext rb2.f0) rp2) hq2
/-- an order of a list's places -/
def order {α : Type} (is : List Nat) (xs : List α) : List α := is.filterMap fun i => xs[i]?
theorem Vals.order : ∀ {vs : List V} {us : List Value} (is : List Nat), Vals vs us → Vals (Dl.order is vs) (Dl.order is us)
  | _, _, [], _ => .nil
  | vs, us, i :: is, r => by
    have ih := Vals.order is r
    unfold Dl.order at ih ⊢
    rw [List.filterMap_cons, List.filterMap_cons]
    cases e : vs[i]? with
    | none =>
      have z : us[i]? = none := by
        rw [List.getElem?_eq_none_iff] at e ⊢
        rw [← r.length]; exact e
      rw [z]
      exact ih
    | some v =>
      obtain ⟨u, hu, ru⟩ := r.get e
      rw [hu]
      exact .cons ru ih
theorem DasOk.order {K : PySem.W.Frag} {hd : Hd} {F : Hp} : ∀ {vs : List V} {as : List Da} (is : List Nat), DasOk K hd F vs as → DasOk K hd F (Dl.order is vs) (Dl.order is as)
  | _, _, [], _ => .nil
  | vs, as, i :: is, r => by
    have ih := DasOk.order is r
    unfold Dl.order at ih ⊢
    rw [List.filterMap_cons, List.filterMap_cons]
    cases e : as[i]? with
    | none =>
      have z : vs[i]? = none := by
        rw [List.getElem?_eq_none_iff] at e ⊢
        rw [r.length]; exact e
      rw [z]
      exact ih
    | some a =>
      obtain ⟨v, hv, ok⟩ := r.at e
      rw [hv]
      exact .cons ok ih
/-- a call by keywords alone -/
def manyK (c : Nat) (mF : List Da → Mv Dt) (is : List Nat) (as : List Da) : Mv Dt := fun n Q W => as.length = c ∧ many c mF (order is as) n Q W
theorem de_callK (is : List Nat) {ks : List Str} (G : FnD X.prog X.w X.K X.mg X.base k f fd ps mF) (hx : XOk X g) (room : Room k X.A) (hg : Gl X x) (hm : X.mg x = some (.ref f)) (hk : PySem.W.keepIn X.K (.ref f) = true)
    (hb : ∀ ws : List Value, ws.length = ps.length → ∀ s : Shared, X.K.In s.heap → BindsTo s fd ⟨[], ks.zip ws⟩ (ps.zip (order is ws))) (ha : DKs X g kws m) (hdb : (x == ("__debug__" : Str)) = false := by decide)
    (hall : (backToKw pos (keywordEach kws X.env)).all (·.1.isSome) = true := by rfl) (hks : (backToKw pos (keywordEach kws X.env)).filterMap (·.1) = ks := by rfl)
    (hpl : ((backTo pos (starEach [] X.env)).any (·.1) || (backToKw pos (keywordEach kws X.env)).any (·.1.isNone)) = false := by rfl) :
    DE X g (.Call (.Name x p) [] kws pos) (fun δ => bnd (m δ) (manyK ps.length mF is)) := by
  obtain ⟨t, pk, ha⟩ := ha
  refine ⟨fun σ H Q => t σ H fun vs H1 => vs.length = ps.length ∧ spD X.K ps.length mF (order is vs) H1 Q (EOf X.K g), ⟨fun pins s σ H Q I h => ?_⟩, fun σ H F δ n Q Qd R q w => ha σ H F δ n _ _ R (fun vs as F1 H1 n1 rb da hq => ⟨by rw [da.length]; exact hq.1, told R rb (da.order is) hq.2.1 hq.2.2 q⟩) w⟩
  apply wpAny_Call_Name_kw
  refine ld_glob I hg hm ?_ hdb
  refine PySem.W.callWith_KW0 (h₀ := X.base) (first := []) I.ok.mod.kin hk hall (thn (pk.run pos pins s σ H _ I h) ?_) hpl
  rintro us s1 ⟨vs, H1, I1, rel, hl, want⟩
  refine ⟨I1.kIn, ?_⟩
  rw [hks]
  have hl2 : us.length = ps.length := by rw [← rel.length]; exact hl
  exact callG G room hx.guards hx.pass I1 (hb us hl2 s1 I1.kIn) (Vals.order is rel) want
end
end Dl
namespace Dl
open PySem PySem.Spec L2
open PyProof.Rows hiding St

/-! ### the hand: a number is dealt -/
abbrev tInt (i : Int) : TE := tC (.int i)
abbrev rMod : R2 := rI (fun _ j => 0 < j) fun i j => .int (i % j)
abbrev rFd : R2 := rI CDiv fun i j => .int (i / j)
abbrev rAd : R2 := rI0 fun i j => .int (i + j)
abbrev rMu : R2 := rI CMul fun i j => .int (i * j)
/-- hand[i] -/
abbrev tH (K : PySem.W.Frag) (i : Int) : TE := tOp (rIxL K) (tVar 0) (tInt i)
def tM4 : TS := tRet (tOp rMod (tOp rFd (tOp rMod (tOp rMu (tVar 3) (tOp rAd (tOp rFd (tVar 3) (tInt 5)) (tInt 39373))) (tInt 2147483563)) (tInt 128)) (tVar 1))
def tM3 (K : PySem.W.Frag) : TS := tSeq (tAsg (tOp rMod (tOp rAd (tOp rAd (tOp rMu (tVar 3) (tVar 3)) (tOp rMu (tInt 69621) (tH K 2))) (tInt 11)) (tInt 2147483587)) (gName 3)) tM4
def tM2 (K : PySem.W.Frag) : TS := tSeq (tAsg (tOp rMod (tOp rMu (tVar 3) (tInt 48271)) (tInt 2147483647)) (gName 3)) (tM3 K)
def tMix (K : PySem.W.Frag) : TS := tSeq (tAsg (tOp rAd (tOp rAd (tOp rAd (tOp rMod (tVar 2) (tInt 2147483629)) (tOp rMu (tOp rMu (tInt 16807) (tH K 2)) (tH K 2))) (tH K 1)) (tInt 97)) (gName 3)) (tM2 K)
def tDealt (K : PySem.W.Frag) : TS := tSeq (tAsg (tOp rAd (tH K 2) (tInt 1)) (gSub (tVar 0) (tInt 2) rSetL)) (tSeq (tAsg (tH K 1) (gName 2))
  (tSeq (tIfS (tTest (tOp (rNeD K) (tH K 0) (tLst tNil)))
    (tSeq (tAsg (tBM0 K "list" rPop (tH K 0)) (gName 2))
      (tIfS (tTest (tOp (rI0 fun i j => V.bl (decide (j ≤ i))) (tVar 2) (tOp (rI CPow fun i j => V.int (i ^ j.toNat)) (tInt 10) (tInt 18))))
        (tSeq (tDrop (tBM K "list" rAppend (tH K 0) (tCons (tOp rFd (tVar 2) (tVar 1)) tNil))) (tRet (tOp rMod (tVar 2) (tVar 1)))) tNext)) tNext) (tMix K)))
theorem mod_in {i j : Int} (h : 0 < j) : 0 ≤ i % j ∧ i % j < j := ⟨Int.emod_nonneg _ (by omega), Int.emod_lt_of_pos _ h⟩
theorem cm1 {i j : Int} (h1 : -(2 ^ 64) < i) (h2 : i < 2 ^ 64) : CMul i j := .inl ⟨h1, h2⟩
theorem cm2 {i j : Int} (h1 : -(2 ^ 64) < j) (h2 : j < 2 ^ 64) : CMul i j := .inr ⟨h1, h2⟩
section
variable {K : PySem.W.Frag} {H : Hp} {x c : Addr} {t k L cell m : Int} {D : Ends}
theorem mix4 (hL : 0 < L ∧ L < 2 ^ 30) (hm : 0 ≤ m ∧ m < 2147483647) (q : ∀ r, 0 ≤ r → r < L → D.rt (.int r) H) : tM4 D [some (.ref x), some (.int L), some (.int cell), some (.int m)] H := by
  refine ⟨_, rfl, _, rfl, _, _, rfl, rfl, ⟨by omega, by omega⟩, _, _, rfl, rfl, _, _, rfl, rfl, cm1 (by omega) (by omega), _, _, rfl, rfl, by show (0 : Int) < 2147483563; omega, _, _, rfl, rfl, ⟨by omega, by omega⟩, _, rfl, _, _, rfl, rfl, hL.1, ?_⟩
  exact q _ (mod_in hL.1).1 (mod_in hL.1).2
theorem at_h2 {Q : VK} {σ : L2.St} (hx : H x = some (.lst [.ref c, .int t, .int k])) (e : σ[0]? = some (some (.ref x))) (h : Q (.int k) H) : tH K 2 σ H Q := ⟨_, e, x, _, 2, .int k, rfl, rfl, SqL.of hx, rfl, h⟩
theorem at_h1 {Q : VK} {σ : L2.St} (hx : H x = some (.lst [.ref c, .int t, .int k])) (e : σ[0]? = some (some (.ref x))) (h : Q (.int t) H) : tH K 1 σ H Q := ⟨_, e, x, _, 1, .int t, rfl, rfl, SqL.of hx, rfl, h⟩
theorem mix3 (hx : H x = some (.lst [.ref c, .int t, .int k])) (hL : 0 < L ∧ L < 2 ^ 30) (hm : 0 ≤ m ∧ m < 2147483647) (q : ∀ r, 0 ≤ r → r < L → D.rt (.int r) H) : tM3 K D [some (.ref x), some (.int L), some (.int cell), some (.int m)] H := by
  refine ⟨_, rfl, _, rfl, _, _, rfl, rfl, cm1 (by omega) (by omega), at_h2 hx rfl ⟨_, _, rfl, rfl, cm1 (by omega) (by omega), _, _, rfl, rfl, _, _, rfl, rfl, _, _, rfl, rfl, by show (0 : Int) < 2147483587; omega, ?_⟩⟩
  have z : ∀ y : Int, 0 ≤ y % 2147483587 ∧ y % 2147483587 < 2147483647 := fun y => by have := @mod_in y 2147483587 (by omega); omega
  exact mix4 hL (z _) q
theorem mix2 (hx : H x = some (.lst [.ref c, .int t, .int k])) (hL : 0 < L ∧ L < 2 ^ 30) (q : ∀ r, 0 ≤ r → r < L → D.rt (.int r) H) : tM2 K D [some (.ref x), some (.int L), some (.int cell), some (.int m)] H := by
  refine ⟨_, rfl, _, _, rfl, rfl, cm2 (by omega) (by omega), _, _, rfl, rfl, by show (0 : Int) < 2147483647; omega, ?_⟩
  exact mix3 hx hL (mod_in (by omega)) q
theorem mix_ok {w : Option V} (hx : H x = some (.lst [.ref c, .int t, .int k])) (hk : 0 ≤ k ∧ k < 2 ^ 63) (hL : 0 < L ∧ L < 2 ^ 30) (q : ∀ r, 0 ≤ r → r < L → D.rt (.int r) H) : tMix K D [some (.ref x), some (.int L), some (.int cell), w] H := by
  refine ⟨_, rfl, _, _, rfl, rfl, by show (0 : Int) < 2147483629; omega, at_h2 hx rfl ⟨_, _, rfl, rfl, cm1 (by omega) (by omega), at_h2 hx rfl ⟨_, _, rfl, rfl, cm2 (by omega) (by omega), _, _, rfl, rfl, at_h1 hx rfl ⟨_, _, rfl, rfl, _, _, rfl, rfl, ?_⟩⟩⟩⟩
  exact mix2 hx hL q
end
theorem eqv_nil : ∀ cs : List Int, PyData.eqv (.list (cs.map PyData.int)) (.list []) = cs.isEmpty
  | [] => by simp [PyData.eqv, PyData.eqvAll]
  | c :: cs => by simp [PyData.eqv, PyData.eqvAll]
theorem dp_ints {K : PySem.W.Frag} {H : Hp} : ∀ ns : List Int, DpAll K H (ns.map V.int) (ns.map PyData.int)
  | [] => .nil
  | n :: ns => .cons (.int n) (dp_ints ns)
theorem deal_ok {K : PySem.W.Frag} {H : Hp} {x c : Addr} {cs : List Int} {t k L : Int} {D : Ends} (hxc : x ≠ c) (hx : H x = some (.lst [.ref c, .int t, .int k])) (hc : H c = some (.lst (cs.map V.int))) (hz : cs.length ≤ 1000) (hk : 0 ≤ k ∧ k < 2 ^ 62) (hL : 0 < L ∧ L < 2 ^ 30)
    (q : ∀ (r : Int) (H' : Hp) (cs' : List Int), 0 ≤ r → r < L → (∀ b o, H b = some o → b ≠ x → b ≠ c → H' b = some o) → H' x = some (.lst [.ref c, .int t, .int (k + 1)]) → H' c = some (.lst (cs'.map V.int)) → cs'.length ≤ 1000 → D.rt (.int r) H') :
    tDealt K D [some (.ref x), some (.int L), none, none] H := by
  refine ⟨_, rfl, x, _, 2, .int k, rfl, rfl, SqL.of hx, rfl, _, _, rfl, rfl, _, rfl, x, _, 2, 2, rfl, rfl, hx, rfl, ?_⟩
  show tSeq _ _ D [some (.ref x), some (.int L), none, none] (upd H x (.lst [.ref c, .int t, .int (k + 1)]))
  generalize hH1 : upd H x (.lst [.ref c, .int t, .int (k + 1)]) = H1
  have x1 : H1 x = some (.lst [.ref c, .int t, .int (k + 1)]) := by rw [← hH1, upd_same]
  have c1 : H1 c = some (.lst (cs.map V.int)) := by rw [← hH1, upd_ne (fun e => hxc e.symm)]; exact hc
  have o1 : ∀ b o, H b = some o → b ≠ x → b ≠ c → H1 b = some o := fun b o h n1 _ => by rw [← hH1, upd_ne n1]; exact h
  refine ⟨_, rfl, x, _, 1, .int t, rfl, rfl, SqL.of x1, rfl, ?_⟩
  refine ⟨_, rfl, x, _, 0, .ref c, rfl, rfl, SqL.of x1, rfl, Nat.zero_le _, fun p np => ?_⟩
  generalize hH2 : upd H1 p (.lst []) = H2
  have px : x ≠ p := fun e => by rw [← e, x1] at np; cases np
  have pc : c ≠ p := fun e => by rw [← e, c1] at np; cases np
  have x2 : H2 x = some (.lst [.ref c, .int t, .int (k + 1)]) := by rw [← hH2, upd_ne px]; exact x1
  have c2 : H2 c = some (.lst (cs.map V.int)) := by rw [← hH2, upd_ne pc]; exact c1
  have o2 : ∀ b o, H b = some o → b ≠ x → b ≠ c → H2 b = some o := fun b o h n1 n2 => by
    have z := o1 b o h n1 n2
    rw [← hH2, upd_ne (fun e => by rw [e, np] at z; cases z)]; exact z
  refine ⟨.list (cs.map PyData.int), .list [], .lst (SqL.of c2) (dp_ints cs), .lst (SqL.of (by rw [← hH2, upd_same])) .nil, PySem.W.ke_shaped_ints cs, by decide, _, rfl, ?_⟩
  rw [eqv_nil]
  cases e : cs.isEmpty with
  | true =>
    rw [if_neg (by decide)]
    exact mix_ok x2 ⟨by omega, by omega⟩ hL fun r h1 h2 => q r H2 cs h1 h2 o2 x2 c2 hz
  | false =>
    rw [if_pos (by decide)]
    have hne : cs ≠ [] := fun z => by rw [z] at e; cases e
    have hlast : (cs.map V.int)[(cs.map V.int).length - 1]? = some (.int (cs.getLast hne)) := by
      rw [List.length_map, List.getElem?_map, ← List.getLast?_eq_getElem?, List.getLast?_eq_getLast hne]
      rfl
    refine ⟨_, rfl, x, _, 0, .ref c, rfl, rfl, SqL.of x2, rfl, .inl ⟨rfl, _, SqL.of c2⟩, c, _, _, rfl, rfl, c2, hlast, ?_⟩
    generalize cs.getLast hne = cell
    generalize hH3 : upd H2 c (.lst (cs.map V.int).dropLast) = H3
    have x3 : H3 x = some (.lst [.ref c, .int t, .int (k + 1)]) := by rw [← hH3, upd_ne hxc]; exact x2
    have c3 : H3 c = some (.lst (cs.dropLast.map V.int)) := by rw [← hH3, upd_same, List.map_dropLast]
    have o3 : ∀ b o, H b = some o → b ≠ x → b ≠ c → H3 b = some o := fun b o h n1 n2 => by rw [← hH3, upd_ne n2]; exact o2 b o h n1 n2
    have z3 : cs.dropLast.length ≤ cs.length := by rw [List.length_dropLast]; omega
    refine ⟨_, rfl, _, _, rfl, rfl, ⟨by omega, by omega, by decide⟩, _, _, rfl, rfl, _, rfl, ?_⟩
    cases h18 : decide ((10 : Int) ^ (18 : Int).toNat ≤ cell) with
    | true =>
      rw [if_pos rfl]
      refine ⟨_, rfl, x, _, 0, .ref c, rfl, rfl, SqL.of x3, rfl, .inl ⟨rfl, _, SqL.of c3⟩, _, rfl, _, rfl, _, _, rfl, rfl, ⟨hL.1, hL.2⟩, c, _, _, rfl, rfl, c3, ?_, ?_⟩
      · rw [List.length_map]
        exact Nat.lt_of_le_of_lt (Nat.le_trans z3 hz) (by decide)
      refine ⟨_, rfl, _, rfl, _, _, rfl, rfl, hL.1, ?_⟩
      refine q _ _ (cs.dropLast ++ [cell / L]) (mod_in hL.1).1 (mod_in hL.1).2 (fun b o h n1 n2 => by rw [upd_ne n2]; exact o3 b o h n1 n2) (by rw [upd_ne hxc]; exact x3) (by rw [upd_same, List.map_append]; rfl) ?_
      have h1 : 0 < cs.length := Nat.pos_of_ne_zero fun z => hne (List.eq_nil_of_length_eq_zero z)
      rw [List.length_append, List.length_dropLast, List.length_singleton]
      omega
    | false =>
      rw [if_neg Bool.false_ne_true]
      exact mix_ok x3 ⟨by omega, by omega⟩ hL fun r h1 h2 => q r H3 cs.dropLast h1 h2 o3 x3 c3 (by omega)
/-- what is asked of a deal: any of the lots may come -/
def mDealt : List Da → Mv Dt
  | [.hand, .d (.int L)] => fun n Q _ => 0 < L ∧ L < 2 ^ 30 ∧ 0 < n ∧ ∀ r : Int, 0 ≤ r → r < L → Q (.int r) (n - 1)
  | _ => bad
theorem RelB.dealt {hd : Hd} {F0 H0 F H H' : Hp} {n n' : Nat} (r : RelB hd F0 H0 F H n) (old : ∀ b o, H b = some o → ¬ InHd hd b → H' b = some o) (h : HandOk hd n' H') : RelB hd F0 H0 F H' n' :=
  ⟨fun b o e => old b o (r.sub b o e) (fun i => by rw [r.hfree b i] at e; cases e), r.f0, fun b o e i => old b o (r.h0 b o e i) i, r.fnew, h, r.hfree⟩
theorem dealt_of {P : Program} {w : World} {K : PySem.W.Frag} {mg : Str → Option Value} {base : Heap} {x qual : Str} {params : Arguments} {body : List Stmt} {scope : Scope} {dvs : List V} {kws : List (Str × V)} {f : Addr} {fd : FuncData} {N : List Str} {k : Nat} {p1 p2 : Str} (D : FunD K x qual params body scope dvs kws f fd) (S : FnScope N [p1, p2] scope) (hN : N.length = 4)
    (walk : ∀ (cdv : Value) (A : Around) (outer : List Env) (s : Shared) (H : Hp) (E : XK), Room k (A.deeper (envOfC qual scope s.heap.objs.size f cdv)) → PSs (cxOf (L2.CX P w) P w K mg base N qual scope f cdv A outer s H E) body (tDealt K)) : FnD P w K mg base (k + 1) f fd [p1, p2] mDealt := by
  refine FnG.of D S (fun vs H Q E h => ?_) (fun cdv A outer s H vs Q E room gu h => ⟨tDealt K, walk cdv A outer s H E room, ?_⟩)
  · obtain ⟨hd, F, as, n, Qd, W, _, da, hl, _⟩ := h
    rw [da.length, hl]
  · obtain ⟨hd, F, as, n, Qd, W, rb, da, hl, hm, q, qx⟩ := h
    match as, da, hm with
    | [.hand, .d (.int L)], .cons h1 (.cons h2 .nil), hm =>
      obtain ⟨x, c, rfl, rfl⟩ := h1
      cases h2
      obtain ⟨hL1, hL2, hn, hq⟩ := hm
      obtain ⟨hxc, cs, t, k0, hx, hc, hz, ht, hk1, hk2⟩ := rb.hand
      have est : L2.start N [V.ref x, V.int L] = [some (.ref x), some (.int L), none, none] := by
        show [some (V.ref x), some (V.int L)] ++ List.replicate (N.length - 2) none = _
        rw [hN]
        rfl
      rw [est]
      refine deal_ok hxc hx hc hz ⟨hk1, by omega⟩ ⟨hL1, hL2⟩ fun r H' cs' r1 r2 old hx' hc' hz' => ?_
      refine q _ (.int r) F H' (n - 1) (rb.dealt (fun b o e i => old b o e (fun z => i (.inl z)) fun z => i (.inr z)) ⟨hxc, cs', t, k0 + 1, hx', hc', hz', ht, by omega, by omega⟩) (.int r) (hq r r1 r2)

/-! ### the hand: its beginning -/
def rLOf (K : PySem.W.Frag) : List V → Hp → VK → Prop := fun xs H Q => ∃ p ys, xs = [V.ref p] ∧ (SqL K H p ys ∨ SqT K H p ys) ∧ ∀ l, H l = none → Q (.ref l) (upd H l (.lst ys))
def tTurn : TS := tAsg (tOp rMod (tOp rAd (tOp rAd (tOp rMu (tVar 2) (tInt 48271)) (tOp rMod (tVar 3) (tInt 2147483563))) (tInt 17)) (tInt 2147483629)) (gName 2)
def tBegun (K : PySem.W.Frag) : TS := tSeq (tPar 1 2 (tCons (tCB (rLOf K) (tCons (tSl (rSlL K) (tVar 0) tNoPart (tPart (tInt 63))) tNil)) (tCons (tInt 50021) tNil)))
  (tSeq (tFor (iList K (tVar 1)) (gName 3) tTurn) (tRet (tLst (tCons (tRevL K (tVar 1)) (tCons (tVar 2) (tCons (tInt 0) tNil))))))
theorem cut_ints (ns : List Int) (lo hi : Option Int) : ∃ ms : List Int, cutV (ns.map V.int) lo hi = ms.map V.int ∧ ms.length ≤ ns.length := by
  refine ⟨(ns.drop (HT.sIx ns.length 0 lo)).take (HT.sIx ns.length ns.length hi - HT.sIx ns.length 0 lo), ?_, ?_⟩
  · unfold cutV
    rw [List.length_map, List.map_take, List.map_drop]
  · rw [List.length_take, List.length_drop]
    omega
theorem same_new {H : Hp} {p : Addr} {o : HO} (h : H p = none) : Same H (upd H p o) := fun b x e => by
  rw [upd_ne (fun z => by rw [z, h] at e; cases e)]
  exact e
/-- what the beginning asks for -/
def spBegun (K : PySem.W.Frag) : Sp := fun vs H Q _ => ∃ (a : Addr) (ns : List Int), vs = [.ref a] ∧ SqL K H a (ns.map V.int) ∧ ns.length ≤ 63 ∧
  ∀ (H' : Hp) (x c : Addr) (cs : List Int) (t : Int), Same H H' → H x = none → H c = none → x ≠ c → H' x = some (.lst [.ref c, .int t, .int 0]) → H' c = some (.lst (cs.map V.int)) → cs.length ≤ 1000 → t.natAbs < 2 ^ 62 → Q (.ref x) H'
theorem begun_ok {K : PySem.W.Frag} {H : Hp} {a : Addr} {ns : List Int} {D : Ends} (hS : SqL K H a (ns.map V.int)) (hn : ns.length ≤ 63)
    (q : ∀ (H' : Hp) (x c : Addr) (cs : List Int) (t : Int), Same H H' → H x = none → H c = none → x ≠ c → H' x = some (.lst [.ref c, .int t, .int 0]) → H' c = some (.lst (cs.map V.int)) → cs.length ≤ 1000 → t.natAbs < 2 ^ 62 → D.rt (.ref x) H') :
    tBegun K D [some (.ref a), none, none, none] H := by
  obtain ⟨ms, hms, hml⟩ := cut_ints ns none (some 63)
  refine ⟨_, rfl, _, rfl, a, _, rfl, hS, fun p np => ?_⟩
  rw [hms]
  refine ⟨p, _, rfl, .inl (SqL.of upd_same), fun l nl => ?_⟩
  have s1 := same_new (o := .lst (ms.map V.int)) np
  have s2 := s1.trans (same_new (o := .lst (ms.map V.int)) nl)
  have hl := s1.free nl
  generalize hH2 : upd (upd H p (.lst (ms.map V.int))) l (.lst (ms.map V.int)) = H2 at s2
  have l2 : H2 l = some (.lst (ms.map V.int)) := by rw [← hH2, upd_same]
  refine ⟨_, _, rfl, _, rfl, l, rfl, ⟨_, SqL.of l2⟩, ?_⟩
  show ∃ W : Nat → Nat → L2.St → Hp → Prop, _
  refine for_list (xs := ms.map V.int) (fun i σ H3 => H3 = H2 ∧ ∃ t w, σ = [some (.ref a), some (.ref l), some (.int t), w] ∧ t.natAbs < 2 ^ 62) ⟨rfl, 50021, none, rfl, by decide⟩ (fun i σ H3 _ ⟨e, _⟩ => by rw [e]; exact SqL.of l2) (fun i x σ H3 hx ⟨e, t, w, es, ht⟩ => ?_) (fun σ H3 ⟨e, t, w, es, ht⟩ => ?_)
  · subst e es
    rw [List.getElem?_map] at hx
    obtain ⟨y, _, rfl⟩ := Option.map_eq_some_iff.mp hx
    refine ⟨_, rfl, _, _, rfl, rfl, cm2 (by omega) (by omega), _, rfl, _, _, rfl, rfl, by show (0 : Int) < 2147483563; omega, _, _, rfl, rfl, _, _, rfl, rfl, _, _, rfl, rfl, by show (0 : Int) < 2147483629; omega, rfl, _, _, rfl, ?_⟩
    have z : ∀ y : Int, (y % 2147483629).natAbs < 2 ^ 62 := fun y => by have := @mod_in y 2147483629 (by omega); omega
    exact z _
  · subst e es
    refine ⟨_, rfl, l, _, rfl, SqL.of l2, fun c nc => ?_⟩
    refine ⟨_, rfl, by show 3 ≤ sizeLine; decide, fun x nx => ?_⟩
    have s3 := s2.trans (same_new (o := .lst (ms.map V.int).reverse) nc)
    have hxc : c ≠ x := fun e => by rw [e, upd_same] at nx; cases nx
    refine q _ x c ms.reverse t (s3.trans (same_new nx)) (s3.free nx) (s2.free nc) (fun e => hxc e.symm) upd_same ?_ ?_ ht
    · rw [upd_ne hxc, upd_same, List.map_reverse]
    · rw [List.length_reverse]; omega
theorem begun_of {P : Program} {w : World} {K : PySem.W.Frag} {mg : Str → Option Value} {base : Heap} {x qual : Str} {params : Arguments} {body : List Stmt} {scope : Scope} {dvs : List V} {kws : List (Str × V)} {f : Addr} {fd : FuncData} {N : List Str} {k : Nat} {p1 : Str} (D : FunD K x qual params body scope dvs kws f fd) (S : FnScope N [p1] scope) (hN : N.length = 4)
    (walk : ∀ (cdv : Value) (A : Around) (outer : List Env) (s : Shared) (H : Hp) (E : XK), PSs (cxOf (L2.CX P w) P w K mg base N qual scope f cdv A outer s H E) body (tBegun K)) : FnG P w K mg base (k + 1) f fd [p1] (spBegun K) := by
  refine FnG.of D S (fun vs H Q E h => ?_) (fun cdv A outer s H vs Q E room gu h => ⟨tBegun K, walk cdv A outer s H E, ?_⟩)
  · obtain ⟨a, ns, rfl, _⟩ := h
    rfl
  · obtain ⟨a, ns, rfl, hS, hn, q⟩ := h
    have est : L2.start N [V.ref a] = [some (.ref a), none, none, none] := by
      show [some (V.ref a)] ++ List.replicate (N.length - 1) none = _
      rw [hN]
      rfl
    rw [est]
    exact begun_ok hS hn q
/-! ### a law: it takes its hand, the rest is data -/
def spLaw (K : PySem.W.Frag) : Sp := fun vs H Q _ => ∃ (a : Addr) (ns : List Int), vs = [.ref a] ∧ Only H ∧ SqL K H a (ns.map V.int) ∧ ns.length ≤ 63 ∧ ∀ H', Q (.bl true) H'
/-- what a law's rest must come to -/
def LawMean (N : List Str) (m : Ms) : Prop := m ([Ds.no, Ds.hand] ++ List.replicate (N.length - 2) Ds.no) (2 ^ 60) { nx := fun _ _ => False, rt := fun d _ => d = .bool true } fun _ _ => False
section
variable {X : Cx} {k : Nat} {fB : Addr} {fdB : FuncData} {hn b sc pB : Str} {rest : List Stmt} {q1 q2 q3 q4 q5 : Pos} {m : Ms} {H : Hp} {a : Addr} {ns : List Int} {D : Ends}
theorem pe_begun (B : FnG X.prog X.w X.K X.mg X.base k fB fdB [pB] (spBegun X.K)) (room : Room k X.A) (gu : X.A.guards = some []) (mb : X.mg b = some (.ref fB)) (kb : PySem.W.keepIn X.K (.ref fB) = true)
    (bb : ∀ us : List Value, us.length = 1 → ∀ s : Shared, X.K.In s.heap → BindsTo s fdB ⟨us, []⟩ ([pB].zip us)) (hN0 : X.N[0]? = some sc) (hv : Vis X.env.scope sc) (hg : Gl X b) (hs1 : (sc == ("__debug__" : Str)) = false) (hs2 : (sc == ("__classdict__" : Str)) = false) (hb : (b == ("__debug__" : Str)) = false) :
    PE X (.Call (.Name b q2) [.Name sc q3] [] q4) (fun σ H Q => tCons (tVar 0) tNil σ H fun vs H1 => vs.length = 1 ∧ spBegun X.K vs H1 Q fun _ _ _ => False) := by
  refine ⟨fun pins s' σ H' Q' I hw => ?_⟩
  apply wpAny_Call_Name_kw
  refine ld_glob I hg mb ?_ hb
  have pa : PA X [.Name sc q3] (tCons (tVar 0) tNil) := pa_cons (pe_var hN0 hv hs1 hs2) pa_nil rfl
  refine PySem.W.callWith_K (h₀ := X.base) I.ok.mod.kin kb (thn (pa.run q4 pins s' σ H' _ I hw) ?_) rfl rfl
  rintro us s1 ⟨vs, H1, I1, rel, hl, want⟩
  have hl2 : us.length = 1 := by rw [← rel.length]; exact hl
  have no : Passes (L2.CX X.prog X.w) X (fun _ _ _ => False) := passL
  exact ⟨I1.kIn, callG B room gu no I1 (bb us hl2 s1 I1.kIn) rel want⟩
theorem law_rest (B : FnG X.prog X.w X.K X.mg X.base k fB fdB [pB] (spBegun X.K)) (room : Room k X.A) (gu : X.A.guards = some []) (mb : X.mg b = some (.ref fB)) (kb : PySem.W.keepIn X.K (.ref fB) = true)
    (bb : ∀ us : List Value, us.length = 1 → ∀ s : Shared, X.K.In s.heap → BindsTo s fdB ⟨us, []⟩ ([pB].zip us)) (hN0 : X.N[0]? = some sc) (hN1 : X.N[1]? = some hn) (hN2 : 2 ≤ X.N.length) (hv : Vis X.env.scope sc) (hx : Loc X.env.scope hn) (hf : X.fn hn = true) (hg : Gl X b) (hs1 : (sc == ("__debug__" : Str)) = false) (hs2 : (sc == ("__classdict__" : Str)) = false) (hb : (b == ("__debug__" : Str)) = false)
    (ok : ∀ x c, XOk X ⟨some (x, c), fun _ => none, H, fun _ _ => False⟩) (walk : ∀ g, XOk X g → DSs X g rest m) (mean : LawMean X.N m) (hS : SqL X.K H a (ns.map V.int)) (hn63 : ns.length ≤ 63) (q : ∀ H', D.rt (.bl true) H') :
    ∃ t, PSs X (.Assign [.Name hn q1] (.Call (.Name b q2) [.Name sc q3] [] q4) q5 :: rest) t ∧ t D (L2.start X.N [.ref a]) H := by
  have call := pe_begun (q2 := q2) (q3 := q3) (q4 := q4) B room gu mb kb bb hN0 hv hg hs1 hs2 hb
  have reads : PSs X rest (fun D σ H' => ∃ x c, (walk ⟨some (x, c), fun _ => none, H, fun _ _ => False⟩ (ok x c)).choose D σ H') :=
    ⟨fun pins s' σ H' D' I ⟨x, c, hw⟩ => (walk _ (ok x c)).choose_spec.1.run pins s' σ H' D' I hw⟩
  refine ⟨_, pss_cons (ps_set (i := 1) (ok 0 0).nd hN1 hx call rfl (.inl hf)) reads, ?_⟩
  refine ⟨.ref a, rfl, rfl, a, ns, rfl, hS, hn63, fun H' x c cs t sm nx nc hxc hx' hc' hz ht => ?_⟩
  refine ⟨x, c, ?_⟩
  have hand : HandOk (some (x, c)) (2 ^ 60) H' := ⟨hxc, cs, t, 0, hx', hc', hz, ht, by omega, by decide⟩
  have RB : RelB (some (x, c)) (fun _ => none) H (fun _ => none) H' (2 ^ 60) := ⟨fun b o e => (by cases e), fun _ _ e => (by cases e), fun b o e _ => sm b o e, fun b o e => (by cases e), hand, fun _ _ => rfl⟩
  have hlen : (L2.start X.N [V.ref a]).length = X.N.length := by
    unfold L2.start
    simp
    omega
  have R : Rel X.K (some (x, c)) (fun _ => none) H (fun _ => none) ((L2.start X.N [V.ref a]).set 1 (some (.ref x))) H' ([Ds.no, Ds.hand] ++ List.replicate (X.N.length - 2) Ds.no) (2 ^ 60) := by
    refine ⟨RB, ?_, ?_, ?_⟩
    · rw [List.length_set, hlen]
      simp
      omega
    · intro i s' e
      match i, e with
      | 0, e => cases e; trivial
      | 1, e =>
        cases e
        refine ⟨x, c, rfl, ?_⟩
        rw [List.getElem?_set_self (by rw [hlen]; omega)]
      | i + 2, e =>
        have e : (List.replicate (X.N.length - 2) Ds.no)[i]? = some s' := by simpa using e
        rw [List.getElem?_replicate] at e
        split at e
        · cases e; trivial
        · cases e
    · intro i j xs ys b' e1 _ _ _
      exfalso
      match i, e1 with
      | 0, e => cases e
      | 1, e => cases e
      | i + 2, e =>
        have e : (List.replicate (X.N.length - 2) Ds.no)[i]? = some (.own xs) := by simpa using e
        rw [List.getElem?_replicate] at e
        split at e
        · cases e
        · cases e
  refine (walk _ (ok x c)).choose_spec.2 _ H' (fun _ => none) _ (2 ^ 60) _ { nx := fun _ _ => False, rt := fun d _ => d = .bool true } R
      (fun _ _ _ _ _ _ _ z => z.elim) (fun v d H'' F' n' _ _ rp z => ?_) (fun _ _ _ _ _ _ _ z => z.elim) (fun _ _ _ _ _ _ _ z => z.elim) mean
  have z : d = .bool true := z
  subst z
  cases rp
  exact q H''
end
/-- a law by its rest -/
theorem law_of {P : Program} {w : World} {K : PySem.W.Frag} {mg : Str → Option Value} {base : Heap} {x qual : Str} {params : Arguments} {scope : Scope} {dvs : List V} {kws : List (Str × V)} {f fB : Addr} {fd fdB : FuncData} {N : List Str} {k : Nat} {p1 hn b sc pB : Str} {body rest : List Stmt} {q1 q2 q3 q4 q5 : Pos} {m : Ms}
    (D : FunD K x qual params body scope dvs kws f fd) (S : FnScope N [p1] scope) (hbody : body = .Assign [.Name hn q1] (.Call (.Name b q2) [.Name sc q3] [] q4) q5 :: rest) (hN0 : N[0]? = some sc) (hN1 : N[1]? = some hn) (hN2 : 2 ≤ N.length)
    (B : FnG P w K mg base k fB fdB [pB] (spBegun K)) (mb : mg b = some (.ref fB)) (kb : PySem.W.keepIn K (.ref fB) = true) (bb : ∀ us : List Value, us.length = 1 → ∀ s : Shared, K.In s.heap → BindsTo s fdB ⟨us, []⟩ ([pB].zip us))
    (hv : Vis scope sc) (hx : Loc scope hn) (hg : ∀ (cdv : Value) (A : Around) (outer : List Env) (s : Shared) (H : Hp) (E : XK), Gl (cxOf (L2.CX P w) P w K mg base N qual scope f cdv A outer s H E) b)
    (hs1 : (sc == ("__debug__" : Str)) = false) (hs2 : (sc == ("__classdict__" : Str)) = false) (hb : (b == ("__debug__" : Str)) = false)
    (walk : ∀ (cdv : Value) (A : Around) (outer : List Env) (s : Shared) (H : Hp) (E : XK) (g : Gh), XOk (cxOf (L2.CX P w) P w K mg base N qual scope f cdv A outer s H E) g → Room k (A.deeper (envOfC qual scope s.heap.objs.size f cdv)) →
      DSs (cxOf (L2.CX P w) P w K mg base N qual scope f cdv A outer s H E) g rest m)
    (mean : LawMean N m) : FnG P w K mg base (k + 1) f fd [p1] (spLaw K) := by
  subst hbody
  refine FnG.of D S (fun vs H Q E h => ?_) (fun cdv A outer s H vs Q E room gu h => ?_)
  · obtain ⟨a, ns, rfl, _⟩ := h
    rfl
  · obtain ⟨a, ns, rfl, only, hS, hn63, q⟩ := h
    have tk : Takes (cxOf (L2.CX P w) P w K mg base N qual scope f cdv A outer s H E) (fun cls d _ H' => E cls d H') := takes_of rfl rfl rfl rfl
    have ok : ∀ x c, XOk (cxOf (L2.CX P w) P w K mg base N qual scope f cdv A outer s H E) ⟨some (x, c), fun _ => none, H, fun _ _ => False⟩ := fun x c => by
      refine ⟨rfl, passes_of rfl, gu, S.nd, passes_call tk ?_⟩
      rintro cls a σ H' ⟨fs, n', F', hB, hx, hw⟩
      exact hw.elim
    exact law_rest (X := cxOf (L2.CX P w) P w K mg base N qual scope f cdv A outer s H E) (H := H) B room gu mb kb bb hN0 hN1 hN2 hv hx rfl (hg cdv A outer s H E) hs1 hs2 hb ok (fun g hx => walk cdv A outer s H E g hx room) mean hS hn63 q
end Dl
namespace Dl
open PySem PySem.Spec L2
open PyProof.Rows hiding St

/-! ### a law's end -/
section
variable {P : Program} {w : World} {K : PySem.W.Frag} {mg mb : Str → Option Value} {k : Nat} {fa a : Addr} {fd : FuncData} {x : Str} {s1 : Shared} {vs : List Value} {ns : List Int}
abbrev LawEnd (s1 : Shared) (r : Result) (s' : Shared) : Prop := r = .ok (.ret (.bool true)) ∧ OldK s1.heap s'.heap ∧ s'.os = s1.os ∧ AllBare s'.gens
/-- over one abstract heap: nothing is tracked but, it may be, the script -/
theorem lawAt {H : Hp} (inK : K.In s1.heap) (glob : s1.heap.Ns mainGlobals mg) (blt : s1.heap.Ns builtinsNs mb) (boot : ∀ y : Str, y ≠ "__name__" → mb y = bootBuiltins y) (nolim : s1.heap.NoLimit) (nogen : s1.gens = #[])
    (there : s1.heap.get? a = some { cls := .type "list", data := .seq vs.toArray }) (short : ns.length ≤ 63) (room : Room k callerA)
    (F : ∀ base : Heap, K.In base → base.Ns mainGlobals mg → FnG P w K mg base k fa fd [x] (spLaw K)) (bind : ∀ (s : Shared) (u : Value), BindsTo s fd ⟨[u], []⟩ [(x, u)])
    (only : Only H) (hS : SqL K H a (ns.map V.int)) (good : HOk P w H s1.heap) (mine : ∀ b, H b ≠ none → b = a) (apart : H a ≠ none → K.lookup a = none) :
    codeAny (model P w) callerA (.call (.ref fa) ⟨[.ref a], []⟩) (LawEnd s1) s1 := by
  have shown : ∀ {b : Addr} {o : Obj}, s1.heap.get? b = some o → H b = none → (hidT s1.heap H).get? b = some o := fun e n => hidT_get e n
  have noDict : ∀ {b : Addr} {o : Obj} {es : Array DictEntry} {ep : Nat}, s1.heap.get? b = some o → o.data = .dict es ep → H b = none := by
    intro b o es ep e d
    cases q : H b with
    | none => rfl
    | some u =>
      obtain rfl := mine b (by rw [q]; exact fun z => nomatch z)
      rw [there] at e
      cases e
      exact absurd d (fun z => nomatch z)
  have nsThere : ∀ {b : Addr} {m : Str → Option Value}, s1.heap.Ns b m → (hidT s1.heap H).Ns b m := fun {b m} h => by
    obtain ⟨o, es, ep, e, d, r⟩ := h
    exact ⟨o, es, ep, shown e (noDict e d), d, r⟩
  have inKb : K.In (hidT s1.heap H) := by
    intro b o e
    refine shown (inK b o e) ?_
    cases q : H b with
    | none => rfl
    | some u =>
      have e' := mine b (by rw [q]; exact fun z => nomatch z)
      have z := apart (by rw [← e', q]; exact fun z => nomatch z)
      rw [← e', e] at z
      cases z
  have modOk : Mod K mg (hidT s1.heap H) := by
    refine ⟨inKb, nsThere glob, ⟨mb, nsThere blt, boot⟩, ?_⟩
    obtain ⟨mc, h1, h2⟩ := nolim
    exact ⟨mc, nsThere h1, h2⟩
  have entry : Env0 P w K mg (hidT s1.heap H) callerA [] s1 H := by
    refine ⟨rfl, modOk, fun b o e => of_hidT e, Nat.le_of_eq (hidT_size _ _), trivial, ?_, good, .of_eq nogen⟩
    intro b hb
    exact absurd (show b ∈ ([] : List Addr) from hb) (by simp)
  have want : spLaw K [.ref a] H (fun v _ => v = .bl true) fun _ _ _ => False := ⟨a, ns, rfl, only, hS, short, fun _ => rfl⟩
  refine codeAny_mono ((F _ inKb (nsThere glob)).goes callerA [] s1 H ⟨[.ref a], []⟩ [.ref a] [.ref a] _ _ room rfl entry (bind s1 (.ref a)) (.cons rfl .nil) want) ?_
  intro r s' h
  match r with
  | .error e =>
    obtain ⟨_, _, _, _, _, _, _, _, _, _, _, _, z⟩ := h
    exact z.elim
  | .ok .next => exact h.elim
  | .ok .brk => exact h.elim
  | .ok .cont => exact h.elim
  | .ok (.ret u) =>
    obtain ⟨v, H', os, bare, un, good', rv, q⟩ := h
    have q : v = .bl true := q
    subst q
    have ru : u = Value.bool true := rv
    subst ru
    refine ⟨rfl, OldK.of_keep ?_, os, bare⟩
    intro b o e
    cases q : H b with
    | none => exact un.keep b o e q (by intro z; exact absurd (show b ∈ ([] : List Addr) from z) (by simp)) (by simp)
    | some u =>
      cases only b with
      | inl z => rw [q] at z; cases z
      | inr z =>
        obtain ⟨ob, xs, z⟩ := z
        rw [q] at z
        cases z
        have z2 := un.frzs b ob _ q
        obtain ⟨e1, _⟩ := good b _ q
        obtain ⟨e2, _⟩ := good' b _ z2
        rw [e] at e1
        cases e1
        exact e2
theorem lawG (inK : K.In s1.heap) (glob : s1.heap.Ns mainGlobals mg) (blt : s1.heap.Ns builtinsNs mb) (boot : ∀ y : Str, y ≠ "__name__" → mb y = bootBuiltins y) (nolim : s1.heap.NoLimit) (nogen : s1.gens = #[])
    (there : s1.heap.get? a = some { cls := .type "list", data := .seq vs.toArray }) (hints : IntsAre vs ns) (short : ns.length ≤ 63) (room : Room k callerA)
    (F : ∀ base : Heap, K.In base → base.Ns mainGlobals mg → FnG P w K mg base k fa fd [x] (spLaw K)) (bind : ∀ (s : Shared) (u : Value), BindsTo s fd ⟨[u], []⟩ [(x, u)]) :
    codeAny (model P w) callerA (.call (.ref fa) ⟨[.ref a], []⟩) (LawEnd s1) s1 := by
  have rv := vals_ints hints
  have lv := hints.length
  have short' : ns.length ≤ sizeLine := Nat.le_trans short (by decide)
  cases hk : K.lookup a with
  | some o =>
    have e := inK a o hk
    rw [there] at e
    cases e
    refine lawAt (H := fun _ => none) inK glob blt boot nolim nogen there short room F bind (fun _ => .inl rfl) (.inr ⟨_, vs.toArray, _, hk, rfl, rfl, rfl, by rw [List.size_toArray, lv]; exact short', by simpa using rv⟩) ?_ (fun b z => absurd rfl z) (fun z => absurd rfl z)
    intro b u z
    exact nomatch (show (none : Option HO) = some u from z)
  | none =>
    let o0 : HO := .frz { cls := .type "list", data := .seq vs.toArray } (.lst (ns.map V.int))
    have at_a : (fun b => if b = a then some o0 else none) a = some o0 := if_pos rfl
    refine lawAt (H := fun b => if b = a then some o0 else none) inK glob blt boot nolim nogen there short room F bind (fun b => ?_) (.inl (.inr ⟨_, at_a⟩)) (fun b u z => ?_) (fun b z => ?_) fun _ => hk
    · by_cases hb : b = a
      · exact .inr ⟨_, _, if_pos hb⟩
      · exact .inl (if_neg hb)
    · by_cases hb : b = a
      · subst hb
        have e := (if_pos rfl).symm.trans z
        cases e
        exact ⟨there, by rw [List.length_map]; exact short', vs, _, rv, there⟩
      · have e := (if_neg hb).symm.trans z
        cases e
    · by_cases hb : b = a
      · exact hb
      · exact absurd (if_neg hb) z
end
/-- the head's case hc, from the law's promise -/
theorem walk_G {l : PySem.W.OpenLaw} {k : Nat} {q : Program} {loose : List Str} {XP : (Str → Option Value) → Heap → Prop} {YP : World → Heap → Prop} {d : DefRec} {x : Str} (hn : l.most = some 63) (hdf : d.params.defaults = []) (room : Room k callerA)
    (F : ∀ (w : World) (mg : Str → Option Value) (fa : Addr) (h : Heap), YP w h → h.Ns mainGlobals mg → mg d.name = some (.ref fa) →
      ∃ (K : PySem.W.Frag) (fd : FuncData), K.In h ∧ (∀ (s : Shared) (u : Value), BindsTo s fd ⟨[u], []⟩ [(x, u)]) ∧ ∀ base : Heap, K.In base → base.Ns mainGlobals mg → FnG l.prog w K mg base k fa fd [x] (spLaw K)) :
    PySem.W.WalkO q loose XP YP l.row.toRowW d [] (fun f vs => PySem.call f vs) := by
  refine Att.attach_call hn hdf ?_
  intro w s0 s1 mg mb fa o pm cd doc a vs ns G Y ho hd hcd hmg hobj hints hlen hg
  obtain ⟨K, fd, inK, bind, hF⟩ := F w mg fa _ Y G.T.g hmg
  exact lawG inK G.T.g G.T.b G.T.builtins G.T.nolimit hg hobj hints hlen room hF bind
end Dl
namespace Dl
open PySem PySem.Spec L2
open PyProof.Rows hiding St

/-! ### a def that is known by its name -/
def Kn (P : Program) (w : World) (K : PySem.W.Frag) (mg : Str → Option Value) (base : Heap) (k : Nat) (x : Str) (st : Stmt) (ps : List Str) (mF : List Da → Mv Dt) : Prop := ∃ (f : Addr) (fd : FuncData), FnD P w K mg base k f fd ps mF ∧ mg x = some (.ref f) ∧
  (∀ us : List Value, us.length = ps.length → ∀ s : Shared, K.In s.heap → BindsTo s fd ⟨us, []⟩ (ps.zip us)) ∧ FunD K x x (defArgs st) (defBody st) (defScope st) [] [] f fd
section
variable {P : Program} {w : World} {K : PySem.W.Frag} {mg : Str → Option Value} {base : Heap}
theorem Kn.more {j k : Nat} {x : Str} {st : Stmt} {ps : List Str} {mF : List Da → Mv Dt} (G : Kn P w K mg base j x st ps mF) (h : j ≤ k) : Kn P w K mg base k x st ps mF := by
  obtain ⟨f, fd, a, b, c, d⟩ := G
  exact ⟨f, fd, a.more h, b, c, d⟩
theorem Kn.imp {k : Nat} {x : Str} {st : Stmt} {ps : List Str} {mF mF' : List Da → Mv Dt} (G : Kn P w K mg base k x st ps mF) (h : ∀ as n Q W, as.length = ps.length → mF' as n Q W → mF as n Q W) : Kn P w K mg base k x st ps mF' := by
  obtain ⟨f, fd, a, b, c, d⟩ := G
  exact ⟨f, fd, a.imp h, b, c, d⟩
/-- a def of the top, before its promise -/
structure Df (K : PySem.W.Frag) (mg : Str → Option Value) (x : Str) (st : Stmt) (ps : List Str) (f : Addr) (fd : FuncData) : Prop where
  d : FunD K x x (defArgs st) (defBody st) (defScope st) [] [] f fd
  g : mg x = some (.ref f)
  b : ∀ us : List Value, us.length = ps.length → ∀ s : Shared, BindsTo s fd ⟨us, []⟩ (ps.zip us)
theorem Df.kn {k : Nat} {x : Str} {st : Stmt} {ps : List Str} {f : Addr} {fd : FuncData} {mF : List Da → Mv Dt} (D : Df K mg x st ps f fd) (G : FnD P w K mg base k f fd ps mF) : Kn P w K mg base k x st ps mF := ⟨f, fd, G, D.g, fun us h s _ => D.b us h s, D.d⟩
end
section
variable {X : Cx} {g : Gh} {e : Expr} {es : List Expr} {kws : List Keyword} {x : Str} {p pos : Pos} {k : Nat} {st : Stmt} {ps : List Str} {mF : List Da → Mv Dt} {m : Me (List Da)}
theorem de_k (G : Kn X.prog X.w X.K X.mg X.base k x st ps mF) (hx : XOk X g) (room : Room k X.A) (ha : DAs X g (e :: es) m) (hg : Gl X x := by rfl) (hdb : (x == ("__debug__" : Str)) = false := by decide)
    (he : starEach (e :: es) X.env = (false, eval e X.env) :: starEach es X.env := by rfl) (hpl : (backTo pos (starEach es X.env)).any (·.1) = false := by rfl) :
    DE X g (.Call (.Name x p) (e :: es) [] pos) (fun δ => bnd (m δ) (many ps.length mF)) := by
  obtain ⟨f, fd, a, b, c, d⟩ := G
  exact de_call a hx room hg b d.kp c ha hdb he hpl
theorem de_k0 (G : Kn X.prog X.w X.K X.mg X.base k x st [] mF) (hx : XOk X g) (room : Room k X.A) (hg : Gl X x := by rfl) (hdb : (x == ("__debug__" : Str)) = false := by decide) : DE X g (.Call (.Name x p) [] [] pos) (fun _ => mF []) := by
  obtain ⟨f, fd, a, b, c, d⟩ := G
  exact de_call0 a hx room hg b d.kp c hdb
theorem de_kk (is : List Nat) {ks : List Str} (G : Kn X.prog X.w X.K X.mg X.base k x st ps mF) (hx : XOk X g) (room : Room k X.A) (ha : DKs X g kws m)
    (hb : ∀ (kV doc pm : Value) (an : Option Addr) (cdv ct : Value) (ws : List Value), ws.length = ps.length → bindArgs (PySem.W.fnOf x x (defArgs st) (defBody st) (defScope st) .none kV doc pm an cdv ct) ⟨[], ks.zip ws⟩ = pure (ps.zip (order is ws)))
    (hg : Gl X x := by rfl) (hdb : (x == ("__debug__" : Str)) = false := by decide)
    (hall : (backToKw pos (keywordEach kws X.env)).all (·.1.isSome) = true := by rfl) (hks : (backToKw pos (keywordEach kws X.env)).filterMap (·.1) = ks := by rfl)
    (hpl : ((backTo pos (starEach [] X.env)).any (·.1) || (backToKw pos (keywordEach kws X.env)).any (·.1.isNone)) = false := by rfl) :
    DE X g (.Call (.Name x p) [] kws pos) (fun δ => bnd (m δ) (manyK ps.length mF is)) := by
  obtain ⟨f, fd, a, b, c, d⟩ := G
  refine de_callK is a hx room hg b d.kp ?_ ha hdb hall hks hpl
  obtain ⟨oc, od, dV, kV, doc, pm, an, cdv, ct, osl, rfl, lk, hcd, hD, hK⟩ := d.ex
  rcases hD with ⟨_, rfl⟩ | ⟨z, _⟩
  · exact fun ws hl s _ => .of_eq (hb kV doc pm an cdv ct ws hl)
  · exact absurd rfl z
/-- a constant of the top -/
theorem de_gc {v : V} {d : Dt} (h : ∃ u, X.mg x = some u ∧ RelV v u) (k : ∀ F, Rp X.K F v d) (hg : Gl X x := by rfl) (hd : (x == ("__debug__" : Str)) = false := by decide) : DE X g (.Name x pos) (fun _ => ret d) := by
  obtain ⟨u, hm, r⟩ := h
  exact de_gl hg hm r k hd
theorem de_gi {i : Int} (h : ∃ t, X.mg x = some (.int i t)) (hg : Gl X x := by rfl) (hd : (x == ("__debug__" : Str)) = false := by decide) : DE X g (.Name x pos) (fun _ => ret (.int i)) := by
  obtain ⟨t, h⟩ := h
  exact de_gc (v := .int i) ⟨_, h, t, rfl⟩ (fun _ => .int i) hg hd
theorem de_gs {z : Str} (h : ∃ t, X.mg x = some (.str z t)) (hg : Gl X x := by rfl) (hd : (x == ("__debug__" : Str)) = false := by decide) : DE X g (.Name x pos) (fun _ => ret (.str z)) := by
  obtain ⟨t, h⟩ := h
  exact de_gc (v := .str z) ⟨_, h, t, rfl⟩ (fun _ => .str z) hg hd
/-- in a block nothing is raised -/
theorem XOk.blk (h : XOk X g) {s : Shared} {H : Hp} {scope : Scope} {cenv : Env} {fp : List Addr} : XOk (X.blk s H scope cenv fp) g.calm := by
  refine ⟨h.calm, PassesOwn.never, h.guards, h.nd, ?_⟩
  intro pins σ H' s' e s'' I c
  obtain ⟨_, _, _, _, _, _, _, _, _, _, _, _, z⟩ := c
  obtain ⟨_, _, _, _, _, w⟩ := z
  exact w.elim
end
/-- a block's names, told by a test -/
def blkB (N : List Str) (sc scope : Scope) (own : List (Str × Nat)) : Bool := (scope.kind == .function) && scope.names.all (fun y => scope.names.lookup y.1 == some y.2) && own.all (fun p => N[p.2]? == some p.1) &&
  scope.names.all (fun y => !(y.2 == .free) || (sc.names.lookup y.1 == some .cell || sc.names.lookup y.1 == some .free)) && scope.names.all (fun y => !(y.2 == .local || y.2 == .cell) || ((own.map (·.1)).contains y.1 || !N.contains y.1))
theorem blk_ok {N : List Str} {sc scope : Scope} {own : List (Str × Nat)} (h : blkB N sc scope own = true) : BlkOk N sc scope own := by
  unfold blkB at h
  simp only [Bool.and_eq_true, List.all_eq_true, beq_iff_eq, Bool.or_eq_true, Bool.not_eq_true', List.contains_eq_mem, decide_eq_true_eq, decide_eq_false_iff_not] at h
  obtain ⟨⟨⟨⟨h1, h2⟩, h3⟩, h4⟩, h5⟩ := h
  refine ⟨h1, h2, h3, fun y hy e => ?_, fun y hy e => ?_⟩
  · rcases h4 y hy with z | z
    · rw [e] at z
      exact absurd z (by decide)
    · exact z
  · rcases h5 y hy with z | z
    · rcases e with e | e <;> (rw [e] at z; exact absurd z (by decide))
    · exact z
end Dl
namespace Dl
open PySem PySem.Spec L2
open PyProof.Rows hiding St
section
variable {X : Cx} {g : Gh} {e : Expr} {pos : Pos} {st : Stmt} {m : Ms}
/-- {} -/
theorem de_disp0 : DE X g (.Dict [] [] pos) (fun _ => ret (.dict [])) := by
  refine ⟨_, pe_dnewK, fun σ H F δ n Q Qd R q w => fun p np => ?_⟩
  exact q _ _ _ _ n (R.b.refl.lay np) (.dct upd_same .nil) w
/-- a statement, then the own list of slot i is a datum -/
theorem ds_frz1 (i : Nat) (h : DS X g st m) : DS X g st (fun δ n k W => m δ n { k with nx := fun δ' n' => k.nx (frz i δ') n' } W) := by
  obtain ⟨t, p, h⟩ := h
  refine ⟨t, p, fun σ H F δ n D k R q1 q2 q3 q4 w => h σ H F δ n D { k with nx := fun δ' n' => k.nx (frz i δ') n' } R (fun σ' H' F' δ' n' s R' z => ?_) q2 q3 q4 w⟩
  obtain ⟨F2, ex, R2⟩ := Rel.frz R' i
  exact q1 σ' H' F2 _ n' (s.trans ex) R2 z
theorem hu64 {A : Around} {k : Nat} (r : Room k A) : A.units + 64 < cLine := by have := r.un; omega
theorem hu65 {A : Around} {k : Nat} (r : Room k A) : A.units + 65 < cLine := by have := r.un; omega
end
end Dl
namespace Dl
open PySem PySem.Spec L2
open PyProof.Rows hiding St
/-! ### reckoning with meanings -/
/-- a comprehension that only reckons -/
theorem lc_ret {gt : Dt → List Ds → Mv (List Ds)} {mi : Me Bool} {me : Me Dt} {δ : List Ds} {p : Dt → Bool} {f : Dt → Dt} : ∀ (items acc : List Dt), (∀ x ∈ items, ∃ δ', gt x δ = ret δ' ∧ mi δ' = ret (p x) ∧ (p x = true → me δ' = ret (f x))) →
    lcM gt mi me δ items acc = ret (acc ++ (items.filter p).map f)
  | [], acc, _ => by simp [lcM]
  | x :: xs, acc, h => by
    obtain ⟨δ', h1, h2, h3⟩ := h x List.mem_cons_self
    have ih := fun acc => lc_ret (gt := gt) (mi := mi) (me := me) (δ := δ) (p := p) (f := f) xs acc fun y hy => h y (List.mem_cons_of_mem _ hy)
    unfold lcM
    rw [h1, bnd_ret, h2, bnd_ret]
    cases e : p x with
    | true =>
      rw [if_pos rfl, h3 e, bnd_ret, ih, List.filter_cons_of_pos (by rw [e]), List.map_cons, List.append_assoc]
      rfl
    | false =>
      rw [if_neg Bool.false_ne_true, ih, List.filter_cons_of_neg (by rw [e]; exact Bool.false_ne_true)]
theorem lcD_ret {mit : Me (List Dt)} {gt : Dt → List Ds → Mv (List Ds)} {mi : Me Bool} {me : Me Dt} {vs : List Nat} {δ : List Ds} {items : List Dt} {p : Dt → Bool} {f : Dt → Dt} (hit : mit δ = ret items)
    (h : ∀ x ∈ items, ∃ δ', gt x (wipeD δ vs) = ret δ' ∧ mi δ' = ret (p x) ∧ (p x = true → me δ' = ret (f x))) : lcD mit gt mi me vs δ = ret ((items.filter p).map f) := by
  unfold lcD
  rw [hit, bnd_ret]
  funext n Q W
  rw [lc_ret items [] h]
  rfl
/-- drawing: c draws at most, any result that is so -/
def dr (c : Nat) (P : Dt → Prop) : Mv Dt := fun n Q _ => c ≤ n ∧ ∀ y m, P y → n ≤ m + c → Q y m
/-- a meaning that is one of those -/
def Dr (c : Nat) (P : Dt → Prop) (m : Mv Dt) : Prop := ∀ n Q W, dr c P n Q W → m n Q W
theorem Dr.ret {P : Dt → Prop} {d : Dt} (h : P d) {c : Nat} : Dr c P (ret d) := fun n Q W ⟨h1, h2⟩ => h2 d n h (by omega)
theorem Dr.bnd {c1 c2 c : Nat} {P R : Dt → Prop} {m : Mv Dt} {f : Dt → Mv Dt} (h : Dr c1 P m) (hf : ∀ y, P y → Dr c2 R (f y)) (hc : c1 + c2 ≤ c) : Dr c R (bnd m f) := fun n Q W ⟨h1, h2⟩ =>
  h n _ W ⟨by omega, fun y m hy hm => hf y hy m Q W ⟨by omega, fun z m2 hz hm2 => h2 z m2 hz (by omega)⟩⟩
theorem Dr.imp {c c' : Nat} {P R : Dt → Prop} {m : Mv Dt} (h : Dr c P m) (hc : c ≤ c') (hp : ∀ y, P y → R y) : Dr c' R m := fun n Q W ⟨h1, h2⟩ => h n Q W ⟨by omega, fun y m hy hm => h2 y m (hp y hy) (by omega)⟩
/-- a comprehension that draws for each item -/
theorem lc_draw {gt : Dt → List Ds → Mv (List Ds)} {mi : Me Bool} {me : Me Dt} {δ : List Ds} {P : Dt → Prop} {c : Nat} {W : Wx} : ∀ (items acc : List Dt) (n : Nat) (Q : Kd (List Dt)), (∀ x ∈ items, ∃ δ', gt x δ = ret δ' ∧ mi δ' = ret true ∧ Dr c P (me δ')) → items.length * c ≤ n →
    (∀ ys m, ys.length = items.length → (∀ y ∈ ys, P y) → n ≤ m + items.length * c → Q (acc ++ ys) m) → lcM gt mi me δ items acc n Q W
  | [], acc, n, Q, _, _, q => by
    have := q [] n rfl (fun _ h => nomatch h) (by simp)
    rw [List.append_nil] at this
    exact this
  | x :: xs, acc, n, Q, h, hn, q => by
    obtain ⟨δ', h1, h2, h3⟩ := h x List.mem_cons_self
    unfold lcM
    rw [h1, bnd_ret, h2, bnd_ret, if_pos rfl]
    have e : (x :: xs).length * c = xs.length * c + c := by rw [List.length_cons, Nat.succ_mul]
    rw [e] at hn q
    refine h3 n _ W ⟨by omega, fun y m hy hm => ?_⟩
    refine lc_draw xs (acc ++ [y]) m Q (fun z hz => h z (List.mem_cons_of_mem _ hz)) (by omega) fun ys m2 hl ha hm2 => ?_
    rw [List.append_assoc]
    exact q (y :: ys) m2 (by rw [List.length_cons, List.length_cons, hl]) (fun z hz => (List.mem_cons.mp hz).elim (fun e => e ▸ hy) (ha z)) (by omega)

/-! ### rows for simp -/
theorem ret_app {α : Type} (a : α) (n : Nat) (Q : Kd α) (W : Wx) : (ret a : Mv α) n Q W = Q a n := rfl
theorem grd_app {α : Type} (c : Prop) (m : Mv α) (n : Nat) (Q : Kd α) (W : Wx) : grd c m n Q W = (c ∧ m n Q W) := rfl
theorem bnd_app {α β : Type} (m : Mv α) (f : α → Mv β) (n : Nat) (Q : Kd β) (W : Wx) : bnd m f n Q W = m n (fun a n1 => f a n1 Q W) W := rfl
theorem bnd_grd {α β : Type} (c : Prop) (m : Mv α) (f : α → Mv β) : bnd (grd c m) f = grd c (bnd m f) := rfl
theorem sl_zero (x : Dt) (r : List Ds) : sl 0 (.d x :: r) = ret x := rfl
theorem sl_succ (i : Nat) (s : Ds) (r : List Ds) : sl (i + 1) (s :: r) = sl i r := rfl
theorem slX_zero (x : Dt) (r : List Ds) : slX 0 (.d x :: r) = ret x := rfl
theorem slX_own (x : List Dt) (r : List Ds) : slX 0 (.own x :: r) = ret (.list x) := rfl
theorem slX_succ (i : Nat) (s : Ds) (r : List Ds) : slX (i + 1) (s :: r) = slX i r := rfl
theorem slO_zero (x : List Dt) (r : List Ds) : slO 0 (.d (.list x) :: r) = ret x := rfl
theorem slO_own (x : List Dt) (r : List Ds) : slO 0 (.own x :: r) = ret x := rfl
theorem slO_succ (i : Nat) (s : Ds) (r : List Ds) : slO (i + 1) (s :: r) = slO i r := rfl
theorem slH_zero (r : List Ds) : slH 0 (.hand :: r) = ret .hand := rfl
theorem slH_succ (i : Nat) (s : Ds) (r : List Ds) : slH (i + 1) (s :: r) = slH i r := rfl
theorem frz_zero (xs : List Dt) (r : List Ds) : frz 0 (.own xs :: r) = .d (.list xs) :: r := rfl
theorem frz_succ (i : Nat) (s : Ds) (r : List Ds) : frz (i + 1) (s :: r) = s :: frz i r := by
  unfold frz
  rw [List.getElem?_cons_succ]
  cases e : r[i]? with
  | none => rfl
  | some u => cases u <;> rfl
theorem own_zero (xs : List Dt) (r : List Ds) (f : List Dt → Prop) : withOwn 0 (.own xs :: r) f = f xs := rfl
theorem own_succ (i : Nat) (s : Ds) (r : List Ds) (f : List Dt → Prop) : withOwn (i + 1) (s :: r) f = withOwn i r f := rfl
theorem asB_bool (b : Bool) : asB (.bool b) = ret b := rfl
theorem asI_int (b : Int) : asI (.int b) = ret (some b) := rfl
theorem both_if (x : Bool) (y : Mv Bool) : both (ret x) y = if x then y else ret false := rfl
theorem either_if (x : Bool) (y : Mv Bool) : either (ret x) y = if x then ret true else y := rfl
theorem bothD_if (x : Bool) (y : Mv Dt) : bothD (ret (.bool x)) y = if x then y else ret (.bool false) := rfl
theorem eitherD_if (x : Bool) (y : Mv Dt) : eitherD (ret (.bool x)) y = if x then ret (.bool true) else y := rfl
theorem choose_if {α : Type} (c : Bool) (x y : Mv α) : choose (ret c) x y = if c then x else y := rfl
theorem many_app (c : Nat) (mF : List Da → Mv Dt) (as : List Da) (h : as.length = c) : many c mF as = mF as := by
  funext n Q W
  exact propext ⟨fun x => x.2, fun x => ⟨h, x⟩⟩
theorem ite_bnd {α β : Type} (c : Prop) [Decidable c] (x y : Mv α) (f : α → Mv β) : bnd (if c then x else y) f = if c then bnd x f else bnd y f := by split <;> rfl
theorem ite_ret2 {α : Type} (c : Prop) [Decidable c] (x y : α) : (if c then (ret x : Mv α) else ret y) = ret (if c then x else y) := by split <;> rfl
theorem wipeD_nil (δ : List Ds) : wipeD δ [] = δ := rfl
theorem wipeD_cons (δ : List Ds) (v : Nat) (vs : List Nat) : wipeD δ (v :: vs) = (wipeD δ vs).set v .no := rfl

theorem manyK_app (c : Nat) (mF : List Da → Mv Dt) (is : List Nat) (as : List Da) (h : as.length = c) (h2 : (order is as).length = c) : manyK c mF is as = mF (order is as) := by
  funext n Q W
  exact propext ⟨fun x => x.2.2, fun x => ⟨h, h2, x⟩⟩
theorem oJoin_list {x : Str} {ys : List Dt} {zs : List Str} (e : textsOf ys = some zs) (h : (zs.map (·.length)).sum + zs.length * x.length ≤ 16777216) : oJoin (.str x) [.list ys] = ret (.str (Txt.join x zs)) := by
  show (match textsOf ys with | some zs => grd ((zs.map (·.length)).sum + zs.length * x.length ≤ 16777216) (ret (.str (Txt.join x zs))) | none => bad : Mv Dt) = _
  rw [e]
  exact grd_true h _
theorem oEq_str (x y : Str) : oEq (.str x) (.str y) = ret (PyData.bool (x == y)) := by
  show grd _ (ret (PyData.bool (PyData.eqv (.str x) (.str y)))) = _
  rw [grd_true (by trivial), PyData.eqv]
theorem oEq_int (x y : Int) : oEq (.int x) (.int y) = ret (PyData.bool (x == y)) := by
  show grd _ (ret (PyData.bool (PyData.eqv (.int x) (.int y)))) = _
  rw [grd_true (by trivial), PyData.eqv]
theorem oNe_int (x y : Int) : oNe (.int x) (.int y) = ret (PyData.bool (!(x == y))) := by
  show grd _ (ret (PyData.bool (!PyData.eqv (.int x) (.int y)))) = _
  rw [grd_true (by trivial), PyData.eqv]
theorem filter_none {α : Type} (p : α → Bool) (xs : List α) : (xs.filter p).isEmpty = xs.all fun x => !p x := by
  induction xs with
  | nil => rfl
  | cons x xs ih =>
    rw [List.filter_cons, List.all_cons]
    cases p x with
    | true => rfl
    | false => rw [if_neg Bool.false_ne_true, ih]; rfl
theorem sz (n : Nat) (h : n ≤ 1000 := by decide) : n ≤ sizeLine := Nat.le_trans h (by decide)
theorem grd_nil {α : Type} (m : Mv α) : grd (([] : List Dt).length ≤ sizeLine) m = m := grd_true (sz 0) m
theorem onStr_str (x : Str) (m : Mv Dt) : onStr (.str x) m = m := rfl
/-! ### comprehensions in short -/
theorem lcD_map {mit : Me (List Dt)} {gt : Dt → List Ds → Mv (List Ds)} {me : Me Dt} {vs : List Nat} {δ : List Ds} {items : List Dt} (f : Dt → Dt) (hit : mit δ = ret items)
    (h : ∀ x ∈ items, ∃ δ', gt x (wipeD δ vs) = ret δ' ∧ me δ' = ret (f x)) : lcD mit gt (fun _ => ret true) me vs δ = ret (items.map f) := by
  rw [lcD_ret (p := fun _ => true) (f := f) hit fun x hx => let ⟨δ', h1, h2⟩ := h x hx; ⟨δ', h1, rfl, fun _ => h2⟩]
  congr 1
  rw [List.filter_eq_self.mpr (fun _ _ => rfl)]
theorem lcD_filter {mit : Me (List Dt)} {gt : Dt → List Ds → Mv (List Ds)} {mi : Me Bool} {me : Me Dt} {vs : List Nat} {δ : List Ds} {items : List Dt} (p : Dt → Bool) (hit : mit δ = ret items)
    (h : ∀ x ∈ items, ∃ δ', gt x (wipeD δ vs) = ret δ' ∧ mi δ' = ret (p x) ∧ me δ' = ret x) : lcD mit gt mi me vs δ = ret (items.filter p) := by
  rw [lcD_ret (p := p) (f := id) hit fun x hx => let ⟨δ', h1, h2, h3⟩ := h x hx; ⟨δ', h1, h2, fun _ => h3⟩]
  rw [List.map_id]
theorem lcD_draw {mit : Me (List Dt)} {gt : Dt → List Ds → Mv (List Ds)} {me : Me Dt} {vs : List Nat} {δ : List Ds} {items : List Dt} {P : Dt → Prop} (c : Nat) (hit : mit δ = ret items) (h : ∀ x ∈ items, ∃ δ', gt x (wipeD δ vs) = ret δ' ∧ Dr c P (me δ'))
    {n : Nat} {Q : Kd (List Dt)} {W : Wx} (hn : items.length * c ≤ n) (q : ∀ ys m, ys.length = items.length → (∀ y ∈ ys, P y) → n ≤ m + items.length * c → Q ys m) : lcD mit gt (fun _ => ret true) me vs δ n Q W := by
  unfold lcD
  rw [hit, bnd_ret]
  exact lc_draw items [] n Q (fun x hx => let ⟨δ', h1, h2⟩ := h x hx; ⟨δ', h1, rfl, h2⟩) hn q
theorem oAll_map {α : Type} (g : α → Bool) (xs : List α) : oAll [.list (xs.map fun d => PyData.bool (g d))] = ret (.bool (xs.all g)) := by
  have e : xs.map (fun d => PyData.bool (g d)) = (xs.map g).map PyData.bool := by rw [List.map_map]; rfl
  show (match boolsOf (xs.map fun d => PyData.bool (g d)) with | some bs => ret (.bool (bs.all id)) | none => bad : Mv Dt) = _
  rw [e, boolsOf_map]
  show ret _ = _
  rw [List.all_map]
  rfl
theorem oAny_map {α : Type} (g : α → Bool) (xs : List α) : oAny [.list (xs.map fun d => PyData.bool (g d))] = ret (.bool (xs.any g)) := by
  have e : xs.map (fun d => PyData.bool (g d)) = (xs.map g).map PyData.bool := by rw [List.map_map]; rfl
  show (match boolsOf (xs.map fun d => PyData.bool (g d)) with | some bs => ret (.bool (bs.any id)) | none => bad : Mv Dt) = _
  rw [e, boolsOf_map]
  show ret _ = _
  rw [List.any_map]
  rfl
theorem mem_chars {x : Str} {d : Dt} (h : d ∈ charsD x) : ∃ c, d = .str ⟨#[c]⟩ := by
  unfold charsD at h
  obtain ⟨c, _, rfl⟩ := List.mem_map.mp h
  exact ⟨c, rfl⟩
theorem eqv_lnil (ds : List Dt) : PyData.eqv (.list ds) (.list []) = ds.isEmpty := by
  cases ds <;> simp [PyData.eqv, PyData.eqvAll]
/-- xs == [] -/
theorem oEq_nil (ds : List Dt) : oEq (.list ds) (.list []) = ret (.bool ds.isEmpty) := by
  unfold oEq
  have e : eqOk (.list ds) (.list []) := .inl (.inr rfl)
  rw [grd_true e, eqv_lnil]
theorem oNe_nil (ds : List Dt) : oNe (.list ds) (.list []) = ret (.bool (!ds.isEmpty)) := by
  unfold oNe
  have e : eqOk (.list ds) (.list []) := .inl (.inr rfl)
  rw [grd_true e, eqv_lnil]
theorem eqv_tnil (ds : List Dt) : PyData.eqv (.tuple ds) (.tuple []) = ds.isEmpty := by
  cases ds <;> simp [PyData.eqv, PyData.eqvAll]
theorem oEq_tnil (ds : List Dt) : oEq (.tuple ds) (.tuple []) = ret (.bool ds.isEmpty) := by
  unfold oEq
  have e : eqOk (.tuple ds) (.tuple []) := .inl (.inr rfl)
  rw [grd_true e, eqv_tnil]
theorem oNe_str (x y : Str) : oNe (.str x) (.str y) = ret (PyData.bool (x != y)) := by
  show grd _ (ret (PyData.bool (!PyData.eqv (.str x) (.str y)))) = _
  rw [grd_true (by trivial), PyData.eqv]
  rfl
end Dl
namespace Dl
open PySem PySem.Spec L2
open PyProof.Rows hiding St
/-! ### texts of bounded length -/
def Txs (B : Nat) (x : Str) : Prop := x.length ≤ B ∧ ∀ c ∈ x.cps.toList, c < 0x110000
def tx (B : Nat) (d : Dt) : Prop := ∃ x, d = .str x ∧ Txs B x
/-- the same, to be decided -/
def txB (B : Nat) : Dt → Bool
  | .str x => decide (x.length ≤ B) && x.cps.toList.all fun c => decide (c < 0x110000)
  | _ => false
theorem tx_of {B : Nat} {d : Dt} (h : txB B d = true) : tx B d := by
  cases d with
  | str x =>
    have h : (decide (x.length ≤ B) && x.cps.toList.all fun c => decide (c < 0x110000)) = true := h
    rw [Bool.and_eq_true, decide_eq_true_eq, List.all_eq_true] at h
    exact ⟨x, rfl, h.1, fun c hc => of_decide_eq_true (h.2 c hc)⟩
  | _ => exact absurd h Bool.false_ne_true
theorem txs_of {B : Nat} {xs : List Dt} (h : xs.all (txB B) = true) : ∀ y ∈ xs, tx B y := fun y hy => tx_of (List.all_eq_true.mp h y hy)
theorem Txs.more {B C : Nat} {x : Str} (h : Txs B x) (l : B ≤ C) : Txs C x := ⟨Nat.le_trans h.1 l, h.2⟩
theorem tx.more {B C : Nat} {d : Dt} (h : tx B d) (l : B ≤ C) : tx C d := let ⟨x, e, t⟩ := h; ⟨x, e, t.more l⟩
theorem Txs.cat {B C : Nat} {x y : Str} (h : Txs B x) (g : Txs C y) : Txs (B + C) (x ++ y) := by
  refine ⟨?_, fun c hc => ?_⟩
  · have e : (x ++ y).length = x.length + y.length := by
      show (x.cps ++ y.cps).size = _
      rw [Array.size_append]
      rfl
    rw [e]
    exact Nat.add_le_add h.1 g.1
  · rcases mem_cps_append.mp hc with z | z
    · exact h.2 c z
    · exact g.2 c z
theorem catLen (x y : Str) : (x ++ y).length = x.length + y.length := by
  show (x.cps ++ y.cps).size = _
  rw [Array.size_append]
  rfl
theorem Txs.slice {B : Nat} {x : Str} (h : Txs B x) (lo hi : Option Int) : Txs B (Txt.slice x lo hi) := by
  rw [← C8.cutS_slice]
  unfold cutS
  refine ⟨?_, fun c hc => ?_⟩
  · show Array.size _ ≤ B
    rw [List.size_toArray, List.length_take, List.length_drop]
    have e : x.cps.toList.length = x.length := by simp [Str.length]
    have := h.1
    omega
  · have hc : c ∈ (x.cps.toList.drop (HT.sIx x.length 0 lo)).take (HT.sIx x.length x.length hi - HT.sIx x.length 0 lo) := by simpa using hc
    exact h.2 c (List.mem_of_mem_drop (List.mem_of_mem_take hc))
theorem Txs.one {c : Nat} (h : c < 0x110000) : Txs 1 ⟨#[c]⟩ := ⟨Nat.le_refl _, fun d hd => by
  have e : d = c := by simpa using hd
  rw [e]; exact h⟩
theorem Txs.at {B : Nat} {x : Str} (h : Txs B x) {i : Int} {c : Nat} (e : L2.atI x.cps.toList i = some c) : Txs 1 ⟨#[c]⟩ := by
  obtain ⟨j, _, hj, _⟩ := L2.atI_get e
  exact Txs.one (h.2 c (List.mem_of_getElem? hj))
theorem sum_le {B : Nat} : ∀ {zs : List Str}, (∀ z ∈ zs, Txs B z) → (zs.map (·.length)).sum ≤ zs.length * B
  | [], _ => by simp
  | z :: zs, h => by
    have h1 := (h z List.mem_cons_self).1
    have h2 := sum_le (B := B) fun y hy => h y (List.mem_cons_of_mem _ hy)
    rw [List.map_cons, List.sum_cons, List.length_cons, Nat.succ_mul]
    omega
theorem Txs.join {B C : Nat} {x : Str} {zs : List Str} (hx : Txs C x) (h : ∀ z ∈ zs, Txs B z) : Txs (zs.length * B + zs.length * C) (Txt.join x zs) := by
  rw [show Txt.join x zs = Str.join x zs from StrLaws.glued_eq_join x zs]
  refine ⟨?_, fun c hc => ?_⟩
  · have h1 := StrLaws.join_length_le x zs
    have h2 := sum_le h
    have h3 : zs.length * x.length ≤ zs.length * C := Nat.mul_le_mul_left _ hx.1
    omega
  · rcases (mem_join x c zs).mp hc with ⟨t, ht, hc⟩ | ⟨_, hc⟩
    · exact (h t ht).2 c hc
    · exact hx.2 c hc
theorem texts_tx {B : Nat} : ∀ {ys : List Dt}, (∀ y ∈ ys, tx B y) → ∃ zs, textsOf ys = some zs ∧ zs.length = ys.length ∧ ∀ z ∈ zs, Txs B z
  | [], _ => ⟨[], rfl, rfl, fun _ h => nomatch h⟩
  | y :: ys, h => by
    obtain ⟨x, rfl, hx⟩ := h y List.mem_cons_self
    obtain ⟨zs, e, l, a⟩ := texts_tx (ys := ys) fun z hz => h z (List.mem_cons_of_mem _ hz)
    refine ⟨x :: zs, ?_, by rw [List.length_cons, List.length_cons, l], fun z hz => (List.mem_cons.mp hz).elim (fun e => e ▸ hx) (a z)⟩
    show (textsOf ys).map (x :: ·) = _
    rw [e]
    rfl

/-! ### data that repr shows -/
def goodD (d : Dt) : Bool := d.showable && (d.leavesShort 45 && (decide (d.weight ≤ 300000) && decide (d.depth ≤ 50)))
theorem sh_of {d : Dt} (h : goodD d = true) : shOk d := by
  unfold goodD at h
  rw [Bool.and_eq_true, Bool.and_eq_true, Bool.and_eq_true, decide_eq_true_eq, decide_eq_true_eq] at h
  obtain ⟨h1, h2, h3, h4⟩ := h
  refine ⟨h1, ?_, by omega⟩
  have h5 := PyData.shown_le 45 (by decide) d h2
  have h6 : (45 + 2) * d.weight ≤ 47 * 300000 := Nat.mul_le_mul (Nat.le_refl _) h3
  rw [sizeLine_eq]
  omega
theorem oRepr_good {d : Dt} (h : goodD d = true) : oRepr [d] = ret (.str d.shown) := by
  show grd (shOk d) _ = _
  rw [grd_true (sh_of h)]
theorem good_str {B : Nat} {x : Str} (h : Txs B x) (hB : B ≤ 300000) : goodD (.str x) = true := by
  unfold goodD
  have e1 : (PyData.str x).showable = true := by simp [PyData.showable]
  have e2 : (PyData.str x).leavesShort 45 = true := by
    simp only [PyData.leavesShort, List.all_eq_true, decide_eq_true_eq]
    intro c hc
    have := h.2 c hc
    omega
  have e3 : (PyData.str x).weight ≤ 300000 := by
    have : (PyData.str x).weight = x.length := by simp [PyData.weight, Str.length]
    rw [this]
    exact Nat.le_trans h.1 hB
  have e4 : (PyData.str x).depth ≤ 50 := by simp [PyData.depth]
  rw [e1, e2, decide_eq_true e3, decide_eq_true e4]
  rfl
theorem canLay_texts {B : Nat} : ∀ {ys : List Dt}, (∀ y ∈ ys, tx B y) → PyData.canLayAll0 ys = true ∧ PyData.depthAll ys = 0
  | [], _ => ⟨rfl, rfl⟩
  | y :: ys, h => by
    obtain ⟨x, rfl, hx⟩ := h y List.mem_cons_self
    obtain ⟨h1, h2⟩ := canLay_texts (ys := ys) fun z hz => h z (List.mem_cons_of_mem _ hz)
    have e : PyData.strOk x = true := by
      unfold PyData.strOk
      rw [← Array.all_toList, List.all_eq_true]
      exact fun c hc => decide_eq_true (hx.2 c hc)
    simp only [PyData.canLayAll0, PyData.canLay0, PyData.depthAll, PyData.depth, e, h1, h2]
    exact ⟨rfl, rfl⟩
theorem shaped_texts {B : Nat} {ys : List Dt} (h : ∀ y ∈ ys, tx B y) : SeqAt.shaped (.list ys) = true := by
  obtain ⟨h1, h2⟩ := canLay_texts h
  unfold SeqAt.shaped
  simp only [PyData.canLay0, PyData.depth, h1, h2]
  rfl
/-- the law's last word: nothing is left over -/
theorem oEq_none : oEq (.list []) (.list []) = ret (.bool true) := oEq_nil []
theorem fold_rep (a : Array Nat) : ∀ (n : Nat) (acc : Array Nat), ((List.replicate n a).foldl (· ++ ·) acc).size = acc.size + n * a.size ∧ ∀ c ∈ ((List.replicate n a).foldl (· ++ ·) acc).toList, c ∈ acc.toList ∨ c ∈ a.toList
  | 0, acc => ⟨by simp, fun c h => .inl (by simpa using h)⟩
  | n + 1, acc => by
    rw [List.replicate_succ, List.foldl_cons]
    obtain ⟨h1, h2⟩ := fold_rep a n (acc ++ a)
    refine ⟨by rw [h1, Array.size_append, Nat.succ_mul]; omega, fun c hc => ?_⟩
    rcases h2 c hc with z | z
    · rw [Array.toList_append, List.mem_append] at z
      exact z
    · exact .inr z
theorem Txs.mul {B : Nat} {x : Str} (h : Txs B x) (k : Int) : Txs (k.toNat * B) (Txt.mul x k) := by
  unfold Txt.mul
  by_cases h1 : k < 1
  · rw [if_pos h1]
    exact ⟨Nat.zero_le _, fun c hc => by cases hc⟩
  · rw [if_neg h1]
    by_cases h2 : (k == 1 || x.length == 0) = true
    · rw [if_pos h2]
      refine h.more ?_
      have : 1 * B ≤ k.toNat * B := Nat.mul_le_mul_right _ (by omega)
      omega
    · rw [if_neg h2]
      obtain ⟨e1, e2⟩ := fold_rep x.cps k.toNat #[]
      refine ⟨?_, fun c hc => ?_⟩
      · show Array.size _ ≤ _
        rw [e1]
        have : k.toNat * x.cps.size ≤ k.toNat * B := Nat.mul_le_mul_left _ h.1
        simpa using this
      · rcases e2 c hc with z | z
        · cases z
        · exact h.2 c z
end Dl
namespace Dl
open PySem PySem.Spec L2
open PyProof.Rows hiding St

/-! ### max(xs, default=d), whole numbers -/
def maxOr (d : Int) : List Int → Int
  | [] => d
  | n :: ns => ns.foldl max n
def rMaxDef (K : PySem.W.Frag) : List V → List V → Hp → VK → Prop := fun xs zs H Q => ∃ (a : Addr) (ns : List Int) (d : Int), xs = [.ref a] ∧ zs = [.int d] ∧ SqL K H a (ns.map V.int) ∧ Q (.int (maxOr d ns)) H
theorem depth_ints : ∀ ns : List Int, PyData.depthAll (ns.map PyData.int) = 0
  | [] => rfl
  | n :: ns => by
    rw [List.map_cons, PyData.depthAll, depth_ints ns]
    rfl
theorem alike_ints (ns : List Int) : PySem.W.AlikeAll (ns.map PyData.int) := by
  refine ⟨fun x hx y hy => ?_, fun x hx => ?_⟩
  · obtain ⟨i, _, rfl⟩ := List.mem_map.mp hx
    obtain ⟨j, _, rfl⟩ := List.mem_map.mp hy
    simp [PySem.W.alike]
  · obtain ⟨i, _, rfl⟩ := List.mem_map.mp hx
    exact fun z => nomatch z
theorem cr_maxDef {X : Cx} (hc : X.calm = true) (hu : X.A.units + 64 < cLine) : CallRK X (.builtin "max") [Str.ofString "default"] (rMaxDef X.K) := by
  intro pins s σ H xs zs us ws Q I r rz h
  obtain ⟨a, ns, d, rfl, rfl, hs, q⟩ := h
  obtain ⟨its, rv, hl, _⟩ := I.list hs
  have e1 := Vals.ref1 r
  subst e1
  obtain ⟨u, rfl, t, rfl⟩ := vals1 rz
  obtain ⟨as, rd⟩ := Dp.readsAll I _ _ _ (dp_ints ns) rv
  refine PySem.W.max_list_default (vs := its.toArray) (I.ok.hd hc) hl.isList (by simpa using rd) (alike_ints ns) (by rw [depth_ints]; omega) (fun e h' tk hk => ?_) (fun y ys i v h' tk bs e hv rd' hk => ?_)
  · have z : ns = [] := by simpa using e
    subst z
    exact ⟨.int d, H, I.kept hk, ⟨t, rfl⟩, q⟩
  · cases ns with
    | nil => cases e
    | cons n ns =>
      rw [List.map_cons] at e
      cases e
      rw [PySem.W.maxD_ints] at rd'
      cases rd'
      exact ⟨.int _, H, I.kept hk, ⟨_, rfl⟩, q⟩
section
variable {X : Cx} {g : Gh} {a b : Expr} {pos p kpos : Pos} {ma mb : Me Dt}
def oMaxDef (x d : Dt) : Mv Dt := match x, d with
  | .list ds, .int i => (match intsOf ds with | some ns => ret (.int (maxOr i ns)) | none => bad)
  | _, _ => bad
theorem de_maxD (hx : X.calm = true) (hu : X.A.units + 64 < cLine) (hm : X.mg "max" = none) (ha : DX X g a ma) (hb : DE X g b mb) (hg : Gl X "max" := by rfl)
    (h1 : starEach [a] X.env = (false, eval a X.env) :: starEach [] X.env := by rfl) (he : backTo pos (starEach [a] X.env) = (false, eval a X.env) :: backTo pos (starEach [] X.env) := by rfl) (hpl : (backTo pos (starEach [a] X.env)).any (·.1) = false := by rfl)
    (hall : (backToKw pos (keywordEach [⟨some "default", b, kpos⟩] X.env)).all (·.1.isSome) = true := by rfl) (hnone : (backToKw pos (keywordEach [⟨some "default", b, kpos⟩] X.env)).any (·.1.isNone) = false := by rfl) (hks : (backToKw pos (keywordEach [⟨some "default", b, kpos⟩] X.env)).filterMap (·.1) = [Str.ofString "default"] := by rfl) :
    DE X g (.Call (.Name "max" p) [a] [⟨some "default", b, kpos⟩] pos) (fun δ => bnd (ma δ) fun x => bnd (mb δ) fun d => oMaxDef x d) := by
  obtain ⟨t, pt, ha⟩ := ha
  obtain ⟨u, pu, hb⟩ := hb
  refine ⟨_, pe_callBK (cr_maxDef hx hu) hg hm rfl (pa_cons pt pa_nil h1) (pk_cons pu pk_nil) (by decide) (by decide) he hpl hall hnone hks, fun σ H F δ n Q Qd R q w => ?_⟩
  refine ha σ H F δ n _ _ R (fun v d F1 H1 n1 rb rp hq => ?_) w
  refine hb σ H1 F1 δ n1 _ _ (R.ext rb) (fun v2 d2 F2 H2 n2 rb2 rp2 hq2 => ?_) hq
  cases d <;> cases d2 <;> first | exact hq2.elim | skip
  rename_i ds i
  cases rp2
  have hq3 : (match intsOf ds with | some ns => ret (.int (maxOr i ns)) | none => bad : Mv Dt) n2 Qd g.W := hq2
  cases e : intsOf ds with
  | none => rw [e] at hq3; exact hq3.elim
  | some ns =>
    rw [e] at hq3
    obtain ⟨l, vs, rfl, h3, r3⟩ := (rp.ext rb2).lst rb2.sub
    rw [intsOf_eq e] at r3
    rw [r3.ints] at h3
    exact ⟨l, ns, i, rfl, rfl, SqL.of h3, q _ _ F2 H2 n2 (rb.trans rb2) (.int _) hq3⟩
end

/-! ### a head that tells one more thing -/
def obsY (n : Nat) (fa : List He.Fa) (fn : List He.DefD) (ex : PySem.W.Frag → Bool) (g : Addr → Option Obj) : He.AlD × Bool := (He.obsD fa fn (He.frG g (He.asD g n)), ex (He.frG g (He.asD g n)))
def hookY (n : Nat) (fa : List He.Fa) (fn : List He.DefD) (ex : PySem.W.Frag → Bool) : PySem.W.Hook where
  α := He.AlD × Bool
  obs := fun s => obsY n fa fn ex s.heap.get?
  val := fun _ => (He.valD fn, true)
  says := fun _ h => ∃ K : PySem.W.Frag, K.In h ∧ (He.SaysD fa fn K ∧ ex K = true)
  of := fun _ _ e => ⟨_, He.frG_in, congrArg Prod.fst e, congrArg Prod.snd e⟩
  keeps := fun _ _ _ ⟨K, hK, c⟩ k => ⟨K, PySem.W.Frag.In.keeps hK k, c⟩
theorem obsY_eq {n : Nat} {fa : List He.Fa} {fn : List He.DefD} {ex : PySem.W.Frag → Bool} {g : Addr → Option Obj} {s : Shared} (h : ∀ a, g a = s.heap.get? a) : obsY n fa fn ex g = (hookY n fa fn ex).obs s := by
  have e : g = s.heap.get? := funext h
  subst e
  rfl
/-- a tuple of the top, of flat constants -/
theorem RpAll.flat {K : PySem.W.Frag} {F : Hp} : ∀ {vs : List V} {ds : List Dt}, (∀ p ∈ vs.zip ds, Rp K F p.1 p.2) → vs.length = ds.length → RpAll K F vs ds
  | [], [], _, _ => .nil
  | v :: vs, d :: ds, h, l => .cons (h (v, d) List.mem_cons_self) (RpAll.flat (fun p hp => h p (List.mem_cons_of_mem _ hp)) (Nat.succ.inj l))
  | [], _ :: _, _, l => by cases l
  | _ :: _, [], _, l => by cases l
end Dl
namespace Dl
open PySem PySem.Spec L2
open PyProof.Rows hiding St
/-! ### what repr shows tells the datum -/
abbrev cp (x : Str) : List Nat := x.cps.toList
theorem cp_cat (a b : Str) : cp (a ++ b) = cp a ++ cp b := cps_toList_append a b
theorem cp_inj {a b : Str} (h : cp a = cp b) : a = b := by
  obtain ⟨a⟩ := a
  obtain ⟨b⟩ := b
  have e : a = b := Array.toList_inj.mp h
  rw [e]
/-- plain signs: a line end, a blank to a tilde -/
def ascC (c : Nat) : Bool := c == 10 || (decide (32 ≤ c) && decide (c ≤ 126))
mutual
def asc : Dt → Bool
  | .none => true
  | .bool _ => true
  | .int _ => true
  | .str x => (cp x).all ascC
  | .list xs => ascs xs
  | .tuple xs => ascs xs
  | .dict es => ascK es
def ascs : List Dt → Bool
  | [] => true
  | x :: xs => asc x && ascs xs
def ascK : List (Dt × Dt) → Bool
  | [] => true
  | (k, v) :: r => asc k && asc v && ascK r
end
/-- what may stand behind a shown datum -/
def Dlm (s : List Nat) : Prop := ∀ c r, s = c :: r → c = 44 ∨ c = 41 ∨ c = 93 ∨ c = 125 ∨ c = 58
theorem dlm_nil : Dlm [] := fun _ _ e => nomatch e
theorem dlm_cons {c : Nat} {r : List Nat} (h : c = 44 ∨ c = 41 ∨ c = 93 ∨ c = 125 ∨ c = 58) : Dlm (c :: r) := fun _ _ e => by
  cases e
  exact h

/-! numbers -/
theorem split_at {ok : Nat → Prop} : ∀ {a b s t : List Nat}, (∀ c ∈ a, ok c) → (∀ c ∈ b, ok c) → (∀ c r, s = c :: r → ¬ ok c) → (∀ c r, t = c :: r → ¬ ok c) → a ++ s = b ++ t → a = b ∧ s = t
  | [], [], _, _, _, _, _, _, e => ⟨rfl, e⟩
  | [], b :: bs, s, t, _, hb, hs, _, e => absurd (hb b List.mem_cons_self) (hs b (bs ++ t) e)
  | a :: as, [], s, t, ha, _, _, ht, e => absurd (ha a List.mem_cons_self) (ht a (as ++ s) e.symm)
  | a :: as, b :: bs, s, t, ha, hb, hs, ht, e => by
    have e : a :: (as ++ s) = b :: (bs ++ t) := e
    obtain ⟨e1, e2⟩ := List.cons.inj e
    obtain ⟨h1, h2⟩ := split_at (fun c hc => ha c (List.mem_cons_of_mem _ hc)) (fun c hc => hb c (List.mem_cons_of_mem _ hc)) hs ht e2
    exact ⟨by rw [e1, h1], h2⟩
def numC (c : Nat) : Prop := c = 45 ∨ (48 ≤ c ∧ c ≤ 57)
theorem int_numC (i : Int) : ∀ c ∈ cp (PyData.int i).shown, numC c := fun c hc => by
  by_cases h : numC c
  · exact h
  · have h : ¬ (c = 45 ∨ (48 ≤ c ∧ c ≤ 57)) := h
    exact absurd hc (shown_int_free' (by omega) i)
theorem int_inj {i j : Int} (h : cp (PyData.int i).shown = cp (PyData.int j).shown) : i = j := by
  have e : (toString i).toList.map Char.toNat = (toString j).toList.map Char.toNat := by
    have h : (Str.ofString (toString i)).cps.toList = (Str.ofString (toString j)).cps.toList := h
    rw [signs_ofString, signs_ofString] at h
    exact h
  have inj : ∀ {l m : List Char}, l.map Char.toNat = m.map Char.toNat → l = m := fun {l} => by
    induction l with
    | nil => intro m q; cases m with
      | nil => rfl
      | cons _ _ => cases q
    | cons x l ih => intro m q; cases m with
      | nil => cases q
      | cons y m =>
        rw [List.map_cons, List.map_cons] at q
        obtain ⟨q1, q2⟩ := List.cons.inj q
        have hx : x = y := by
          apply Char.ext
          have : x.val.toNat = y.val.toNat := q1
          exact UInt32.toNat_inj.mp this
        rw [hx, ih q2]
  have e2 : toString i = toString j := String.toList_inj.mp (inj e)
  rw [Int.toString_eq_repr, Int.toString_eq_repr] at e2
  exact Int.repr_inj.mp e2
theorem dlm_num {s : List Nat} (h : Dlm s) : ∀ c r, s = c :: r → ¬ numC c := fun c r e z => by
  have z : c = 45 ∨ (48 ≤ c ∧ c ≤ 57) := z
  rcases h c r e with h | h | h | h | h <;> omega
theorem int_ne (i : Int) : ∃ c r, cp (PyData.int i).shown = c :: r ∧ numC c := by
  cases e : cp (PyData.int i).shown with
  | nil =>
    exfalso
    have h1 : i ≠ 0 ∨ i = 0 := by omega
    have h2 : cp (PyData.int i).shown = cp (PyData.int i).shown := rfl
    have h3 : (toString i).toList.map Char.toNat = [] := by
      have h : (Str.ofString (toString i)).cps.toList = [] := e
      rw [signs_ofString] at h
      exact h
    have h4 : (toString i).toList = [] := List.map_eq_nil_iff.mp h3
    cases i with
    | ofNat n =>
      have h5 := TL.numL_ne n
      have h6 : (toString (Int.ofNat n)) = Nat.repr n := rfl
      rw [h6] at h4
      apply h5
      unfold TL.numL
      rw [List.map_eq_nil_iff]
      rw [← h4]
      simp [Nat.repr]
    | negSucc n =>
      have h6 : toString (Int.negSucc n) = "-" ++ Nat.repr (n + 1) := rfl
      rw [h6] at h4
      simp at h4
  | cons c r =>
    exact ⟨c, r, rfl, int_numC i c (by rw [e]; exact List.mem_cons_self)⟩

/-! texts -/
theorem fold_body (q : Nat) : ∀ (l : List Nat) (acc : Array Nat), (l.foldl (fun out c => out ++ (Builtin.Str.reprChar q c).toArray) acc).toList = acc.toList ++ l.flatMap (Builtin.Str.reprChar q)
  | [], acc => by simp
  | c :: l, acc => by
    rw [List.foldl_cons, fold_body q l, Array.toList_append, List.flatMap_cons, List.append_assoc]
theorem cp_repr (x : Str) : cp (reprText x) = reprQuote x :: ((cp x).flatMap (Builtin.Str.reprChar (reprQuote x)) ++ [reprQuote x]) := by
  unfold reprText
  show ((x.cps.foldl _ #[reprQuote x]).push (reprQuote x)).toList = _
  rw [Array.toList_push, ← Array.foldl_toList, fold_body]
  rfl
theorem printable_asc : ∀ c : Nat, c < 127 → 32 ≤ c → Unicode.isPrintable c = true := by decide +kernel
/-- a plain sign in a shown text -/
theorem repr_asc {q c : Nat} (h : ascC c = true) : (Builtin.Str.reprChar q c = [92, c] ∧ (c = q ∨ c = 92)) ∨ (Builtin.Str.reprChar q c = [92, 110] ∧ c = 10 ∧ c ≠ q) ∨ (Builtin.Str.reprChar q c = [c] ∧ c ≠ q ∧ c ≠ 92) := by
  unfold Builtin.Str.reprChar
  by_cases h1 : (c == q || c == 92) = true
  · left
    rw [if_pos h1]
    exact ⟨rfl, by simpa using h1⟩
  · rw [if_neg h1]
    have h1 : ¬ (c = q) ∧ ¬ (c = 92) := by simpa using h1
    by_cases h2 : (c == 10) = true
    · right; left
      rw [if_pos h2]
      exact ⟨rfl, by simpa using h2, h1.1⟩
    · right; right
      have h2' : ¬ c = 10 := by simpa using h2
      have h : 32 ≤ c ∧ c ≤ 126 := by
        unfold ascC at h
        simp only [Bool.or_eq_true, beq_iff_eq, Bool.and_eq_true, decide_eq_true_eq] at h
        rcases h with h | h
        · exact absurd h h2'
        · exact h
      rw [if_neg h2, if_neg (by simp; omega), if_neg (by simp; omega), if_pos (printable_asc c (by omega) h.1)]
      exact ⟨rfl, h1.1, h1.2⟩
theorem body_inj {q : Nat} (hq : q = 39 ∨ q = 34) : ∀ {l m s t : List Nat}, l.all ascC = true → m.all ascC = true → l.flatMap (Builtin.Str.reprChar q) ++ q :: s = m.flatMap (Builtin.Str.reprChar q) ++ q :: t → l = m ∧ s = t
  | [], [], s, t, _, _, e => ⟨rfl, (List.cons.inj e).2⟩
  | [], c :: m, s, t, _, hm, e => by
    exfalso
    rw [List.all_cons, Bool.and_eq_true] at hm
    rw [List.flatMap_cons] at e
    rcases repr_asc (q := q) hm.1 with ⟨h, _⟩ | ⟨h, _⟩ | ⟨h, h2, _⟩
    · rw [h] at e
      have := (List.cons.inj e).1
      omega
    · rw [h] at e
      have := (List.cons.inj e).1
      omega
    · rw [h] at e
      exact h2 (List.cons.inj e).1.symm
  | c :: l, [], s, t, hl, _, e => by
    exfalso
    rw [List.all_cons, Bool.and_eq_true] at hl
    rw [List.flatMap_cons] at e
    rcases repr_asc (q := q) hl.1 with ⟨h, _⟩ | ⟨h, _⟩ | ⟨h, h2, _⟩
    · rw [h] at e
      have := (List.cons.inj e).1
      omega
    · rw [h] at e
      have := (List.cons.inj e).1
      omega
    · rw [h] at e
      exact h2 (List.cons.inj e).1
  | c :: l, d :: m, s, t, hl, hm, e => by
    rw [List.all_cons, Bool.and_eq_true] at hl hm
    rw [List.flatMap_cons, List.flatMap_cons, List.append_assoc, List.append_assoc] at e
    have go : c = d → l.flatMap (Builtin.Str.reprChar q) ++ q :: s = m.flatMap (Builtin.Str.reprChar q) ++ q :: t → c :: l = d :: m ∧ s = t := fun e1 e2 => by
      obtain ⟨h1, h2⟩ := body_inj hq hl.2 hm.2 e2
      exact ⟨by rw [e1, h1], h2⟩
    rcases repr_asc (q := q) hl.1 with ⟨h, h'⟩ | ⟨h, h', h''⟩ | ⟨h, h', h''⟩ <;> rcases repr_asc (q := q) hm.1 with ⟨g, g'⟩ | ⟨g, g', g''⟩ | ⟨g, g', g''⟩ <;> rw [h, g] at e
    · obtain ⟨_, e⟩ := List.cons.inj e
      obtain ⟨e1, e2⟩ := List.cons.inj e
      exact go e1 e2
    · obtain ⟨_, e⟩ := List.cons.inj e
      obtain ⟨e1, e2⟩ := List.cons.inj e
      omega
    · obtain ⟨e1, e⟩ := List.cons.inj e
      exact absurd e1.symm g''
    · obtain ⟨_, e⟩ := List.cons.inj e
      obtain ⟨e1, e2⟩ := List.cons.inj e
      omega
    · obtain ⟨_, e⟩ := List.cons.inj e
      obtain ⟨e1, e2⟩ := List.cons.inj e
      exact go (by rw [h', g']) e2
    · obtain ⟨e1, e⟩ := List.cons.inj e
      exact absurd e1.symm g''
    · obtain ⟨e1, e⟩ := List.cons.inj e
      exact absurd e1 h''
    · obtain ⟨e1, e⟩ := List.cons.inj e
      exact absurd e1 h''
    · obtain ⟨e1, e⟩ := List.cons.inj e
      exact go e1 e
theorem quote_is (x : Str) : reprQuote x = 39 ∨ reprQuote x = 34 := by
  unfold reprQuote
  split
  · exact .inr rfl
  · exact .inl rfl
theorem text_inj {x y : Str} {s t : List Nat} (hx : (cp x).all ascC = true) (hy : (cp y).all ascC = true) (e : cp (reprText x) ++ s = cp (reprText y) ++ t) : x = y ∧ s = t := by
  rw [cp_repr, cp_repr] at e
  obtain ⟨e1, e2⟩ := List.cons.inj (show reprQuote x :: (((cp x).flatMap (Builtin.Str.reprChar (reprQuote x)) ++ [reprQuote x]) ++ s) = reprQuote y :: (((cp y).flatMap (Builtin.Str.reprChar (reprQuote y)) ++ [reprQuote y]) ++ t) from e)
  rw [← e1, List.append_assoc, List.append_assoc] at e2
  obtain ⟨h1, h2⟩ := body_inj (quote_is x) hx hy e2
  exact ⟨cp_inj h1, h2⟩

/-! lists, tuples -/
def tailS : List Dt → List Nat
  | [] => []
  | x :: xs => 44 :: 32 :: (cp x.shown ++ tailS xs)
def headS : List Dt → List Nat
  | [] => []
  | x :: xs => cp x.shown ++ tailS xs
theorem join_tail : ∀ (x : Dt) (xs : List Dt), cp (Str.join ", " (PyData.shownAll (x :: xs))) = cp x.shown ++ tailS xs
  | x, [] => by
    show cp x.shown = _
    rw [tailS, List.append_nil]
  | x, y :: xs => by
    show cp (x.shown ++ ", " ++ Str.join ", " (PyData.shownAll (y :: xs))) = _
    rw [cp_cat, cp_cat, join_tail y xs, tailS, List.append_assoc]
    rfl
theorem join_head (xs : List Dt) : cp (Str.join ", " (PyData.shownAll xs)) = headS xs := by
  cases xs with
  | nil => rfl
  | cons x xs => exact join_tail x xs
theorem cp_list (xs : List Dt) : cp (PyData.list xs).shown = 91 :: (headS xs ++ [93]) := by
  rw [PyData.shown, listText_eq_join, cp_cat, cp_cat, join_head]
  rfl
theorem cp_tuple (xs : List Dt) : cp (PyData.tuple xs).shown = 40 :: (headS xs ++ (if xs.length = 1 then [44, 41] else [41])) := by
  rw [PyData.shown]
  unfold tupleText
  rw [cp_cat, cp_cat, join_head, PyData.shownAll_length]
  by_cases h : xs.length = 1
  · rw [if_pos h, if_pos (by simpa using h)]
    rfl
  · rw [if_neg h, if_neg (by simpa using h)]
    rfl
theorem cp_dict (es : List (Dt × Dt)) : ∃ r, cp (PyData.dict es).shown = 123 :: r := by
  rw [PyData.shown]
  unfold dictText
  rw [cp_cat, cp_cat]
  exact ⟨_, rfl⟩
/-- the first sign tells the kind -/
def kindC : Dt → Nat → Prop
  | .none, c => c = 78
  | .bool true, c => c = 84
  | .bool false, c => c = 70
  | .int _, c => numC c
  | .str _, c => c = 39 ∨ c = 34
  | .list _, c => c = 91
  | .tuple _, c => c = 40
  | .dict _, c => c = 123
theorem first_of (d : Dt) : ∃ c r, cp d.shown = c :: r ∧ kindC d c := by
  cases d with
  | none => exact ⟨78, _, rfl, rfl⟩
  | bool b =>
    cases b with
    | true => exact ⟨84, _, rfl, rfl⟩
    | false => exact ⟨70, _, rfl, rfl⟩
  | int i => exact int_ne i
  | str x => exact ⟨_, _, cp_repr x, quote_is x⟩
  | list xs => exact ⟨_, _, cp_list xs, rfl⟩
  | tuple xs => exact ⟨_, _, cp_tuple xs, rfl⟩
  | dict es => obtain ⟨r, e⟩ := cp_dict es; exact ⟨_, r, e, rfl⟩
theorem first_not {d : Dt} {c : Nat} {s r : List Nat} (e : cp d.shown ++ s = c :: r) : kindC d c := by
  obtain ⟨c', r', h1, h2⟩ := first_of d
  rw [h1] at e
  have := (List.cons.inj e).1
  rw [← this]
  exact h2
def Cls2 (s : List Nat) : Prop := ∃ r, s = 93 :: r ∨ s = 41 :: r ∨ s = 44 :: 41 :: r
theorem Cls2.dlm {s : List Nat} (h : Cls2 s) : Dlm s := by
  obtain ⟨r, rfl | rfl | rfl⟩ := h <;> exact dlm_cons (by omega)
theorem tail_dlm (xs : List Dt) {s : List Nat} (h : Cls2 s) : Dlm (tailS xs ++ s) := by
  cases xs with
  | nil => exact h.dlm
  | cons x xs => exact dlm_cons (.inl rfl)
theorem cls_end (xs : List Dt) (s : List Nat) : Cls2 ((if xs.length = 1 then [44, 41] else [41]) ++ s) := by
  by_cases h : xs.length = 1
  · rw [if_pos h]; exact ⟨s, .inr (.inr rfl)⟩
  · rw [if_neg h]; exact ⟨s, .inr (.inl rfl)⟩
theorem tail_cls {x : Dt} {xs : List Dt} {s t : List Nat} (h : Cls2 s) (e : s = tailS (x :: xs) ++ t) : False := by
  have e : s = 44 :: 32 :: (cp x.shown ++ tailS xs ++ t) := e
  obtain ⟨r, h | h | h⟩ := h <;> rw [h] at e
  · exact absurd (List.cons.inj e).1 (by decide)
  · exact absurd (List.cons.inj e).1 (by decide)
  · exact absurd (List.cons.inj (List.cons.inj e).2).1 (by decide)
theorem kind_not {d : Dt} {c : Nat} (h : kindC d c) : c ≠ 93 ∧ c ≠ 41 ∧ c ≠ 44 := by
  cases d with
  | bool b => cases b <;> (have h : c = _ := h; omega)
  | int _ => have h : c = 45 ∨ (48 ≤ c ∧ c ≤ 57) := h; omega
  | str _ => have h : c = 39 ∨ c = 34 := h; omega
  | none => have h : c = 78 := h; omega
  | list _ => have h : c = 91 := h; omega
  | tuple _ => have h : c = 40 := h; omega
  | dict _ => have h : c = 123 := h; omega
theorem cls_not {s r : List Nat} {d : Dt} (h : Cls2 s) (e : s = cp d.shown ++ r) : False := by
  obtain ⟨q, h | h | h⟩ := h <;> (rw [h] at e; have k := kind_not (first_not e.symm); omega)
mutual
theorem shown_read : ∀ (d e : Dt) (s t : List Nat), asc d = true → d.hasDict = false → asc e = true → Dlm s → Dlm t → cp d.shown ++ s = cp e.shown ++ t → d = e ∧ s = t
  | d, e, s, t, hd, hn, he, hs, ht, h => by
    have k1 : ∃ c r, cp e.shown ++ t = c :: r ∧ kindC e c := by
      obtain ⟨c, r, h1, h2⟩ := first_of e
      exact ⟨c, r ++ t, by rw [h1]; rfl, h2⟩
    obtain ⟨c, r, k2, k3⟩ := k1
    have k4 : kindC d c := first_not (h.trans k2)
    match d, e with
    | .none, .none => exact ⟨rfl, List.append_cancel_left h⟩
    | .bool true, .bool true => exact ⟨rfl, List.append_cancel_left h⟩
    | .bool false, .bool false => exact ⟨rfl, List.append_cancel_left h⟩
    | .int i, .int j =>
      obtain ⟨h1, h2⟩ := split_at (int_numC i) (int_numC j) (dlm_num hs) (dlm_num ht) h
      exact ⟨by rw [int_inj h1], h2⟩
    | .str x, .str y =>
      obtain ⟨h1, h2⟩ := text_inj (by simpa only [asc] using hd) (by simpa only [asc] using he) h
      exact ⟨by rw [h1], h2⟩
    | .list xs, .list ys =>
      rw [cp_list, cp_list] at h
      obtain ⟨_, h⟩ := List.cons.inj (show 91 :: ((headS xs ++ [93]) ++ s) = 91 :: ((headS ys ++ [93]) ++ t) from h)
      rw [List.append_assoc, List.append_assoc] at h
      obtain ⟨h1, h2⟩ := head_read xs ys ([93] ++ s) ([93] ++ t) (by simpa only [asc] using hd) (by simpa only [PyData.hasDict] using hn) (by simpa only [asc] using he) ⟨s, .inl rfl⟩ ⟨t, .inl rfl⟩ h
      exact ⟨by rw [h1], List.append_cancel_left h2⟩
    | .tuple xs, .tuple ys =>
      rw [cp_tuple, cp_tuple] at h
      obtain ⟨_, h⟩ := List.cons.inj (show 40 :: ((headS xs ++ _) ++ s) = 40 :: ((headS ys ++ _) ++ t) from h)
      rw [List.append_assoc, List.append_assoc] at h
      obtain ⟨h1, h2⟩ := head_read xs ys _ _ (by simpa only [asc] using hd) (by simpa only [PyData.hasDict] using hn) (by simpa only [asc] using he) (cls_end xs s) (cls_end ys t) h
      rw [h1] at h2
      exact ⟨by rw [h1], List.append_cancel_left h2⟩
    | .dict es, _ => rw [PyData.hasDict] at hn; cases hn
    | .none, .bool b => cases b <;> (have k3 : c = _ := k3; have k4 : c = _ := k4; omega)
    | .none, .int _ => have k3 : c = 45 ∨ (48 ≤ c ∧ c ≤ 57) := k3; have k4 : c = 78 := k4; omega
    | .none, .str _ => have k3 : c = 39 ∨ c = 34 := k3; have k4 : c = 78 := k4; omega
    | .none, .list _ => have k3 : c = 91 := k3; have k4 : c = 78 := k4; omega
    | .none, .tuple _ => have k3 : c = 40 := k3; have k4 : c = 78 := k4; omega
    | .none, .dict _ => have k3 : c = 123 := k3; have k4 : c = 78 := k4; omega
    | .bool b, .none => cases b <;> (have k3 : c = _ := k3; have k4 : c = _ := k4; omega)
    | .bool true, .bool false => have k3 : c = 70 := k3; have k4 : c = 84 := k4; omega
    | .bool false, .bool true => have k3 : c = 84 := k3; have k4 : c = 70 := k4; omega
    | .bool b, .int _ => have k3 : c = 45 ∨ (48 ≤ c ∧ c ≤ 57) := k3; cases b <;> (have k4 : c = _ := k4; omega)
    | .bool b, .str _ => have k3 : c = 39 ∨ c = 34 := k3; cases b <;> (have k4 : c = _ := k4; omega)
    | .bool b, .list _ => have k3 : c = 91 := k3; cases b <;> (have k4 : c = _ := k4; omega)
    | .bool b, .tuple _ => have k3 : c = 40 := k3; cases b <;> (have k4 : c = _ := k4; omega)
    | .bool b, .dict _ => have k3 : c = 123 := k3; cases b <;> (have k4 : c = _ := k4; omega)
    | .int _, .none => have k4 : c = 45 ∨ (48 ≤ c ∧ c ≤ 57) := k4; have k3 : c = 78 := k3; omega
    | .int _, .bool b => have k4 : c = 45 ∨ (48 ≤ c ∧ c ≤ 57) := k4; cases b <;> (have k3 : c = _ := k3; omega)
    | .int _, .str _ => have k4 : c = 45 ∨ (48 ≤ c ∧ c ≤ 57) := k4; have k3 : c = 39 ∨ c = 34 := k3; omega
    | .int _, .list _ => have k4 : c = 45 ∨ (48 ≤ c ∧ c ≤ 57) := k4; have k3 : c = 91 := k3; omega
    | .int _, .tuple _ => have k4 : c = 45 ∨ (48 ≤ c ∧ c ≤ 57) := k4; have k3 : c = 40 := k3; omega
    | .int _, .dict _ => have k4 : c = 45 ∨ (48 ≤ c ∧ c ≤ 57) := k4; have k3 : c = 123 := k3; omega
    | .str _, .none => have k4 : c = 39 ∨ c = 34 := k4; have k3 : c = 78 := k3; omega
    | .str _, .bool b => have k4 : c = 39 ∨ c = 34 := k4; cases b <;> (have k3 : c = _ := k3; omega)
    | .str _, .int _ => have k4 : c = 39 ∨ c = 34 := k4; have k3 : c = 45 ∨ (48 ≤ c ∧ c ≤ 57) := k3; omega
    | .str _, .list _ => have k4 : c = 39 ∨ c = 34 := k4; have k3 : c = 91 := k3; omega
    | .str _, .tuple _ => have k4 : c = 39 ∨ c = 34 := k4; have k3 : c = 40 := k3; omega
    | .str _, .dict _ => have k4 : c = 39 ∨ c = 34 := k4; have k3 : c = 123 := k3; omega
    | .list _, .none => have k4 : c = 91 := k4; have k3 : c = 78 := k3; omega
    | .list _, .bool b => have k4 : c = 91 := k4; cases b <;> (have k3 : c = _ := k3; omega)
    | .list _, .int _ => have k4 : c = 91 := k4; have k3 : c = 45 ∨ (48 ≤ c ∧ c ≤ 57) := k3; omega
    | .list _, .str _ => have k4 : c = 91 := k4; have k3 : c = 39 ∨ c = 34 := k3; omega
    | .list _, .tuple _ => have k4 : c = 91 := k4; have k3 : c = 40 := k3; omega
    | .list _, .dict _ => have k4 : c = 91 := k4; have k3 : c = 123 := k3; omega
    | .tuple _, .none => have k4 : c = 40 := k4; have k3 : c = 78 := k3; omega
    | .tuple _, .bool b => have k4 : c = 40 := k4; cases b <;> (have k3 : c = _ := k3; omega)
    | .tuple _, .int _ => have k4 : c = 40 := k4; have k3 : c = 45 ∨ (48 ≤ c ∧ c ≤ 57) := k3; omega
    | .tuple _, .str _ => have k4 : c = 40 := k4; have k3 : c = 39 ∨ c = 34 := k3; omega
    | .tuple _, .list _ => have k4 : c = 40 := k4; have k3 : c = 91 := k3; omega
    | .tuple _, .dict _ => have k4 : c = 40 := k4; have k3 : c = 123 := k3; omega
theorem head_read : ∀ (xs ys : List Dt) (s t : List Nat), ascs xs = true → PyData.hasDictAll xs = false → ascs ys = true → Cls2 s → Cls2 t → headS xs ++ s = headS ys ++ t → xs = ys ∧ s = t
  | [], [], s, t, _, _, _, _, _, h => ⟨rfl, h⟩
  | [], y :: ys, s, t, _, _, _, hs, _, h => by
    exfalso
    have h : s = cp y.shown ++ tailS ys ++ t := h
    rw [List.append_assoc] at h
    exact cls_not hs h
  | x :: xs, [], s, t, _, _, _, _, ht, h => by
    exfalso
    have h : cp x.shown ++ tailS xs ++ s = t := h
    rw [List.append_assoc] at h
    exact cls_not ht h.symm
  | x :: xs, y :: ys, s, t, hx, hn, hy, hs, ht, h => by
    have hx' : asc x = true ∧ ascs xs = true := by simpa only [ascs, Bool.and_eq_true] using hx
    have hy' : asc y = true ∧ ascs ys = true := by simpa only [ascs, Bool.and_eq_true] using hy
    have hn' : x.hasDict = false ∧ PyData.hasDictAll xs = false := by simpa only [PyData.hasDictAll, Bool.or_eq_false_iff] using hn
    have h : cp x.shown ++ tailS xs ++ s = cp y.shown ++ tailS ys ++ t := h
    rw [List.append_assoc, List.append_assoc] at h
    obtain ⟨h1, h2⟩ := shown_read x y _ _ hx'.1 hn'.1 hy'.1 (tail_dlm xs hs) (tail_dlm ys ht) h
    obtain ⟨h3, h4⟩ := tail_read xs ys s t hx'.2 hn'.2 hy'.2 hs ht h2
    exact ⟨by rw [h1, h3], h4⟩
theorem tail_read : ∀ (xs ys : List Dt) (s t : List Nat), ascs xs = true → PyData.hasDictAll xs = false → ascs ys = true → Cls2 s → Cls2 t → tailS xs ++ s = tailS ys ++ t → xs = ys ∧ s = t
  | [], [], s, t, _, _, _, _, _, h => ⟨rfl, h⟩
  | [], y :: ys, s, t, _, _, _, hs, _, h => (tail_cls hs h).elim
  | x :: xs, [], s, t, _, _, _, _, ht, h => (tail_cls ht h.symm).elim
  | x :: xs, y :: ys, s, t, hx, hn, hy, hs, ht, h => by
    have hx' : asc x = true ∧ ascs xs = true := by simpa only [ascs, Bool.and_eq_true] using hx
    have hy' : asc y = true ∧ ascs ys = true := by simpa only [ascs, Bool.and_eq_true] using hy
    have hn' : x.hasDict = false ∧ PyData.hasDictAll xs = false := by simpa only [PyData.hasDictAll, Bool.or_eq_false_iff] using hn
    have h : 44 :: 32 :: (cp x.shown ++ tailS xs ++ s) = 44 :: 32 :: (cp y.shown ++ tailS ys ++ t) := h
    have h := (List.cons.inj (List.cons.inj h).2).2
    rw [List.append_assoc, List.append_assoc] at h
    obtain ⟨h1, h2⟩ := shown_read x y _ _ hx'.1 hn'.1 hy'.1 (tail_dlm xs hs) (tail_dlm ys ht) h
    obtain ⟨h3, h4⟩ := tail_read xs ys s t hx'.2 hn'.2 hy'.2 hs ht h2
    exact ⟨by rw [h1, h3], h4⟩
end
/-- repr tells data of plain signs apart -/
theorem shown_inj {d e : Dt} (hd : asc d = true) (hn : d.hasDict = false) (he : asc e = true) (h : d.shown = e.shown) : d = e :=
  (shown_read d e [] [] hd hn he dlm_nil dlm_nil (by rw [h])).1
end Dl
namespace Dl
open PySem PySem.Spec L2
open PyProof.Rows hiding St
/-! ### data of bounded size: shown, of plain signs -/
structure Oq (w h : Nat) (d : Dt) : Prop where
  sh : d.showable = true
  ls : d.leavesShort 45 = true
  as : asc d = true
  w : d.weight ≤ w
  h : d.depth ≤ h
theorem Oq.more {w h w' h' : Nat} {d : Dt} (o : Oq w h d) (hw : w ≤ w') (hh : h ≤ h') : Oq w' h' d := ⟨o.sh, o.ls, o.as, Nat.le_trans o.w hw, Nat.le_trans o.h hh⟩
/-- .. told by reckoning -/
def oqB (w h : Nat) (d : Dt) : Bool := d.showable && (d.leavesShort 45 && (asc d && (decide (d.weight ≤ w) && decide (d.depth ≤ h))))
theorem oq_of {w h : Nat} {d : Dt} (z : oqB w h d = true) : Oq w h d := by
  unfold oqB at z
  rw [Bool.and_eq_true, Bool.and_eq_true, Bool.and_eq_true, Bool.and_eq_true, decide_eq_true_eq, decide_eq_true_eq] at z
  exact ⟨z.1, z.2.1, z.2.2.1, z.2.2.2.1, z.2.2.2.2⟩
theorem oqs_of {w h : Nat} {ds : List Dt} (z : ds.all (oqB w h) = true) : ∀ d ∈ ds, Oq w h d := fun d hd => oq_of (List.all_eq_true.mp z d hd)
theorem Oq.good {w h : Nat} {d : Dt} (o : Oq w h d) (hw : w ≤ 300000) (hh : h ≤ 50) : goodD d = true := by
  unfold goodD
  rw [o.sh, o.ls, decide_eq_true (Nat.le_trans o.w hw), decide_eq_true (Nat.le_trans o.h hh)]
  rfl
/-- all of a list -/
structure Oqs (w h : Nat) (ds : List Dt) : Prop where
  sh : PyData.showableAll ds = true
  ls : PyData.leavesShortAll 45 ds = true
  as : ascs ds = true
  w : PyData.weightAll ds ≤ w
  h : PyData.depthAll ds ≤ h
theorem Oqs.nil {w h : Nat} : Oqs w h [] := ⟨rfl, rfl, rfl, Nat.zero_le _, Nat.zero_le _⟩
theorem Oqs.cons {w w' h : Nat} {d : Dt} {ds : List Dt} (a : Oq w h d) (b : Oqs w' h ds) : Oqs (w + 1 + w') h (d :: ds) := by
  refine ⟨?_, ?_, ?_, ?_, ?_⟩
  · simp only [PyData.showableAll, a.sh, b.sh, Bool.and_self]
  · simp only [PyData.leavesShortAll, a.ls, b.ls, Bool.and_self]
  · simp only [ascs, a.as, b.as, Bool.and_self]
  · have h1 := a.w
    have h2 := b.w
    simp only [PyData.weightAll]
    omega
  · have h1 := a.h
    have h2 := b.h
    simp only [PyData.depthAll]
    omega
theorem Oqs.more {w h w' h' : Nat} {d : List Dt} (o : Oqs w h d) (hw : w ≤ w') (hh : h ≤ h') : Oqs w' h' d := ⟨o.sh, o.ls, o.as, Nat.le_trans o.w hw, Nat.le_trans o.h hh⟩
theorem Oqs.of {w h : Nat} : ∀ {ds : List Dt}, (∀ d ∈ ds, Oq w h d) → Oqs (ds.length * (w + 1)) h ds
  | [], _ => .nil
  | d :: ds, hd => by
    have := Oqs.cons (hd d List.mem_cons_self) (Oqs.of fun x hx => hd x (List.mem_cons_of_mem _ hx))
    refine this.more ?_ (Nat.le_refl _)
    rw [List.length_cons, Nat.succ_mul]
    omega
theorem Oqs.mem {w h : Nat} : ∀ {ds : List Dt}, Oqs w h ds → ∀ d ∈ ds, Oq w h d
  | [], _, _, hd => nomatch hd
  | x :: ds, o, d, hd => by
    have h1 : x.showable = true ∧ PyData.showableAll ds = true := by simpa only [PyData.showableAll, Bool.and_eq_true] using o.sh
    have h2 : x.leavesShort 45 = true ∧ PyData.leavesShortAll 45 ds = true := by simpa only [PyData.leavesShortAll, Bool.and_eq_true] using o.ls
    have h3 : asc x = true ∧ ascs ds = true := by simpa only [ascs, Bool.and_eq_true] using o.as
    have h4 := o.w
    have h5 := o.h
    simp only [PyData.weightAll] at h4
    simp only [PyData.depthAll] at h5
    rcases List.mem_cons.mp hd with rfl | hd
    · exact ⟨h1.1, h2.1, h3.1, by omega, by omega⟩
    · exact Oqs.mem ⟨h1.2, h2.2, h3.2, by omega, by omega⟩ d hd
theorem Oq.tup {w h : Nat} {ds : List Dt} (o : Oqs w h ds) : Oq w (h + 1) (.tuple ds) :=
  ⟨by simpa only [PyData.showable] using o.sh, by simpa only [PyData.leavesShort] using o.ls, by simpa only [asc] using o.as, by simpa only [PyData.weight] using o.w, by simpa only [PyData.depth] using Nat.succ_le_succ o.h⟩
theorem Oq.lst {w h : Nat} {ds : List Dt} (o : Oqs w h ds) : Oq w (h + 1) (.list ds) :=
  ⟨by simpa only [PyData.showable] using o.sh, by simpa only [PyData.leavesShort] using o.ls, by simpa only [asc] using o.as, by simpa only [PyData.weight] using o.w, by simpa only [PyData.depth] using Nat.succ_le_succ o.h⟩
theorem Oq.parts {w h : Nat} {ds : List Dt} (o : Oq w h (.tuple ds)) : Oqs w (h - 1) ds := by
  have h5 := o.h
  simp only [PyData.depth] at h5
  exact ⟨by simpa only [PyData.showable] using o.sh, by simpa only [PyData.leavesShort] using o.ls, by simpa only [asc] using o.as, by simpa only [PyData.weight] using o.w, by omega⟩
theorem Oq.items {w h : Nat} {ds : List Dt} (o : Oq w h (.list ds)) : Oqs w (h - 1) ds := by
  have h5 := o.h
  simp only [PyData.depth] at h5
  exact ⟨by simpa only [PyData.showable] using o.sh, by simpa only [PyData.leavesShort] using o.ls, by simpa only [asc] using o.as, by simpa only [PyData.weight] using o.w, by omega⟩
theorem Oqs.app {w w' h : Nat} : ∀ {ds es : List Dt}, Oqs w h ds → Oqs w' h es → Oqs (w + w') h (ds ++ es)
  | [], es, _, b => b.more (by omega) (Nat.le_refl _)
  | d :: ds, es, a, b => by
    have h1 : d.showable = true ∧ PyData.showableAll ds = true := by simpa only [PyData.showableAll, Bool.and_eq_true] using a.sh
    have h2 : d.leavesShort 45 = true ∧ PyData.leavesShortAll 45 ds = true := by simpa only [PyData.leavesShortAll, Bool.and_eq_true] using a.ls
    have h3 : asc d = true ∧ ascs ds = true := by simpa only [ascs, Bool.and_eq_true] using a.as
    have h4 := a.w
    have h5 := a.h
    simp only [PyData.weightAll] at h4
    simp only [PyData.depthAll] at h5
    have z := Oqs.app (w := w - (d.weight + 1)) (ds := ds) (es := es) ⟨h1.2, h2.2, h3.2, by omega, by omega⟩ b
    have y := Oqs.cons (w := d.weight) (h := h) (d := d) ⟨h1.1, h2.1, h3.1, Nat.le_refl _, by omega⟩ z
    exact y.more (by omega) (Nat.le_refl _)
theorem Oqs.app' {w w' h : Nat} {ds es : List Dt} (a : Oqs w h (ds ++ es)) : Oqs w h ds ∧ Oqs w h es := by
  have key : ∀ {l : List Dt}, (∀ d ∈ l, Oq w h d) → PyData.weightAll l ≤ w → Oqs w h l := fun {l} hl hw => by
    have z := Oqs.of hl
    exact ⟨z.sh, z.ls, z.as, hw, z.h⟩
  have wa : ∀ l m : List Dt, PyData.weightAll (l ++ m) = PyData.weightAll l + PyData.weightAll m := fun l m => by
    induction l with
    | nil => simp [PyData.weightAll]
    | cons x l ih => rw [List.cons_append, PyData.weightAll, PyData.weightAll, ih]; omega
  have hw := a.w
  rw [wa] at hw
  exact ⟨key (fun d hd => a.mem d (List.mem_append_left _ hd)) (by omega), key (fun d hd => a.mem d (List.mem_append_right _ hd)) (by omega)⟩
theorem Oqs.weight_app (l m : List Dt) : PyData.weightAll (l ++ m) = PyData.weightAll l + PyData.weightAll m := by
  induction l with
  | nil => simp [PyData.weightAll]
  | cons x l ih => rw [List.cons_append, PyData.weightAll, PyData.weightAll, ih]; omega
/-- a bounded text of plain signs -/
theorem Oq.str {x : Str} {B : Nat} (h1 : x.length ≤ B) (h2 : (cp x).all ascC = true) : Oq B 0 (.str x) := by
  refine ⟨by simp [PyData.showable], ?_, by simpa only [asc] using h2, by simpa [PyData.weight, Str.length] using h1, by simp [PyData.depth]⟩
  simp only [PyData.leavesShort, List.all_eq_true, decide_eq_true_eq]
  intro c hc
  have := List.all_eq_true.mp h2 c hc
  unfold ascC at this
  simp only [Bool.or_eq_true, beq_iff_eq, Bool.and_eq_true, decide_eq_true_eq] at this
  have e : (16 : Nat) ^ 8 = 4294967296 := by decide
  omega
theorem Oq.len {w h : Nat} {x : Str} (o : Oq w h (.str x)) : x.length ≤ w := by
  have := o.w
  simpa [PyData.weight, Str.length] using this
theorem Oq.signs {w h : Nat} {x : Str} (o : Oq w h (.str x)) : (cp x).all ascC = true := by simpa only [asc] using o.as
theorem Oq.txs {w h : Nat} {x : Str} (o : Oq w h (.str x)) : Txs w x := ⟨o.len, fun c hc => by
  have := List.all_eq_true.mp o.signs c hc
  unfold ascC at this
  simp only [Bool.or_eq_true, beq_iff_eq, Bool.and_eq_true, decide_eq_true_eq] at this
  omega⟩
theorem len_ofString (x : String) : (Str.ofString x).length = x.length := by
  have h : (Str.ofString x).cps.toList.length = x.toList.length := by rw [signs_ofString, List.length_map]
  rw [Array.length_toList] at h
  rw [← String.length_toList]
  exact h
/-- whole numbers -/
theorem Oq.int {i : Int} (h : i.natAbs < 10 ^ 40) : Oq 140 0 (.int i) := by
  have h2 : i.natAbs < 2 ^ 134 := Nat.lt_of_lt_of_le h (by decide)
  have h3 : i.natAbs = 0 ∨ i.natAbs.log2 < 134 := by
    by_cases z : i.natAbs = 0
    · exact .inl z
    · exact .inr ((Nat.log2_lt z).mpr h2)
  refine ⟨?_, ?_, rfl, ?_, by simp [PyData.depth]⟩
  · simp only [PyData.showable, decide_eq_true_eq]
    rcases h3 with h3 | h3
    · rw [h3]; decide
    · omega
  · have z := int_text_length_le10 (a := i) (k := 40) (by decide) h
    have e : (Str.ofString (toString i)).length ≤ 45 := by
      rw [len_ofString]
      omega
    simp only [PyData.leavesShort, PyData.shown]
    exact decide_eq_true e
  · simp only [PyData.weight]
    split
    · omega
    · rcases h3 with h3 | h3
      · rw [h3]; decide
      · omega
theorem Oq.bool (b : Bool) : Oq 0 0 (.bool b) := by cases b <;> exact oq_of (by decide +kernel)
theorem Oq.none : Oq 0 0 .none := oq_of (by decide +kernel)
/-- repr of two things: equal just for equal ones -/
theorem shown_eq {w h w' h' : Nat} {d e : Dt} (a : Oq w h d) (n : d.hasDict = false) (b : Oq w' h' e) : (d.shown == e.shown) = true ↔ d = e := by
  rw [beq_iff_eq]
  exact ⟨fun z => shown_inj a.as n b.as z, fun z => by rw [z]⟩
end Dl
namespace Dl
open PySem PySem.Spec L2
open PyProof.Rows hiding St
/-! ### worths: what is what, in plain words -/
def letters : Str := "abcdefghijklmnopqrstuvwxyz"
def isWhole : Dt → Bool
  | .none => false | .bool _ => false | .int _ => true | .str _ => false | .list _ => false | .tuple _ => false | .dict _ => false
def isName : Dt → Bool
  | .none => false | .bool _ => false | .int _ => false | .list _ => false | .tuple _ => false | .dict _ => false
  | .str x => decide (1 ≤ (x.length : Int)) && decide ((x.length : Int) ≤ 8) && (charsD x).all fun d => inV' d (.str letters)
def ordD : Dt → Nat
  | .str x => x.cps.getD 0 0
  | _ => 0
def okSign (d : Dt) : Bool := decide (32 ≤ (ordD d : Int)) && decide ((ordD d : Int) ≤ 126) && !inD (.int (ordD d : Nat)) [.int 37, .int 39]
def isText : Dt → Bool
  | .none => false | .bool _ => false | .int _ => false | .list _ => false | .tuple _ => false | .dict _ => false
  | .str x => decide ((x.length : Int) ≤ 20) && (charsD x).all okSign
def rowOf : Dt → Option (List Dt)
  | .tuple [.str x, .tuple ps] => if x = ("row" : Str) then some ps else none
  | _ => none
def isRowD (d : Dt) : Bool := (rowOf d).isSome
def great (i : Int) : Bool := decide (0 ≤ i) && decide (i ≤ 1000000000000000)
def isNamed : Dt → Bool
  | .tuple [.str x, .int i] => decide (x = ("thing" : Str)) && great i
  | .tuple [.str x, y, z] => (decide (x = ("deed" : Str)) || decide (x = ("kind" : Str))) && isName y && isName z
  | _ => false
def isBare : Dt → Bool
  | .none => true
  | .bool _ => true
  | .int i => decide (-1000000000000000 ≤ i) && decide (i ≤ 1000000000000000)
  | .str x => isText (.str x)
  | .list _ => false | .tuple _ => false | .dict _ => false
def leafGood (d : Dt) : Bool := isBare d || isNamed d
theorem rowOf_some {d : Dt} {ps : List Dt} (h : rowOf d = some ps) : d = .tuple [.str "row", .tuple ps] := by
  unfold rowOf at h
  split at h
  · split at h
    · rename_i e
      cases h
      rw [e]
    · cases h
  · cases h
theorem rowOf_row (ps : List Dt) : rowOf (.tuple [.str "row", .tuple ps]) = some ps := by
  show (if ("row" : Str) = ("row" : Str) then some ps else none) = some ps
  rw [if_pos rfl]
theorem rowOf_lt {d : Dt} {ps : List Dt} (h : rowOf d = some ps) : sizeOf ps < sizeOf d := by
  rw [rowOf_some h]
  simp
  omega
/-! parts, depth, width, leaves from the right -/
mutual
def nod (d : Dt) : Nat := match h : rowOf d with
  | none => 1
  | some ps => have := rowOf_lt h; 1 + nods ps
termination_by sizeOf d
def nods : List Dt → Nat
  | [] => 0
  | p :: ps => nod p + nods ps
termination_by ps => sizeOf ps
end
mutual
def dep (d : Dt) : Nat := match h : rowOf d with
  | none => 0
  | some ps => have := rowOf_lt h; 1 + deps ps
termination_by sizeOf d
def deps : List Dt → Nat
  | [] => 0
  | p :: ps => max (dep p) (deps ps)
termination_by ps => sizeOf ps
end
mutual
def wid (d : Dt) : Bool := match h : rowOf d with
  | none => true
  | some ps => have := rowOf_lt h; decide (ps.length ≤ 40) && wids ps
termination_by sizeOf d
def wids : List Dt → Bool
  | [] => true
  | p :: ps => wid p && wids ps
termination_by ps => sizeOf ps
end
mutual
def lv (d : Dt) : List Dt := match h : rowOf d with
  | none => [d]
  | some ps => have := rowOf_lt h; lvs ps
termination_by sizeOf d
def lvs : List Dt → List Dt
  | [] => []
  | p :: ps => lvs ps ++ lv p
termination_by ps => sizeOf ps
end
theorem nod_leaf {d : Dt} (h : rowOf d = none) : nod d = 1 := by rw [nod]; split <;> simp_all
theorem nod_row {d : Dt} {ps : List Dt} (h : rowOf d = some ps) : nod d = 1 + nods ps := by rw [nod]; split <;> simp_all
theorem dep_leaf {d : Dt} (h : rowOf d = none) : dep d = 0 := by rw [dep]; split <;> simp_all
theorem dep_row {d : Dt} {ps : List Dt} (h : rowOf d = some ps) : dep d = 1 + deps ps := by rw [dep]; split <;> simp_all
theorem wid_leaf {d : Dt} (h : rowOf d = none) : wid d = true := by rw [wid]; split <;> simp_all
theorem wid_row {d : Dt} {ps : List Dt} (h : rowOf d = some ps) : wid d = (decide (ps.length ≤ 40) && wids ps) := by rw [wid]; split <;> simp_all
theorem lv_leaf {d : Dt} (h : rowOf d = none) : lv d = [d] := by rw [lv]; split <;> simp_all
theorem lv_row {d : Dt} {ps : List Dt} (h : rowOf d = some ps) : lv d = lvs ps := by rw [lv]; split <;> simp_all
theorem nod_pos (d : Dt) : 1 ≤ nod d := by
  cases h : rowOf d with
  | none => rw [nod_leaf h]; exact Nat.le_refl _
  | some ps => rw [nod_row h]; omega
/-- a worth within the bounds of number, depth and width -/
def inBounds (d : Dt) : Bool := decide (nod d ≤ 200) && (decide (dep d ≤ 8) && wid d)
def leavesD (d : Dt) : Dt := if inBounds d = true then .list (lv d) else .none
def isWorth (d : Dt) : Bool := inBounds d && (lv d).all leafGood
def isPlain (d : Dt) : Bool := inBounds d && (lv d).all isBare

/-! the pile of what waits: the top is the last -/
def pileN : List (Dt × Nat) → Nat
  | [] => 0
  | p :: r => nod p.1 + pileN r
def fits (p : Dt × Nat) : Bool := decide (dep p.1 + p.2 ≤ 8) && wid p.1
def pileL : List (Dt × Nat) → List Dt
  | [] => []
  | p :: r => pileL r ++ lv p.1
/-- what comes of it in the end -/
def fin (ws : List (Dt × Nat)) (many : Nat) (found : List Dt) : Dt := if (decide (many + pileN ws ≤ 200) && ws.all fits) = true then .list (found ++ pileL ws) else .none
theorem pileN_app (a b : List (Dt × Nat)) : pileN (a ++ b) = pileN a + pileN b := by
  induction a with
  | nil => simp [pileN]
  | cons p a ih => simp only [List.cons_append, pileN, ih]; omega
theorem pileL_app (a b : List (Dt × Nat)) : pileL (a ++ b) = pileL b ++ pileL a := by
  induction a with
  | nil => simp [pileL]
  | cons p a ih => simp only [List.cons_append, pileL, ih, List.append_assoc]
theorem pileN_map (k : Nat) : ∀ ps : List Dt, pileN (ps.map fun p => (p, k)) = nods ps
  | [] => by simp [pileN, nods]
  | p :: ps => by simp only [List.map_cons, pileN, nods, pileN_map k ps]
theorem pileL_map (k : Nat) : ∀ ps : List Dt, pileL (ps.map fun p => (p, k)) = lvs ps
  | [] => by simp [pileL, lvs]
  | p :: ps => by simp only [List.map_cons, pileL, lvs, pileL_map k ps]
theorem fits_map (k : Nat) (hk : k ≤ 8) : ∀ ps : List Dt, (ps.map fun p => (p, k)).all fits = (decide (deps ps + k ≤ 8) && wids ps)
  | [] => by simp [deps, wids]; omega
  | p :: ps => by
    rw [List.map_cons, List.all_cons, fits_map k hk ps, deps, wids]
    unfold fits
    have e : decide (max (dep p) (deps ps) + k ≤ 8) = (decide (dep p + k ≤ 8) && decide (deps ps + k ≤ 8)) := by
      rw [← Bool.decide_and]
      exact decide_eq_decide.mpr (by omega)
    rw [e]
    cases decide (dep p + k ≤ 8) <;> cases decide (deps ps + k ≤ 8) <;> cases wid p <;> cases wids ps <;> rfl
/-- one turn over a leaf -/
theorem fin_leaf {a : List (Dt × Nat)} {d : Dt} {k many : Nat} {found : List Dt} (h : rowOf d = none) (hk : k ≤ 8) : fin (a ++ [(d, k)]) many found = fin a (many + 1) (found ++ [d]) := by
  unfold fin
  have e1 : many + pileN (a ++ [(d, k)]) = many + 1 + pileN a := by rw [pileN_app, pileN, pileN, nod_leaf h]; omega
  have e2 : (a ++ [(d, k)]).all fits = a.all fits := by
    have z : fits (d, k) = true := by
      unfold fits
      rw [dep_leaf h, wid_leaf h, Nat.zero_add, decide_eq_true hk]
      rfl
    rw [List.all_append, List.all_cons, List.all_nil, z, Bool.and_true, Bool.and_true]
  have e3 : found ++ pileL (a ++ [(d, k)]) = found ++ [d] ++ pileL a := by rw [pileL_app, pileL, pileL, List.nil_append, lv_leaf h, List.append_assoc]
  rw [e1, e2, e3]
theorem fin_row {a : List (Dt × Nat)} {d : Dt} {ps : List Dt} {k many : Nat} {found : List Dt} (h : rowOf d = some ps) (hk : k < 8) (hw : ps.length ≤ 40) :
    fin (a ++ [(d, k)]) many found = fin (a ++ ps.map fun p => (p, k + 1)) (many + 1) found := by
  unfold fin
  have e1 : many + pileN (a ++ [(d, k)]) = many + 1 + pileN (a ++ ps.map fun p => (p, k + 1)) := by
    rw [pileN_app, pileN_app, pileN_map, pileN, pileN, nod_row h]
    omega
  have e2 : (a ++ [(d, k)]).all fits = (a ++ ps.map fun p => (p, k + 1)).all fits := by
    rw [List.all_append, List.all_append, fits_map (k + 1) (by omega), List.all_cons, List.all_nil, Bool.and_true]
    unfold fits
    rw [dep_row h, wid_row h, decide_eq_true hw, Bool.true_and]
    have e : decide (1 + deps ps + k ≤ 8) = decide (deps ps + (k + 1) ≤ 8) := decide_eq_decide.mpr (by omega)
    rw [e]
  have e3 : found ++ pileL (a ++ [(d, k)]) = found ++ pileL (a ++ ps.map fun p => (p, k + 1)) := by
    rw [pileL_app, pileL_app, pileL_map, pileL, pileL, List.nil_append, lv_row h]
  rw [e1, e2, e3]
theorem fin_deep {a : List (Dt × Nat)} {d : Dt} {ps : List Dt} {k many : Nat} {found : List Dt} (h : rowOf d = some ps) (hk : k = 8 ∨ 40 < ps.length) : fin (a ++ [(d, k)]) many found = .none := by
  unfold fin
  rw [if_neg]
  intro z
  rw [Bool.and_eq_true, List.all_append, Bool.and_eq_true, List.all_cons, Bool.and_eq_true] at z
  have y := z.2.2.1
  unfold fits at y
  rw [dep_row h, wid_row h, Bool.and_eq_true, decide_eq_true_eq, Bool.and_eq_true, decide_eq_true_eq] at y
  omega
theorem fin_many {a : List (Dt × Nat)} {p : Dt × Nat} {many : Nat} {found : List Dt} (h : 200 < many + 1) : fin (a ++ [p]) many found = .none := by
  unfold fin
  rw [if_neg]
  intro z
  rw [Bool.and_eq_true, decide_eq_true_eq, pileN_app, pileN, pileN] at z
  have := nod_pos p.1
  omega
theorem fin_nil {many : Nat} {found : List Dt} (h : many ≤ 200) : fin [] many found = .list found := by
  unfold fin
  rw [if_pos (by simp [pileN, h]), pileL, List.append_nil]
theorem fin_all (d : Dt) : fin [(d, 0)] 0 [] = leavesD d := by
  unfold fin leavesD inBounds
  have e : (decide (0 + pileN [(d, 0)] ≤ 200) && List.all [(d, 0)] fits) = (decide (nod d ≤ 200) && (decide (dep d ≤ 8) && wid d)) := by
    simp only [pileN, List.all_cons, List.all_nil, fits, Nat.zero_add, Nat.add_zero, Bool.and_true]
  rw [e]
  simp only [pileL, List.nil_append]
end Dl
namespace Dl
open PySem PySem.Spec L2
open PyProof.Rows hiding St
/-! ### a sum of lists is a list of one's own -/
def oCatL (d e : Dt) : Mv (List Dt) := match d, e with
  | .list xs, .list ys => grd (xs.length + ys.length ≤ sizeLine) (ret (xs ++ ys))
  | _, _ => bad
section
variable {X : Cx} {g : Gh} {a b c e : Expr} {es : List Expr} {pos : Pos} {ma mb mc : Me Dt}
theorem dn_plus (ha : DX X g a ma) (hb : DX X g b mb) : DN X g (.BinOp a .Add b pos) (fun δ => bnd (ma δ) fun x => bnd (mb δ) fun y => oCatL x y) := by
  obtain ⟨t, p, ha⟩ := ha
  obtain ⟨u, p2, hb⟩ := hb
  refine ⟨_, pe_op op_cat p p2, fun σ H F δ n Q Qd R q w => ?_⟩
  refine ha σ H F δ n _ _ R (fun v d F1 H1 n1 rb rp hq => ?_) w
  refine hb σ H1 F1 δ n1 _ _ (R.ext rb) (fun v2 d2 F2 H2 n2 rb2 rp2 hq2 => ?_) hq
  have rb3 := rb.trans rb2
  cases d with
  | list xs =>
    cases d2 with
    | list ys =>
      obtain ⟨a1, vs, rfl, h1, r1⟩ := (rp.ext rb2).lst rb3.sub
      obtain ⟨b1, us, rfl, h2, r2⟩ := rp2.lst rb3.sub
      refine ⟨a1, b1, vs, us, rfl, rfl, h1, h2, by rw [r1.length, r2.length]; exact hq2.1, fun p np => ?_⟩
      exact q p (vs ++ us) (xs ++ ys) F2 _ n2 (rb3.layH np) (rb3.old (fun b i => rb3.hand.there i) np) (free_of rb3.sub np) upd_same (r1.app r2) hq2.2
    | _ => exact hq2.elim
  | _ => exact hq2.elim
theorem cat_list (xs ys : List Dt) : oCatL (.list xs) (.list ys) = grd (xs.length + ys.length ≤ sizeLine) (ret (xs ++ ys)) := rfl
end
end Dl
namespace Ev
open PySem PySem.Spec L2 Dl
open PyProof.Rows hiding St
def topS (i : Nat) : Stmt := PySem.Challenge.pw_everso_k02_worths_of_anything.main.body.getD i (.Pass ⟨0, 0, 0, 0⟩)
structure Fc (K : PySem.W.Frag) (mg : Str → Option Value) : Prop where
  m_abs : mg "abs" = none
  m_all : mg "all" = none
  m_isinstance : mg "isinstance" = none
  m_len : mg "len" = none
  m_list : mg "list" = none
  m_max : mg "max" = none
  m_ord : mg "ord" = none
  m_range : mg "range" = none
  m_repr : mg "repr" = none
  m_str : mg "str" = none
  m_sum : mg "sum" = none
  m_tuple : mg "tuple" = none
  m_bool : mg "bool" = none
  m_int : mg "int" = none
  c_LETTERS : ∃ t, mg "LETTERS" = some (.str "abcdefghijklmnopqrstuvwxyz" t)
  c_LONGEST_NAME : ∃ t, mg "LONGEST_NAME" = some (.int 8 t)
  c_GREATEST : ∃ t, mg "GREATEST" = some (.int 1000000000000000 t)
  c_LONGEST_TEXT : ∃ t, mg "LONGEST_TEXT" = some (.int 20 t)
  c_FIRST_SIGN : ∃ t, mg "FIRST_SIGN" = some (.int 32 t)
  c_LAST_SIGN : ∃ t, mg "LAST_SIGN" = some (.int 126 t)
  c_NO_SIGNS : ∃ u, mg "NO_SIGNS" = some u ∧ RelV (.ref (He.ga K "NO_SIGNS")) u
  r_NO_SIGNS : ∀ F, Rp K F (.ref (He.ga K "NO_SIGNS")) (.tuple [.int 37, .int 39])
  c_ROW : ∃ t, mg "ROW" = some (.str "row" t)
  c_THING : ∃ t, mg "THING" = some (.str "thing" t)
  c_DEED : ∃ t, mg "DEED" = some (.str "deed" t)
  c_KIND : ∃ t, mg "KIND" = some (.str "kind" t)
  c_WIDEST : ∃ t, mg "WIDEST" = some (.int 40 t)
  c_MOST_IN_ALL : ∃ t, mg "MOST_IN_ALL" = some (.int 200 t)
  c_DEEPEST : ∃ t, mg "DEEPEST" = some (.int 8 t)
abbrev s_15 : Stmt := topS 15
abbrev n_15 : List Str := ["thing"]
theorem sc_15 : FnScope n_15 ["thing"] (defScope s_15) := ⟨rfl, rfl, rfl, by decide +kernel, rfl, by decide +kernel, by decide +kernel⟩
abbrev s_16 : Stmt := topS 16
abbrev n_16 : List Str := ["thing", "sign"]
theorem sc_16 : FnScope n_16 ["thing"] (defScope s_16) := ⟨rfl, rfl, rfl, by decide +kernel, rfl, by decide +kernel, by decide +kernel⟩
abbrev s_17 : Stmt := topS 17
abbrev n_17 : List Str := ["thing", "sign"]
theorem sc_17 : FnScope n_17 ["thing"] (defScope s_17) := ⟨rfl, rfl, rfl, by decide +kernel, rfl, by decide +kernel, by decide +kernel⟩
abbrev s_18 : Stmt := topS 18
abbrev n_18 : List Str := ["thing"]
theorem sc_18 : FnScope n_18 ["thing"] (defScope s_18) := ⟨rfl, rfl, rfl, by decide +kernel, rfl, by decide +kernel, by decide +kernel⟩
abbrev s_19 : Stmt := topS 19
abbrev n_19 : List Str := ["thing"]
theorem sc_19 : FnScope n_19 ["thing"] (defScope s_19) := ⟨rfl, rfl, rfl, by decide +kernel, rfl, by decide +kernel, by decide +kernel⟩
abbrev s_20 : Stmt := topS 20
abbrev n_20 : List Str := ["thing"]
theorem sc_20 : FnScope n_20 ["thing"] (defScope s_20) := ⟨rfl, rfl, rfl, by decide +kernel, rfl, by decide +kernel, by decide +kernel⟩
abbrev s_21 : Stmt := topS 21
abbrev n_21 : List Str := ["thing", "found", "waiting", "many", "here", "within", "part"]
theorem sc_21 : FnScope n_21 ["thing"] (defScope s_21) := ⟨rfl, rfl, rfl, by decide +kernel, rfl, by decide +kernel, by decide +kernel⟩
abbrev s_22 : Stmt := topS 22
abbrev n_22 : List Str := ["thing", "found", "one"]
theorem sc_22 : FnScope n_22 ["thing"] (defScope s_22) := ⟨rfl, rfl, rfl, by decide +kernel, rfl, by decide +kernel, by decide +kernel⟩
abbrev s_23 : Stmt := topS 23
abbrev n_23 : List Str := ["thing", "found", "one"]
theorem sc_23 : FnScope n_23 ["thing"] (defScope s_23) := ⟨rfl, rfl, rfl, by decide +kernel, rfl, by decide +kernel, by decide +kernel⟩
abbrev s_25 : Stmt := topS 25
abbrev n_25 : List Str := ["_law_script", "_law_cells", "_law_total", "_law_cell"]
theorem sc_25 : FnScope n_25 ["_law_script"] (defScope s_25) := ⟨rfl, rfl, rfl, by decide +kernel, rfl, by decide +kernel, by decide +kernel⟩
abbrev s_26 : Stmt := topS 26
abbrev n_26 : List Str := ["_law_hand", "_law_lots", "_law_cell", "_law_mixed"]
theorem sc_26 : FnScope n_26 ["_law_hand", "_law_lots"] (defScope s_26) := ⟨rfl, rfl, rfl, by decide +kernel, rfl, by decide +kernel, by decide +kernel⟩
abbrev s_27 : Stmt := topS 27
abbrev n_27 : List Str := ["_law_hand", "_law_some"]
theorem sc_27 : FnScope n_27 ["_law_hand", "_law_some"] (defScope s_27) := ⟨rfl, rfl, rfl, by decide +kernel, rfl, by decide +kernel, by decide +kernel⟩
abbrev s_28 : Stmt := topS 28
abbrev n_28 : List Str := ["_law_hand"]
theorem sc_28 : FnScope n_28 ["_law_hand"] (defScope s_28) := ⟨rfl, rfl, rfl, by decide +kernel, rfl, by decide +kernel, by decide +kernel⟩
abbrev s_29 : Stmt := topS 29
abbrev n_29 : List Str := ["_law_hand", "_law_sort", "_law_number", "_law_words", "_law_word", "_law_first", "_law_last", "_law_some"]
theorem sc_29 : FnScope n_29 ["_law_hand"] (defScope s_29) := ⟨rfl, rfl, rfl, by decide +kernel, rfl, by decide +kernel, by decide +kernel⟩
abbrev s_30 : Stmt := topS 30
abbrev n_30 : List Str := ["_law_some", "_law_parts"]
theorem sc_30 : FnScope n_30 [] (defScope s_30) := ⟨rfl, rfl, rfl, by decide +kernel, rfl, by decide +kernel, by decide +kernel⟩
abbrev s_31 : Stmt := topS 31
abbrev n_31 : List Str := ["_law_hand", "_law_deep", "_law_way", "_law_turn"]
theorem sc_31 : FnScope n_31 ["_law_hand", "_law_deep"] (defScope s_31) := ⟨rfl, rfl, rfl, by decide +kernel, rfl, by decide +kernel, by decide +kernel⟩
abbrev s_32 : Stmt := topS 32
abbrev n_32 : List Str := ["_law_inner", "_law_lots", "_law_turn"]
theorem sc_32 : FnScope n_32 ["_law_inner", "_law_lots"] (defScope s_32) := ⟨rfl, rfl, rfl, by decide +kernel, rfl, by decide +kernel, by decide +kernel⟩
abbrev s_33 : Stmt := topS 33
abbrev n_33 : List Str := ["_law_inner", "_law_lots"]
theorem sc_33 : FnScope n_33 ["_law_inner", "_law_lots"] (defScope s_33) := ⟨rfl, rfl, rfl, by decide +kernel, rfl, by decide +kernel, by decide +kernel⟩
abbrev s_34 : Stmt := topS 34
abbrev n_34 : List Str := ["_law_hand", "_law_inner", "_law_other_leaf", "_law_found"]
theorem sc_34 : FnScope n_34 ["_law_hand"] (defScope s_34) := ⟨rfl, rfl, rfl, by decide +kernel, rfl, by decide +kernel, by decide +kernel⟩
abbrev s_35 : Stmt := topS 35
abbrev n_35 : List Str := ["_law_hand", "_law_inner", "_law_other_leaf", "_law_found"]
theorem sc_35 : FnScope n_35 ["_law_hand"] (defScope s_35) := ⟨rfl, rfl, rfl, by decide +kernel, rfl, by decide +kernel, by decide +kernel⟩
abbrev s_36 : Stmt := topS 36
abbrev n_36 : List Str := ["_law_it", "_law_sign"]
theorem sc_36 : FnScope n_36 ["_law_it"] (defScope s_36) := ⟨rfl, rfl, rfl, by decide +kernel, rfl, by decide +kernel, by decide +kernel⟩
abbrev s_37 : Stmt := topS 37
abbrev n_37 : List Str := ["_law_it", "_law_sign", "_law_is_so", "_law_part"]
theorem sc_37 : FnScope n_37 ["_law_it"] (defScope s_37) := ⟨rfl, rfl, rfl, by decide +kernel, rfl, by decide +kernel, by decide +kernel⟩
abbrev s_38 : Stmt := topS 38
abbrev n_38 : List Str := ["_law_it", "_law_good", "_law_plain", "_law_found", "_law_part", "_law_lots", "_law_row"]
theorem sc_38 : FnScope n_38 ["_law_it"] (defScope s_38) := ⟨rfl, rfl, rfl, by decide +kernel, rfl, by decide +kernel, by decide +kernel⟩
abbrev s_39 : Stmt := topS 39
abbrev n_39 : List Str := ["_law_it", "_law_found"]
theorem sc_39 : FnScope n_39 ["_law_it"] (defScope s_39) := ⟨rfl, rfl, rfl, by decide +kernel, rfl, by decide +kernel, by decide +kernel⟩
abbrev s_40 : Stmt := topS 40
abbrev n_40 : List Str := ["_law_hand", "_law_part", "_law_some"]
theorem sc_40 : FnScope n_40 ["_law_hand", "_law_part"] (defScope s_40) := ⟨rfl, rfl, rfl, by decide +kernel, rfl, by decide +kernel, by decide +kernel⟩
abbrev s_41 : Stmt := topS 41
abbrev n_41 : List Str := ["_law_hand", "_law_it", "_law_at"]
theorem sc_41 : FnScope n_41 ["_law_hand", "_law_it"] (defScope s_41) := ⟨rfl, rfl, rfl, by decide +kernel, rfl, by decide +kernel, by decide +kernel⟩
abbrev s_42 : Stmt := topS 42
abbrev n_42 : List Str := ["_law_it", "_law_kept", "_law_found"]
theorem sc_42 : FnScope n_42 ["_law_it"] (defScope s_42) := ⟨rfl, rfl, rfl, by decide +kernel, rfl, by decide +kernel, by decide +kernel⟩
abbrev s_43 : Stmt := topS 43
abbrev n_43 : List Str := ["_law_script", "_law_hand", "_law_ways", "_law_turn", "_law_some", "_law_twice", "_law_it"]
theorem sc_43 : FnScope n_43 ["_law_script"] (defScope s_43) := ⟨rfl, rfl, rfl, by decide +kernel, rfl, by decide +kernel, by decide +kernel⟩
/-! ### the program's worths -/
def fitW (d : Dt) : Prop := d.weight ≤ 300000
def thingOk : Dt → Bool
  | .int i => great i
  | _ => false
theorem fitW_str {x : Str} (h : fitW (.str x)) : x.length ≤ sizeLine := by
  have h : (PyData.str x).weight ≤ 300000 := h
  have e : (PyData.str x).weight = x.length := by simp [PyData.weight, Str.length]
  rw [e] at h
  exact Nat.le_trans h (by decide)
theorem weight_mem : ∀ {xs : List Dt} {y : Dt}, y ∈ xs → y.weight + 1 ≤ PyData.weightAll xs
  | x :: xs, y, h => by
    rw [PyData.weightAll]
    rcases List.mem_cons.mp h with rfl | h
    · omega
    · have := weight_mem h
      omega
theorem fitW_mem {xs : List Dt} {y : Dt} (h : fitW (.tuple xs)) (hy : y ∈ xs) : fitW y := by
  have h : (PyData.tuple xs).weight ≤ 300000 := h
  rw [PyData.weight] at h
  have := weight_mem hy
  unfold fitW
  omega
def mPure (f : Dt → Dt) : List Da → Mv Dt
  | [.d x] => grd (fitW x) (Dl.ret (f x))
  | _ => bad
theorem mPure_is {f : Dt → Dt} {x : Dt} (c : Nat) (hc : c = 1) (h : fitW x) : many c (mPure f) [Da.d x] = Dl.ret (f x) := (many_app _ _ _ (by rw [hc]; rfl)).trans (grd_true h _)
theorem mPureK_is {f : Dt → Dt} {x : Dt} (c : Nat) (hc : c = 1) (h : fitW x) : manyK c (mPure f) [0] [Da.d x] = Dl.ret (f x) := (manyK_app _ _ _ _ (by rw [hc]; rfl) (by rw [hc]; rfl)).trans (grd_true h _)
section
variable {P : Program} {w : World} {K : PySem.W.Frag} {mg : Str → Option Value} {base : Heap} {f : Addr} {fd : FuncData} {k : Nat}

theorem ok_is_whole (F : Fc K mg) (D : Df K mg "is_whole" s_15 ["thing"] f fd) : Kn P w K mg base (k + 1) "is_whole" s_15 ["thing"] (mPure fun x => .bool (isWhole x)) := by
  refine D.kn (FnD.of _ D.d sc_15 (fun cdv A outer s H E g hx room => have hu := hu64 room; have hu1 := hu65 room;
    (dss_one (ds_ret (de_and (de_isi ts_int rfl F.m_isinstance rfl F.m_int rfl (dx_var 0)) (de_one (de_not (de_isi ts_bool rfl F.m_isinstance rfl F.m_bool rfl (dx_var 0)))))))) ?_)
  intro as n Qd W hl h
  match as, hl, h with
  | [.d x], _, ⟨hz, hq⟩ => cases x <;> exact hq


theorem ok_is_name (F : Fc K mg) (D : Df K mg "is_name" s_16 ["thing"] f fd) : Kn P w K mg base (k + 1) "is_name" s_16 ["thing"] (mPure fun x => .bool (isName x)) := by
  refine D.kn (FnD.of _ D.d sc_16 (fun cdv A outer s H E g hx room => have hu := hu64 room; have hu1 := hu65 room;
    (dss_cons (ds_if (DW.tst (dw_or (dt_not (DE.tst (de_isi ts_str rfl F.m_isinstance rfl F.m_str rfl (dx_var 0)))) (dw_or1 (dt_not (dt_chain op_le op_le x2_cmp x2_cmp (DE.now de_int) (DE.now (de_callX call_len xc_len rfl F.m_len rfl (dxs_cons (dx_var 0) dxs_nil))) (DE.now (de_gi F.c_LONGEST_NAME))))))) (dss_one (ds_ret de_bl)) dss_nil)
 (dss_one (ds_ret (de_callX (cr_all rfl) xc_all rfl F.m_all rfl (dxs_cons (DE.now (DN.dat (dn_lc rfl sc_16.nd (own := [("sign", 1)]) (blk_ok rfl) (DF.di (df_str (de_var 0))) (fun _ _ _ _ _ => (dg_name 1 sc_16.nd)) (fun _ _ _ _ _ => difs_nil) (fun _ _ _ _ _ => (de_cmpX (op_inA hu1) x2_in (dx_var 1) (DE.now (de_gs F.c_LETTERS)) rfl))))) dxs_nil)))))) ?_)
  intro as n Qd W hl h
  match as, hl, h with
  | [.d x], _, ⟨hz, hq⟩ =>
    cases x with
    | str x =>
      have hz' : x.length ≤ sizeLine := fitW_str hz
      rw [show slotsOf n_16 [Da.d (PyData.str x)] = [Ds.d (.str x), .no] from rfl]
      simp only [sSeq, sIf, sNext, sAsg, sPar, sPar3, gN, bnd_ret, ret_app, bnd_grd, grd_app, sl_zero, sl_succ, slX_zero, slX_own, slX_succ, slO_zero, slO_own, slO_succ, slH_zero, slH_succ, frz_zero, frz_succ, own_zero, own_succ, onStr_str, asB_bool, asI_int, both_if, either_if, bothD_if, eitherD_if, choose_if, List.set_cons_zero, List.set_cons_succ, Bool.not_true, Bool.not_false, if_true, if_false, Bool.false_eq_true, grd_nil, isStr, oLen, oC, grd_true hz', ite_ret2]
      rw [lcD_map (items := charsD x) (fun d => .bool (inV' d (.str letters)))]
      · rw [bnd_ret, bnd_ret, bnd_ret, oAll_map]
        have hq : Qd (.bool (isName (.str x))) n := hq
        simp only [isName] at hq
        cases h1 : decide (1 ≤ (x.length : Int)) <;> cases h2 : decide ((x.length : Int) ≤ 8) <;> (rw [h1, h2] at hq; exact hq)
      · show grd (x.length ≤ sizeLine) _ = _
        rw [grd_true hz']
      · intro d hd
        obtain ⟨c, rfl⟩ := mem_chars hd
        exact ⟨_, rfl, grd_true ⟨_, rfl⟩ _⟩
    | _ => exact hq


theorem ok_is_text (F : Fc K mg) (D : Df K mg "is_text" s_17 ["thing"] f fd) : Kn P w K mg base (k + 1) "is_text" s_17 ["thing"] (mPure fun x => .bool (isText x)) := by
  refine D.kn (FnD.of _ D.d sc_17 (fun cdv A outer s H E g hx room => have hu := hu64 room; have hu1 := hu65 room;
    (dss_cons (ds_if (DW.tst (dw_or (dt_not (DE.tst (de_isi ts_str rfl F.m_isinstance rfl F.m_str rfl (dx_var 0)))) (dw_or1 (dt_cmpX op_gt x2_cmp (DE.now (de_callX call_len xc_len rfl F.m_len rfl (dxs_cons (dx_var 0) dxs_nil))) (DE.now (de_gi F.c_LONGEST_TEXT)) (nomark _))))) (dss_one (ds_ret de_bl)) dss_nil)
 (dss_one (ds_ret (de_callX (cr_all rfl) xc_all rfl F.m_all rfl (dxs_cons (DE.now (DN.dat (dn_lc rfl sc_17.nd (own := [("sign", 1)]) (blk_ok rfl) (DF.di (df_str (de_var 0))) (fun _ _ _ _ _ => (dg_name 1 sc_17.nd)) (fun _ _ _ _ _ => difs_nil) (fun _ _ _ _ _ => (de_and (de_chain op_le op_le x2_cmp x2_cmp (DE.now (de_gi F.c_FIRST_SIGN)) (DE.now (de_callX call_ord xc_ord rfl F.m_ord rfl (dxs_cons (dx_var 1) dxs_nil))) (DE.now (de_gi F.c_LAST_SIGN))) (de_one (de_cmpX (op_notInA hu1) x2_notIn (DE.now (de_callX call_ord xc_ord rfl F.m_ord rfl (dxs_cons (dx_var 1) dxs_nil))) (DE.now (de_gc F.c_NO_SIGNS F.r_NO_SIGNS)) rfl))))))) dxs_nil)))))) ?_)
  intro as n Qd W hl h
  match as, hl, h with
  | [.d x], _, ⟨hz, hq⟩ =>
    cases x with
    | str x =>
      have hz' : x.length ≤ sizeLine := fitW_str hz
      rw [show slotsOf n_17 [Da.d (PyData.str x)] = [Ds.d (.str x), .no] from rfl]
      simp only [sSeq, sIf, sNext, sAsg, sPar, sPar3, gN, bnd_ret, ret_app, bnd_grd, grd_app, sl_zero, sl_succ, slX_zero, slX_own, slX_succ, slO_zero, slO_own, slO_succ, slH_zero, slH_succ, frz_zero, frz_succ, own_zero, own_succ, onStr_str, asB_bool, asI_int, both_if, either_if, bothD_if, eitherD_if, choose_if, List.set_cons_zero, List.set_cons_succ, Bool.not_true, Bool.not_false, if_true, if_false, Bool.false_eq_true, grd_nil, isStr, oLen, oC, grd_true hz', ite_ret2]
      rw [lcD_map (items := charsD x) (fun d => .bool (okSign d))]
      · rw [bnd_ret, bnd_ret, bnd_ret, oAll_map]
        have hq : Qd (.bool (isText (.str x))) n := hq
        simp only [isText] at hq
        have e : decide ((20 : Int) < (x.length : Int)) = !decide ((x.length : Int) ≤ 20) := by rw [← decide_not]; exact decide_eq_decide.mpr (by omega)
        rw [e]
        cases h2 : decide ((x.length : Int) ≤ 20) <;> (rw [h2] at hq; exact hq)
      · show grd (x.length ≤ sizeLine) _ = _
        rw [grd_true hz']
      · intro d hd
        obtain ⟨c, rfl⟩ := mem_chars hd
        refine ⟨_, rfl, ?_⟩
        have eo : oOrd [.str ⟨#[c]⟩] = Dl.ret (.int (c : Nat)) := grd_true rfl _
        have en : oNotIn (.int (c : Nat)) (.tuple [.int 37, .int 39]) = Dl.ret (.bool (!inD (.int (c : Nat)) [.int 37, .int 39])) := grd_true ⟨rfl, rfl⟩ _
        have es : okSign (.str ⟨#[c]⟩) = (decide (32 ≤ (c : Int)) && decide ((c : Int) ≤ 126) && !inD (.int (c : Nat)) [.int 37, .int 39]) := rfl
        rw [es]
        simp only [sSeq, sIf, sNext, sAsg, sPar, sPar3, gN, bnd_ret, ret_app, bnd_grd, grd_app, sl_zero, sl_succ, slX_zero, slX_own, slX_succ, slO_zero, slO_own, slO_succ, slH_zero, slH_succ, frz_zero, frz_succ, own_zero, own_succ, onStr_str, asB_bool, asI_int, both_if, either_if, bothD_if, eitherD_if, choose_if, List.set_cons_zero, List.set_cons_succ, Bool.not_true, Bool.not_false, if_true, if_false, Bool.false_eq_true, grd_nil, eo, en, oC, wipeD_cons, wipeD_nil, List.map]
        cases decide (32 ≤ (c : Int)) <;> cases decide ((c : Int) ≤ 126) <;> rfl
    | _ => exact hq


theorem ok_is_row (F : Fc K mg) (D : Df K mg "is_row" s_18 ["thing"] f fd) : Kn P w K mg base (k + 1) "is_row" s_18 ["thing"] (mPure fun x => .bool (isRowD x)) := by
  refine D.kn (FnD.of _ D.d sc_18 (fun cdv A outer s H E g hx room => have hu := hu64 room; have hu1 := hu65 room;
    (dss_cons (ds_if (DW.tst (dw_or (dt_not (DE.tst (de_isi ts_tuple rfl F.m_isinstance rfl F.m_tuple rfl (dx_var 0)))) (dw_or (dt_cmpX (op_neA hu) x2_ne (DE.now (de_callX call_len xc_len rfl F.m_len rfl (dxs_cons (dx_var 0) dxs_nil))) (DE.now de_int) (nomark _)) (dw_or1 (dt_not (DE.tst (de_isi ts_str rfl F.m_isinstance rfl F.m_str rfl (DE.now (de_at (dx_var 0) (DE.now de_int) (fun _ _ => rfl)))))))))) (dss_one (ds_ret de_bl)) dss_nil)
 (dss_one (ds_ret (de_and (de_cmpX (op_eqA hu) x2_eq (DE.now (de_at (dx_var 0) (DE.now de_int) (fun _ _ => rfl))) (DE.now (de_gs F.c_ROW)) (nomark _)) (de_one (de_isi ts_tuple rfl F.m_isinstance rfl F.m_tuple rfl (DE.now (de_at (dx_var 0) (DE.now de_int) (fun _ _ => rfl)))))))))) ?_)
  intro as n Qd W hl h
  match as, hl, h with
  | [.d x], _, ⟨hz, hq⟩ =>
    cases x with
    | tuple ds =>
      match ds, hz, hq with
      | [], _, hq =>
        rw [show slotsOf n_18 [Da.d (PyData.tuple [])] = [Ds.d (.tuple [])] from rfl]
        simp only [sSeq, sIf, sNext, sAsg, sPar, sPar3, gN, bnd_ret, ret_app, bnd_grd, grd_app, sl_zero, sl_succ, slX_zero, slX_own, slX_succ, slO_zero, slO_own, slO_succ, slH_zero, slH_succ, frz_zero, frz_succ, own_zero, own_succ, onStr_str, asB_bool, asI_int, both_if, either_if, bothD_if, eitherD_if, choose_if, List.set_cons_zero, List.set_cons_succ, Bool.not_true, Bool.not_false, if_true, if_false, Bool.false_eq_true, grd_nil, isTup, oLen, oNe_int]
        exact hq
      | [a], _, hq =>
        have e : isRowD (.tuple [a]) = false := by unfold isRowD rowOf; cases a <;> rfl
        have hq : Qd (.bool (isRowD (.tuple [a]))) n := hq
        rw [e] at hq
        rw [show slotsOf n_18 [Da.d (PyData.tuple [a])] = [Ds.d (.tuple [a])] from rfl]
        simp only [sSeq, sIf, sNext, sAsg, sPar, sPar3, gN, bnd_ret, ret_app, bnd_grd, grd_app, sl_zero, sl_succ, slX_zero, slX_own, slX_succ, slO_zero, slO_own, slO_succ, slH_zero, slH_succ, frz_zero, frz_succ, own_zero, own_succ, onStr_str, asB_bool, asI_int, both_if, either_if, bothD_if, eitherD_if, choose_if, List.set_cons_zero, List.set_cons_succ, Bool.not_true, Bool.not_false, if_true, if_false, Bool.false_eq_true, grd_nil, isTup, oLen, oNe_int]
        exact hq
      | a :: b :: c :: r, _, hq =>
        have e : isRowD (.tuple (a :: b :: c :: r)) = false := by unfold isRowD rowOf; cases a <;> cases b <;> rfl
        have hq : Qd (.bool (isRowD (.tuple (a :: b :: c :: r)))) n := hq
        rw [e] at hq
        rw [show slotsOf n_18 [Da.d (PyData.tuple (a :: b :: c :: r))] = [Ds.d (.tuple (a :: b :: c :: r))] from rfl]
        have en : ((((a :: b :: c :: r).length : Nat) : Int) == 2) = false := by simp only [List.length_cons, beq_eq_false_iff_ne]; omega
        simp only [sSeq, sIf, sNext, sAsg, sPar, sPar3, gN, bnd_ret, ret_app, bnd_grd, grd_app, sl_zero, sl_succ, slX_zero, slX_own, slX_succ, slO_zero, slO_own, slO_succ, slH_zero, slH_succ, frz_zero, frz_succ, own_zero, own_succ, onStr_str, asB_bool, asI_int, both_if, either_if, bothD_if, eitherD_if, choose_if, List.set_cons_zero, List.set_cons_succ, Bool.not_true, Bool.not_false, if_true, if_false, Bool.false_eq_true, grd_nil, isTup, oLen, oNe_int, en]
        exact hq
      | [a, b], _, hq =>
        rw [show slotsOf n_18 [Da.d (PyData.tuple [a, b])] = [Ds.d (.tuple [a, b])] from rfl]
        have e1 : oNe (.int (([a, b] : List Dt).length : Nat)) (.int 2) = Dl.ret (.bool false) := oNe_int _ _
        have e2 : oAt (.tuple [a, b]) (.int 0) = Dl.ret a := rfl
        have e3 : oAt (.tuple [a, b]) (.int 1) = Dl.ret b := rfl
        have hq : Qd (.bool (isRowD (.tuple [a, b]))) n := hq
        cases a with
        | str x =>
          have e4 : oEq (.str x) (.str "row") = Dl.ret (.bool (x == ("row" : Str))) := oEq_str _ _
          have er : isRowD (.tuple [.str x, b]) = ((x == ("row" : Str)) && isTup b) := by
            unfold isRowD rowOf
            cases b with
            | tuple ps =>
              by_cases z : x = ("row" : Str)
              · subst z; simp [isTup]
              · have : (x == ("row" : Str)) = false := by simpa using z
                simp [z, this]
            | _ => simp [isTup]
          rw [er] at hq
          simp only [sSeq, sIf, sNext, sAsg, sPar, sPar3, gN, bnd_ret, ret_app, bnd_grd, grd_app, sl_zero, sl_succ, slX_zero, slX_own, slX_succ, slO_zero, slO_own, slO_succ, slH_zero, slH_succ, frz_zero, frz_succ, own_zero, own_succ, onStr_str, asB_bool, asI_int, both_if, either_if, bothD_if, eitherD_if, choose_if, List.set_cons_zero, List.set_cons_succ, Bool.not_true, Bool.not_false, if_true, if_false, Bool.false_eq_true, grd_nil, isTup, isStr, oLen, e1, e2, e3, e4]
          cases z : (x == ("row" : Str)) <;> (rw [z] at hq; exact hq)
        | _ =>
          simp only [sSeq, sIf, sNext, sAsg, sPar, sPar3, gN, bnd_ret, ret_app, bnd_grd, grd_app, sl_zero, sl_succ, slX_zero, slX_own, slX_succ, slO_zero, slO_own, slO_succ, slH_zero, slH_succ, frz_zero, frz_succ, own_zero, own_succ, onStr_str, asB_bool, asI_int, both_if, either_if, bothD_if, eitherD_if, choose_if, List.set_cons_zero, List.set_cons_succ, Bool.not_true, Bool.not_false, if_true, if_false, Bool.false_eq_true, grd_nil, isTup, isStr, oLen, e1, e2, e3]
          exact hq
    | _ => exact hq


theorem ok_is_named (F : Fc K mg) (K_is_whole : Kn P w K mg base k "is_whole" s_15 ["thing"] (mPure fun x => .bool (isWhole x))) (K_is_name : Kn P w K mg base k "is_name" s_16 ["thing"] (mPure fun x => .bool (isName x))) (D : Df K mg "is_named" s_19 ["thing"] f fd) : Kn P w K mg base (k + 1) "is_named" s_19 ["thing"] (mPure fun x => .bool (isNamed x)) := by
  refine D.kn (FnD.of _ D.d sc_19 (fun cdv A outer s H E g hx room => have hu := hu64 room; have hu1 := hu65 room;
    (dss_cons (ds_if (DW.tst (dw_or (dt_not (DE.tst (de_isi ts_tuple rfl F.m_isinstance rfl F.m_tuple rfl (dx_var 0)))) (dw_or (dt_cmpX (op_notInA hu1) x2_notIn (DE.now (de_callX call_len xc_len rfl F.m_len rfl (dxs_cons (dx_var 0) dxs_nil))) (DE.now (de_tup (des_cons de_int (des_cons de_int des_nil)))) rfl) (dw_or1 (dt_not (DE.tst (de_isi ts_str rfl F.m_isinstance rfl F.m_str rfl (DE.now (de_at (dx_var 0) (DE.now de_int) (fun _ _ => rfl)))))))))) (dss_one (ds_ret de_bl)) dss_nil)
 (dss_cons (ds_if (dt_cmpX (op_eqA hu) x2_eq (DE.now (de_callX call_len xc_len rfl F.m_len rfl (dxs_cons (dx_var 0) dxs_nil))) (DE.now de_int) (nomark _)) (dss_one (ds_ret (de_and (de_cmpX (op_eqA hu) x2_eq (DE.now (de_at (dx_var 0) (DE.now de_int) (fun _ _ => rfl))) (DE.now (de_gs F.c_THING)) (nomark _)) (de_and (de_k K_is_whole hx room (das_cons (DE.arg (de_at (dx_var 0) (DE.now de_int) (fun _ _ => rfl))) das_nil)) (de_one (de_chain op_le op_le x2_cmp x2_cmp (DE.now de_int) (DE.now (de_at (dx_var 0) (DE.now de_int) (fun _ _ => rfl))) (DE.now (de_gi F.c_GREATEST)))))))) dss_nil)
 (dss_one (ds_ret (de_and (de_cmpX (op_inA hu1) x2_in (DE.now (de_at (dx_var 0) (DE.now de_int) (fun _ _ => rfl))) (DE.now (de_tup (des_cons (de_gs F.c_DEED) (des_cons (de_gs F.c_KIND) des_nil)))) rfl) (de_and (de_k K_is_name hx room (das_cons (DE.arg (de_at (dx_var 0) (DE.now de_int) (fun _ _ => rfl))) das_nil)) (de_one (de_k K_is_name hx room (das_cons (DE.arg (de_at (dx_var 0) (DE.now de_int) (fun _ _ => rfl))) das_nil)))))))))) ?_)
  intro as n Qd W hl h
  match as, hl, h with
  | [.d x], _, ⟨hz, hq⟩ =>
    cases x with
    | tuple ds =>
      have ein : ∀ j : Int, oNotIn (.int j) (.tuple [.int 2, .int 3]) = Dl.ret (.bool (!(inD (.int j) [.int 2, .int 3]))) := fun j => grd_true ⟨rfl, rfl⟩ _
      have eid : ∀ j : Int, inD (.int j) [.int 2, .int 3] = ((2 == j) || (3 == j)) := fun j => by
        unfold inD
        simp only [List.any_cons, List.any_nil, Bool.or_false, PyData.eqv]
      match ds, hz, hq with
      | [], _, hq =>
        rw [show slotsOf n_19 [Da.d (PyData.tuple [])] = [Ds.d (.tuple [])] from rfl]
        simp only [sSeq, sIf, sNext, sAsg, sPar, sPar3, gN, bnd_ret, ret_app, bnd_grd, grd_app, sl_zero, sl_succ, slX_zero, slX_own, slX_succ, slO_zero, slO_own, slO_succ, slH_zero, slH_succ, frz_zero, frz_succ, own_zero, own_succ, onStr_str, asB_bool, asI_int, both_if, either_if, bothD_if, eitherD_if, choose_if, List.set_cons_zero, List.set_cons_succ, Bool.not_true, Bool.not_false, if_true, if_false, Bool.false_eq_true, grd_nil, isTup, oLen, ein, eid, grd_true (show ([PyData.int 2, PyData.int 3] : List Dt).length ≤ sizeLine from sz 2)]
        exact hq
      | [a], _, hq =>
        have e : isNamed (.tuple [a]) = false := by unfold isNamed; cases a <;> rfl
        have hq : Qd (.bool (isNamed (.tuple [a]))) n := hq
        rw [e] at hq
        rw [show slotsOf n_19 [Da.d (PyData.tuple [a])] = [Ds.d (.tuple [a])] from rfl]
        simp only [sSeq, sIf, sNext, sAsg, sPar, sPar3, gN, bnd_ret, ret_app, bnd_grd, grd_app, sl_zero, sl_succ, slX_zero, slX_own, slX_succ, slO_zero, slO_own, slO_succ, slH_zero, slH_succ, frz_zero, frz_succ, own_zero, own_succ, onStr_str, asB_bool, asI_int, both_if, either_if, bothD_if, eitherD_if, choose_if, List.set_cons_zero, List.set_cons_succ, Bool.not_true, Bool.not_false, if_true, if_false, Bool.false_eq_true, grd_nil, isTup, oLen, ein, eid, grd_true (show ([PyData.int 2, PyData.int 3] : List Dt).length ≤ sizeLine from sz 2)]
        exact hq
      | a :: b :: c :: d :: r, _, hq =>
        have e : isNamed (.tuple (a :: b :: c :: d :: r)) = false := by unfold isNamed; cases a <;> cases b <;> rfl
        have hq : Qd (.bool (isNamed (.tuple (a :: b :: c :: d :: r)))) n := hq
        rw [e] at hq
        rw [show slotsOf n_19 [Da.d (PyData.tuple (a :: b :: c :: d :: r))] = [Ds.d (.tuple (a :: b :: c :: d :: r))] from rfl]
        have e2 : ((2 : Int) == (((a :: b :: c :: d :: r).length : Nat) : Int)) = false := by simp only [List.length_cons, beq_eq_false_iff_ne]; omega
        have e3 : ((3 : Int) == (((a :: b :: c :: d :: r).length : Nat) : Int)) = false := by simp only [List.length_cons, beq_eq_false_iff_ne]; omega
        simp only [sSeq, sIf, sNext, sAsg, sPar, sPar3, gN, bnd_ret, ret_app, bnd_grd, grd_app, sl_zero, sl_succ, slX_zero, slX_own, slX_succ, slO_zero, slO_own, slO_succ, slH_zero, slH_succ, frz_zero, frz_succ, own_zero, own_succ, onStr_str, asB_bool, asI_int, both_if, either_if, bothD_if, eitherD_if, choose_if, List.set_cons_zero, List.set_cons_succ, Bool.not_true, Bool.not_false, if_true, if_false, Bool.false_eq_true, grd_nil, isTup, oLen, ein, eid, e2, e3, grd_true (show ([PyData.int 2, PyData.int 3] : List Dt).length ≤ sizeLine from sz 2)]
        exact hq
      | [a, b], hz, hq =>
        rw [show slotsOf n_19 [Da.d (PyData.tuple [a, b])] = [Ds.d (.tuple [a, b])] from rfl]
        have l2 : ((([a, b] : List Dt).length : Nat) : Int) = 2 := rfl
        have e2 : oAt (.tuple [a, b]) (.int 0) = Dl.ret a := rfl
        have e3 : oAt (.tuple [a, b]) (.int 1) = Dl.ret b := rfl
        have hq : Qd (.bool (isNamed (.tuple [a, b]))) n := hq
        cases a with
        | str x =>
          have hw := mPure_is (f := fun x => .bool (isWhole x)) (["thing"] : List Str).length rfl (fitW_mem hz (List.mem_cons_of_mem _ List.mem_cons_self) : fitW b)
          have er : isNamed (.tuple [.str x, b]) = ((x == ("thing" : Str)) && thingOk b) := by
            unfold isNamed
            cases b <;> first
              | (by_cases z : x = ("thing" : Str) <;> simp [z, thingOk])
              | simp [thingOk]
          rw [er] at hq
          cases b with
          | int i =>
            simp only [sSeq, sIf, sNext, sAsg, sPar, sPar3, gN, bnd_ret, ret_app, bnd_grd, grd_app, sl_zero, sl_succ, slX_zero, slX_own, slX_succ, slO_zero, slO_own, slO_succ, slH_zero, slH_succ, frz_zero, frz_succ, own_zero, own_succ, onStr_str, asB_bool, asI_int, both_if, either_if, bothD_if, eitherD_if, choose_if, List.set_cons_zero, List.set_cons_succ, Bool.not_true, Bool.not_false, if_true, if_false, Bool.false_eq_true, grd_nil, isTup, isStr, oLen, oC, ein, eid, l2, oEq_int, e2, e3, oEq_str, hw, grd_true (show ([PyData.int 2, PyData.int 3] : List Dt).length ≤ sizeLine from sz 2)]
            have hq : Qd (.bool ((x == ("thing" : Str)) && (decide (0 ≤ i) && decide (i ≤ 1000000000000000)))) n := hq
            cases z : (x == ("thing" : Str)) <;> cases z2 : decide (0 ≤ i) <;> cases z3 : decide (i ≤ 1000000000000000) <;> (rw [z, z2, z3] at hq; first | exact hq | (simp only [z3]; exact hq) | trivial)
          | _ =>
            simp only [sSeq, sIf, sNext, sAsg, sPar, sPar3, gN, bnd_ret, ret_app, bnd_grd, grd_app, sl_zero, sl_succ, slX_zero, slX_own, slX_succ, slO_zero, slO_own, slO_succ, slH_zero, slH_succ, frz_zero, frz_succ, own_zero, own_succ, onStr_str, asB_bool, asI_int, both_if, either_if, bothD_if, eitherD_if, choose_if, List.set_cons_zero, List.set_cons_succ, Bool.not_true, Bool.not_false, if_true, if_false, Bool.false_eq_true, grd_nil, isTup, isStr, oLen, ein, eid, l2, oEq_int, e2, e3, oEq_str, hw, grd_true (show ([PyData.int 2, PyData.int 3] : List Dt).length ≤ sizeLine from sz 2)]
            cases z : (x == ("thing" : Str)) <;> (rw [z] at hq; exact hq)
        | _ =>
          simp only [sSeq, sIf, sNext, sAsg, sPar, sPar3, gN, bnd_ret, ret_app, bnd_grd, grd_app, sl_zero, sl_succ, slX_zero, slX_own, slX_succ, slO_zero, slO_own, slO_succ, slH_zero, slH_succ, frz_zero, frz_succ, own_zero, own_succ, onStr_str, asB_bool, asI_int, both_if, either_if, bothD_if, eitherD_if, choose_if, List.set_cons_zero, List.set_cons_succ, Bool.not_true, Bool.not_false, if_true, if_false, Bool.false_eq_true, grd_nil, isTup, isStr, oLen, ein, eid, l2, e2, e3, grd_true (show ([PyData.int 2, PyData.int 3] : List Dt).length ≤ sizeLine from sz 2)]
          exact hq
      | [a, b, c], hz, hq =>
        rw [show slotsOf n_19 [Da.d (PyData.tuple [a, b, c])] = [Ds.d (.tuple [a, b, c])] from rfl]
        have l2 : ((([a, b, c] : List Dt).length : Nat) : Int) = 3 := rfl
        have e2 : oAt (.tuple [a, b, c]) (.int 0) = Dl.ret a := rfl
        have e3 : oAt (.tuple [a, b, c]) (.int 1) = Dl.ret b := rfl
        have e4 : oAt (.tuple [a, b, c]) (.int 2) = Dl.ret c := rfl
        have hq : Qd (.bool (isNamed (.tuple [a, b, c]))) n := hq
        cases a with
        | str x =>
          have hb := mPure_is (f := fun x => .bool (isName x)) (["thing"] : List Str).length rfl (fitW_mem hz (List.mem_cons_of_mem _ List.mem_cons_self) : fitW b)
          have hc := mPure_is (f := fun x => .bool (isName x)) (["thing"] : List Str).length rfl (fitW_mem hz (List.mem_cons_of_mem _ (List.mem_cons_of_mem _ List.mem_cons_self)) : fitW c)
          have ei : oIn (.str x) (.tuple [.str "deed", .str "kind"]) = Dl.ret (.bool ((("deed" : Str) == x) || (("kind" : Str) == x))) := by
            refine (grd_true ⟨rfl, rfl⟩ _).trans ?_
            show Dl.ret (PyData.bool (inD (.str x) [.str "deed", .str "kind"])) = _
            unfold inD
            simp only [List.any_cons, List.any_nil, Bool.or_false, PyData.eqv]
          have er : isNamed (.tuple [.str x, b, c]) = (((("deed" : Str) == x) || (("kind" : Str) == x)) && isName b && isName c) := by
            have d1 : (("deed" : Str) == x) = decide (x = ("deed" : Str)) := by rw [Bool.eq_iff_iff]; simp; exact eq_comm
            have d2 : (("kind" : Str) == x) = decide (x = ("kind" : Str)) := by rw [Bool.eq_iff_iff]; simp; exact eq_comm
            rw [d1, d2]
            unfold isNamed
            cases b <;> rfl
          rw [er] at hq
          simp only [sSeq, sIf, sNext, sAsg, sPar, sPar3, gN, bnd_ret, ret_app, bnd_grd, grd_app, sl_zero, sl_succ, slX_zero, slX_own, slX_succ, slO_zero, slO_own, slO_succ, slH_zero, slH_succ, frz_zero, frz_succ, own_zero, own_succ, onStr_str, asB_bool, asI_int, both_if, either_if, bothD_if, eitherD_if, choose_if, List.set_cons_zero, List.set_cons_succ, Bool.not_true, Bool.not_false, if_true, if_false, Bool.false_eq_true, grd_nil, isTup, isStr, oLen, ein, eid, l2, oEq_int, e2, e3, e4, ei, hb, hc, grd_true (show ([PyData.int 2, PyData.int 3] : List Dt).length ≤ sizeLine from sz 2), grd_true (show ([PyData.str "deed", PyData.str "kind"] : List Dt).length ≤ sizeLine from sz 2)]
          cases z : ((("deed" : Str) == x) || (("kind" : Str) == x)) <;> cases z2 : isName b <;> cases z3 : isName c <;> (rw [z, z2, z3] at hq; first | exact hq | (simp only [z3]; exact hq))
        | _ =>
          simp only [sSeq, sIf, sNext, sAsg, sPar, sPar3, gN, bnd_ret, ret_app, bnd_grd, grd_app, sl_zero, sl_succ, slX_zero, slX_own, slX_succ, slO_zero, slO_own, slO_succ, slH_zero, slH_succ, frz_zero, frz_succ, own_zero, own_succ, onStr_str, asB_bool, asI_int, both_if, either_if, bothD_if, eitherD_if, choose_if, List.set_cons_zero, List.set_cons_succ, Bool.not_true, Bool.not_false, if_true, if_false, Bool.false_eq_true, grd_nil, isTup, isStr, oLen, ein, eid, l2, e2, e3, grd_true (show ([PyData.int 2, PyData.int 3] : List Dt).length ≤ sizeLine from sz 2)]
          exact hq
    | _ => exact hq


theorem ok_is_bare (F : Fc K mg) (K_is_whole : Kn P w K mg base k "is_whole" s_15 ["thing"] (mPure fun x => .bool (isWhole x))) (K_is_text : Kn P w K mg base k "is_text" s_17 ["thing"] (mPure fun x => .bool (isText x))) (D : Df K mg "is_bare" s_20 ["thing"] f fd) : Kn P w K mg base (k + 1) "is_bare" s_20 ["thing"] (mPure fun x => .bool (isBare x)) := by
  refine D.kn (FnD.of _ D.d sc_20 (fun cdv A outer s H E g hx room => have hu := hu64 room; have hu1 := hu65 room;
    (dss_cons (ds_if (DW.tst (dw_or (dt_cmpX op_isN x2_isN (dx_var 0) (DE.now de_non) (nomark _)) (dw_or1 (DE.tst (de_isi ts_bool rfl F.m_isinstance rfl F.m_bool rfl (dx_var 0)))))) (dss_one (ds_ret de_bl)) dss_nil)
 (dss_cons (ds_if (DE.tst (de_k K_is_whole hx room (das_cons (DE.arg (de_var 0)) das_nil))) (dss_one (ds_ret (de_chain op_le op_le x2_cmp x2_cmp (DE.now (de_sub de_int (de_gi F.c_GREATEST))) (dx_var 0) (DE.now (de_gi F.c_GREATEST))))) dss_nil)
 (dss_one (ds_ret (de_k K_is_text hx room (das_cons (DE.arg (de_var 0)) das_nil))))))) ?_)
  intro as n Qd W hl h
  match as, hl, h with
  | [.d x], _, ⟨hz, hq⟩ =>
    have hw := mPure_is (f := fun x => .bool (isWhole x)) (["thing"] : List Str).length rfl hz
    have ht := mPure_is (f := fun x => .bool (isText x)) (["thing"] : List Str).length rfl hz
    rw [show slotsOf n_20 [Da.d x] = [Ds.d x] from rfl]
    have hq : Qd (.bool (isBare x)) n := hq
    cases x with
    | int i =>
      have hq : Qd (.bool (decide (-1000000000000000 ≤ i) && decide (i ≤ 1000000000000000))) n := hq
      have e0 : oI (fun _ _ => True) (fun i j => i - j) (.int 0) (.int 1000000000000000) = Dl.ret (.int (-1000000000000000)) := grd_true trivial _
      simp only [sSeq, sIf, sNext, sAsg, sPar, sPar3, gN, bnd_ret, ret_app, bnd_grd, grd_app, sl_zero, sl_succ, slX_zero, slX_own, slX_succ, slO_zero, slO_own, slO_succ, slH_zero, slH_succ, frz_zero, frz_succ, own_zero, own_succ, onStr_str, asB_bool, asI_int, both_if, either_if, bothD_if, eitherD_if, choose_if, List.set_cons_zero, List.set_cons_succ, Bool.not_true, Bool.not_false, if_true, if_false, Bool.false_eq_true, grd_nil, isBool, isNone, oIsN, oC, hw, e0]
      cases z2 : decide (-1000000000000000 ≤ i) <;> cases z3 : decide (i ≤ 1000000000000000) <;> (rw [z2, z3] at hq; first | exact hq | (simp only [z3]; exact hq))
    | str y =>
      simp only [sSeq, sIf, sNext, sAsg, sPar, sPar3, gN, bnd_ret, ret_app, bnd_grd, grd_app, sl_zero, sl_succ, slX_zero, slX_own, slX_succ, slO_zero, slO_own, slO_succ, slH_zero, slH_succ, frz_zero, frz_succ, own_zero, own_succ, onStr_str, asB_bool, asI_int, both_if, either_if, bothD_if, eitherD_if, choose_if, List.set_cons_zero, List.set_cons_succ, Bool.not_true, Bool.not_false, if_true, if_false, Bool.false_eq_true, grd_nil, isBool, isNone, oIsN, hw, ht]
      exact hq
    | none => exact hq
    | bool b => exact hq
    | _ =>
      simp only [sSeq, sIf, sNext, sAsg, sPar, sPar3, gN, bnd_ret, ret_app, bnd_grd, grd_app, sl_zero, sl_succ, slX_zero, slX_own, slX_succ, slO_zero, slO_own, slO_succ, slH_zero, slH_succ, frz_zero, frz_succ, own_zero, own_succ, onStr_str, asB_bool, asI_int, both_if, either_if, bothD_if, eitherD_if, choose_if, List.set_cons_zero, List.set_cons_succ, Bool.not_true, Bool.not_false, if_true, if_false, Bool.false_eq_true, grd_nil, isBool, isNone, oIsN, hw, ht]
      exact hq

end

end Ev
namespace Ev
open PySem PySem.Spec L2 Dl
open PyProof.Rows hiding St
section
variable {P : Program} {w : World} {K : PySem.W.Frag} {mg : Str → Option Value} {base : Heap} {f : Addr} {fd : FuncData} {k : Nat}

def mLeaves : List Da → Mv Dt := mPure leavesD
def pairD (p : Dt × Nat) : Dt := .tuple [p.1, .int (p.2 : Nat)]
theorem ok_leaves (F : Fc K mg) (K_is_row : Kn P w K mg base k "is_row" s_18 ["thing"] (mPure fun x => .bool (isRowD x))) (D : Df K mg "leaves" s_21 ["thing"] f fd) : Kn P w K mg base (k + 1) "leaves" s_21 ["thing"] mLeaves := by
  refine D.kn (FnD.of _ D.d sc_21 (fun cdv A outer s H E g hx room => have hu := hu64 room; have hu1 := hu65 room;
    (dss_cons (ds_par3 1 2 3 rfl sc_21.nd (DN.val (dn_lst des_nil)) (DN.val (dn_lst (des_cons (de_tup (des_cons (de_var 0) (des_cons de_int des_nil))) des_nil))) (DE.val de_int))
 (dss_cons (ds_while hx (dt_cmpX (op_neA hu) x2_ne (dx_var 2) (DE.now (DN.dat (dn_lst des_nil))) (nomark _)) (dss_cons (ds_pop 2 (dg_tup (k := 2) rfl (dgs_cons (dg_name 4 sc_21.nd) (dgs_cons (dg_name 5 sc_21.nd) dgs_nil))))
 (dss_cons (ds_aug 3 ip_add sc_21.nd de_int)
 (dss_cons (ds_if (dt_cmpX op_gt x2_cmp (dx_var 3) (DE.now (de_gi F.c_MOST_IN_ALL)) (nomark _)) (dss_one (ds_ret de_non)) dss_nil)
 (dss_one (ds_if (dt_not (DE.tst (de_k K_is_row hx room (das_cons (DE.arg (de_var 4)) das_nil)))) (dss_one (ds_append 1 (de_var 4))) (dss_one (ds_if (DW.tst (dw_or (dt_cmpX (op_eqA hu) x2_eq (dx_var 5) (DE.now (de_gi F.c_DEEPEST)) (nomark _)) (dw_or1 (dt_cmpX op_gt x2_cmp (DE.now (de_callX call_len xc_len rfl F.m_len rfl (dxs_cons (DE.now (de_at (dx_var 4) (DE.now de_int) (fun _ _ => rfl))) dxs_nil))) (DE.now (de_gi F.c_WIDEST)) (nomark _))))) (dss_one (ds_ret de_non)) (dss_one (ds_extend 2 (DE.now (DN.dat (dn_lc rfl sc_21.nd (own := [("part", 6)]) (blk_ok rfl) (DF.di (df_tup (de_at (dx_var 4) (DE.now de_int) (fun _ _ => rfl)))) (fun _ _ _ _ _ => (dg_name 6 sc_21.nd)) (fun _ _ _ _ _ => difs_nil) (fun _ _ _ _ _ => (de_tup (des_cons (de_var 6) (des_cons (de_plus (dx_var 5) (DE.now de_int)) des_nil)))))))))))))))))
 (dss_frz 1 (dss_one (ds_ret (de_var 1))))))) ?_)
  intro as n Qd W hl h
  match as, hl, h with
  | [.d x], _, ⟨hz, hq⟩ =>
    rw [show slotsOf n_21 [Da.d x] = [Ds.d x, .no, .no, .no, .no, .no, .no] from rfl]
    simp only [sSeq, sIf, sNext, sAsg, sPar, sPar3, gN, bnd_ret, ret_app, bnd_grd, grd_app, sl_zero, sl_succ, slX_zero, slX_own, slX_succ, slO_zero, slO_own, slO_succ, slH_zero, slH_succ, frz_zero, frz_succ, own_zero, own_succ, onStr_str, asB_bool, asI_int, both_if, either_if, bothD_if, eitherD_if, choose_if, List.set_cons_zero, List.set_cons_succ, Bool.not_true, Bool.not_false, if_true, if_false, Bool.false_eq_true, grd_nil]
    refine ⟨sz 2, sz 1, fun m δ n' => n' = n ∧ ∃ (ws : List (Dt × Nat)) (many : Nat) (found : List Dt) (e1 e2 : Ds), δ = [Ds.d x, .own found, .own (ws.map pairD), .d (.int (many : Nat)), e1, e2, .no] ∧ m = pileN ws ∧ fin ws many found = leavesD x ∧ many ≤ 200 ∧ found.length ≤ many ∧ ws.length ≤ 1 + 41 * many ∧ ∀ p ∈ ws, fitW p.1 ∧ p.2 ≤ 8, ⟨_, rfl, [(x, 0)], 0, [], .no, .no, rfl, rfl, fin_all x, by omega, Nat.le_refl _, Nat.le_refl _, ?_⟩, ?_⟩
    · intro p hp
      obtain rfl := List.mem_singleton.mp hp
      exact ⟨hz, by show 0 ≤ 8; omega⟩
    rintro m0 δ n' ⟨rfl, ws, many, found, e1, e2, rfl, rfl, hf, hm, hfo, hwl, hall⟩
    simp only [sSeq, sIf, sNext, sAsg, sPar, sPar3, gN, bnd_ret, ret_app, bnd_grd, grd_app, sl_zero, sl_succ, slX_zero, slX_own, slX_succ, slO_zero, slO_own, slO_succ, slH_zero, slH_succ, frz_zero, frz_succ, own_zero, own_succ, onStr_str, asB_bool, asI_int, both_if, either_if, bothD_if, eitherD_if, choose_if, List.set_cons_zero, List.set_cons_succ, Bool.not_true, Bool.not_false, if_true, if_false, Bool.false_eq_true, grd_nil, oNe_nil]
    rcases List.eq_nil_or_concat ws with rfl | ⟨a, ⟨d, kk⟩, rfl⟩
    · rw [fin_nil hm] at hf
      simp only [List.map_nil, List.isEmpty_nil, sSeq, sIf, sNext, sAsg, sPar, sPar3, gN, bnd_ret, ret_app, bnd_grd, grd_app, sl_zero, sl_succ, slX_zero, slX_own, slX_succ, slO_zero, slO_own, slO_succ, slH_zero, slH_succ, frz_zero, frz_succ, own_zero, own_succ, onStr_str, asB_bool, asI_int, both_if, either_if, bothD_if, eitherD_if, choose_if, List.set_cons_zero, List.set_cons_succ, Bool.not_true, Bool.not_false, if_true, if_false, Bool.false_eq_true, grd_nil]
      show Qd (.list found) n'
      rw [hf]
      exact hq
    · obtain ⟨hd, hk⟩ := hall (d, kk) (by simp)
      have hd : fitW d := hd
      have hk : kk ≤ 8 := hk
      have ee : ((a ++ [(d, kk)]).map pairD) = a.map pairD ++ [.tuple [d, .int (kk : Nat)]] := by rw [List.map_append]; rfl
      have en : (a.map pairD ++ [PyData.tuple [d, .int (kk : Nat)]]).isEmpty = false := by simp
      have ci := mPure_is (f := fun x => .bool (isRowD x)) (["thing"] : List Str).length rfl hd
      rw [List.concat_eq_append] at *
      rw [ee, en]
      simp only [sSeq, sIf, sNext, sAsg, sPar, sPar3, gN, bnd_ret, ret_app, bnd_grd, grd_app, sl_zero, sl_succ, slX_zero, slX_own, slX_succ, slO_zero, slO_own, slO_succ, slH_zero, slH_succ, frz_zero, frz_succ, own_zero, own_succ, onStr_str, asB_bool, asI_int, both_if, either_if, bothD_if, eitherD_if, choose_if, List.set_cons_zero, List.set_cons_succ, Bool.not_true, Bool.not_false, if_true, if_false, Bool.false_eq_true, grd_nil, sPop, List.getLast?_concat, List.dropLast_concat, gTupM, gsCons, gsNil, sAug, oC, List.getElem?_cons_succ, List.getElem?_cons_zero, ci]
      refine ⟨rfl, ?_⟩
      by_cases h2 : (200 : Int) < (many : Int) + 1
      · rw [if_pos (decide_eq_true h2)]
        rw [fin_many (by omega)] at hf
        rw [hf]
        exact hq
      rw [if_neg (by rw [decide_eq_false h2]; exact Bool.false_ne_true)]
      have hla : a.length ≤ 41 * many := by
        rw [List.length_append, List.length_cons, List.length_nil] at hwl
        omega
      have s1 : 30000 ≤ sizeLine := by decide
      cases hr : rowOf d with
      | none =>
        have er : isRowD d = false := by unfold isRowD; rw [hr]; rfl
        rw [er]
        simp only [sSeq, sIf, sNext, sAsg, sPar, sPar3, gN, bnd_ret, ret_app, bnd_grd, grd_app, sl_zero, sl_succ, slX_zero, slX_own, slX_succ, slO_zero, slO_own, slO_succ, slH_zero, slH_succ, frz_zero, frz_succ, own_zero, own_succ, onStr_str, asB_bool, asI_int, both_if, either_if, bothD_if, eitherD_if, choose_if, List.set_cons_zero, List.set_cons_succ, Bool.not_true, Bool.not_false, if_true, if_false, Bool.false_eq_true, grd_nil, sAppend]
        refine ⟨by omega, _, ?_, trivial, a, many + 1, found ++ [d], .d d, .d (.int (kk : Nat)), ?_, rfl, (fin_leaf hr hk).symm.trans hf, by omega, ?_, by omega, fun p hp => hall p (List.mem_append_left _ hp)⟩
        · rw [pileN_app, pileN, pileN]
          have := nod_pos d
          show _ < _ + (nod d + 0)
          omega
        · rfl
        · rw [List.length_append, List.length_cons, List.length_nil]
          omega
      | some ps =>
        have er : isRowD d = true := by unfold isRowD; rw [hr]; rfl
        rw [er]
        have ed := rowOf_some hr
        have e1 : oAt d (.int 1) = Dl.ret (.tuple ps) := by rw [ed]; rfl
        have e2 : oLen [PyData.tuple ps] = Dl.ret (.int (ps.length : Nat)) := rfl
        simp only [sSeq, sIf, sNext, sAsg, sPar, sPar3, gN, bnd_ret, ret_app, bnd_grd, grd_app, sl_zero, sl_succ, slX_zero, slX_own, slX_succ, slO_zero, slO_own, slO_succ, slH_zero, slH_succ, frz_zero, frz_succ, own_zero, own_succ, onStr_str, asB_bool, asI_int, both_if, either_if, bothD_if, eitherD_if, choose_if, List.set_cons_zero, List.set_cons_succ, Bool.not_true, Bool.not_false, if_true, if_false, Bool.false_eq_true, grd_nil, e1, e2, oEq_int]
        by_cases h8 : kk = 8
        · rw [fin_deep hr (.inl h8)] at hf
          rw [h8]
          rw [hf]
          exact hq
        have h8' : (((kk : Nat) : Int) == 8) = false := by rw [beq_eq_false_iff_ne]; omega
        rw [h8']
        by_cases h4 : 40 < ps.length
        · rw [fin_deep hr (.inr h4)] at hf
          have h4' : decide ((40 : Int) < (ps.length : Int)) = true := decide_eq_true (by omega)
          simp only [sSeq, sIf, sNext, sAsg, sPar, sPar3, gN, bnd_ret, ret_app, bnd_grd, grd_app, sl_zero, sl_succ, slX_zero, slX_own, slX_succ, slO_zero, slO_own, slO_succ, slH_zero, slH_succ, frz_zero, frz_succ, own_zero, own_succ, onStr_str, asB_bool, asI_int, both_if, either_if, bothD_if, eitherD_if, choose_if, List.set_cons_zero, List.set_cons_succ, Bool.not_true, Bool.not_false, if_true, if_false, Bool.false_eq_true, grd_nil, h4']
          rw [hf]
          exact hq
        have h4' : decide ((40 : Int) < (ps.length : Int)) = false := decide_eq_false (by omega)
        simp only [sSeq, sIf, sNext, sAsg, sPar, sPar3, gN, bnd_ret, ret_app, bnd_grd, grd_app, sl_zero, sl_succ, slX_zero, slX_own, slX_succ, slO_zero, slO_own, slO_succ, slH_zero, slH_succ, frz_zero, frz_succ, own_zero, own_succ, onStr_str, asB_bool, asI_int, both_if, either_if, bothD_if, eitherD_if, choose_if, List.set_cons_zero, List.set_cons_succ, Bool.not_true, Bool.not_false, if_true, if_false, Bool.false_eq_true, grd_nil, h4', sExtend]
        rw [lcD_map (items := ps) (fun p => .tuple [p, .int ((kk + 1 : Nat) : Int)])]
        · simp only [sSeq, sIf, sNext, sAsg, sPar, sPar3, gN, bnd_ret, ret_app, bnd_grd, grd_app, sl_zero, sl_succ, slX_zero, slX_own, slX_succ, slO_zero, slO_own, slO_succ, slH_zero, slH_succ, frz_zero, frz_succ, own_zero, own_succ, onStr_str, asB_bool, asI_int, both_if, either_if, bothD_if, eitherD_if, choose_if, List.set_cons_zero, List.set_cons_succ, Bool.not_true, Bool.not_false, if_true, if_false, Bool.false_eq_true, grd_nil]
          refine ⟨?_, _, ?_, trivial, a ++ ps.map fun p => (p, kk + 1), many + 1, found, .d d, .d (.int (kk : Nat)), ?_, rfl, (fin_row hr (by omega) (by omega)).symm.trans hf, by omega, by omega, ?_, ?_⟩
          · rw [List.length_map, List.length_map]
            omega
          · rw [pileN_app, pileN_app, pileN_map, pileN, pileN]
            show _ < _ + (nod d + 0)
            rw [nod_row hr]
            omega
          · rw [List.map_append, List.map_map]
            rfl
          · rw [List.length_append, List.length_map]
            omega
          · intro p hp
            rcases List.mem_append.mp hp with hp | hp
            · exact hall p (List.mem_append_left _ hp)
            · obtain ⟨q, hq, rfl⟩ := List.mem_map.mp hp
              refine ⟨?_, by show kk + 1 ≤ 8; omega⟩
              have z := fitW_mem (xs := [.str "row", .tuple ps]) (by rw [← ed]; exact hd) (List.mem_cons_of_mem _ List.mem_cons_self)
              exact fitW_mem z hq
        · simp only [sSeq, sIf, sNext, sAsg, sPar, sPar3, gN, bnd_ret, ret_app, bnd_grd, grd_app, sl_zero, sl_succ, slX_zero, slX_own, slX_succ, slO_zero, slO_own, slO_succ, slH_zero, slH_succ, frz_zero, frz_succ, own_zero, own_succ, onStr_str, asB_bool, asI_int, both_if, either_if, bothD_if, eitherD_if, choose_if, List.set_cons_zero, List.set_cons_succ, Bool.not_true, Bool.not_false, if_true, if_false, Bool.false_eq_true, grd_nil, e1]
          rfl
        · intro p hp
          refine ⟨_, rfl, ?_⟩
          simp only [sSeq, sIf, sNext, sAsg, sPar, sPar3, gN, bnd_ret, ret_app, bnd_grd, grd_app, sl_zero, sl_succ, slX_zero, slX_own, slX_succ, slO_zero, slO_own, slO_succ, slH_zero, slH_succ, frz_zero, frz_succ, own_zero, own_succ, onStr_str, asB_bool, asI_int, both_if, either_if, bothD_if, eitherD_if, choose_if, List.set_cons_zero, List.set_cons_succ, Bool.not_true, Bool.not_false, if_true, if_false, Bool.false_eq_true, grd_nil, wipeD_cons, wipeD_nil, List.map]
          exact grd_true (sz 2) _


theorem weight_part {ps : List Dt} {y : Dt} (h : y ∈ ps) : y.weight ≤ (PyData.tuple [.str "row", .tuple ps]).weight := by
  have := weight_mem h
  simp only [PyData.weight, PyData.weightAll]
  omega
mutual
theorem lv_weight (d : Dt) : ∀ y ∈ lv d, y.weight ≤ d.weight := by
  cases h : rowOf d with
  | none =>
    rw [lv_leaf h]
    intro y hy
    rw [List.mem_singleton.mp hy]
    exact Nat.le_refl _
  | some ps =>
    have := rowOf_lt h
    rw [lv_row h]
    intro y hy
    have := lvs_weight ps y hy
    have e := rowOf_some h
    rw [e]
    simp only [PyData.weight, PyData.weightAll]
    omega
termination_by sizeOf d
theorem lvs_weight (ps : List Dt) : ∀ y ∈ lvs ps, y.weight ≤ PyData.weightAll ps := by
  cases ps with
  | nil => intro y hy; rw [lvs] at hy; cases hy
  | cons p ps =>
    intro y hy
    rw [lvs] at hy
    rw [PyData.weightAll]
    rcases List.mem_append.mp hy with hy | hy
    · have := lvs_weight ps y hy; omega
    · have := lv_weight p y hy; omega
termination_by sizeOf ps
end
theorem lv_fit {d : Dt} (h : fitW d) : ∀ y ∈ lv d, fitW y := fun y hy => Nat.le_trans (lv_weight d y hy) h
theorem ok_is_worth (F : Fc K mg) (K_leaves : Kn P w K mg base k "leaves" s_21 ["thing"] mLeaves) (K_is_bare : Kn P w K mg base k "is_bare" s_20 ["thing"] (mPure fun x => .bool (isBare x))) (K_is_named : Kn P w K mg base k "is_named" s_19 ["thing"] (mPure fun x => .bool (isNamed x))) (D : Df K mg "is_worth" s_22 ["thing"] f fd) : Kn P w K mg base (k + 1) "is_worth" s_22 ["thing"] (mPure fun x => .bool (isWorth x)) := by
  refine D.kn (FnD.of _ D.d sc_22 (fun cdv A outer s H E g hx room => have hu := hu64 room; have hu1 := hu65 room;
    (dss_cons (ds_set 1 sc_22.nd (de_k K_leaves hx room (das_cons (DE.arg (de_var 0)) das_nil)))
 (dss_one (ds_ret (de_and (de_cmpX op_notN x2_notN (dx_var 1) (DE.now de_non) (nomark _)) (de_one (de_callX (cr_all rfl) xc_all rfl F.m_all rfl (dxs_cons (DE.now (DN.dat (dn_lc rfl sc_22.nd (own := [("one", 2)]) (blk_ok rfl) (di_list (dx_var 1)) (fun _ _ _ _ _ => (dg_name 2 sc_22.nd)) (fun _ _ _ _ _ => difs_nil) (fun _ _ _ _ _ => (de_or (de_k K_is_bare hx.blk room (das_cons (DE.arg (de_var 2)) das_nil)) (de_one (de_k K_is_named hx.blk room (das_cons (DE.arg (de_var 2)) das_nil)))))))) dxs_nil)))))))) ?_)
  intro as n Qd W hl h
  match as, hl, h with
  | [.d x], _, ⟨hz, hq⟩ =>
    have cl := mPure_is (f := leavesD) (["thing"] : List Str).length rfl hz
    rw [show slotsOf n_22 [Da.d x] = [Ds.d x, .no, .no] from rfl]
    have hq : Qd (.bool (isWorth x)) n := hq
    simp only [sSeq, sIf, sNext, sAsg, sPar, sPar3, gN, bnd_ret, ret_app, bnd_grd, grd_app, sl_zero, sl_succ, slX_zero, slX_own, slX_succ, slO_zero, slO_own, slO_succ, slH_zero, slH_succ, frz_zero, frz_succ, own_zero, own_succ, onStr_str, asB_bool, asI_int, both_if, either_if, bothD_if, eitherD_if, choose_if, List.set_cons_zero, List.set_cons_succ, Bool.not_true, Bool.not_false, if_true, if_false, Bool.false_eq_true, grd_nil, mLeaves, cl]
    unfold leavesD
    unfold isWorth at hq
    by_cases hb : inBounds x = true
    · rw [if_pos hb]
      rw [hb] at hq
      simp only [sSeq, sIf, sNext, sAsg, sPar, sPar3, gN, bnd_ret, ret_app, bnd_grd, grd_app, sl_zero, sl_succ, slX_zero, slX_own, slX_succ, slO_zero, slO_own, slO_succ, slH_zero, slH_succ, frz_zero, frz_succ, own_zero, own_succ, onStr_str, asB_bool, asI_int, both_if, either_if, bothD_if, eitherD_if, choose_if, List.set_cons_zero, List.set_cons_succ, Bool.not_true, Bool.not_false, if_true, if_false, Bool.false_eq_true, grd_nil, isNone, oNotN]
      rw [lcD_map (items := lv x) (fun d => .bool (leafGood d))]
      · rw [bnd_ret, bnd_ret, bnd_ret, oAll_map]
        exact hq
      · rfl
      · intro d hd
        have hf := lv_fit hz d hd
        have c1 := mPure_is (f := fun x => .bool (isBare x)) (["thing"] : List Str).length rfl hf
        have c2 := mPure_is (f := fun x => .bool (isNamed x)) (["thing"] : List Str).length rfl hf
        refine ⟨_, rfl, ?_⟩
        simp only [sSeq, sIf, sNext, sAsg, sPar, sPar3, gN, bnd_ret, ret_app, bnd_grd, grd_app, sl_zero, sl_succ, slX_zero, slX_own, slX_succ, slO_zero, slO_own, slO_succ, slH_zero, slH_succ, frz_zero, frz_succ, own_zero, own_succ, onStr_str, asB_bool, asI_int, both_if, either_if, bothD_if, eitherD_if, choose_if, List.set_cons_zero, List.set_cons_succ, Bool.not_true, Bool.not_false, if_true, if_false, Bool.false_eq_true, grd_nil, wipeD_cons, wipeD_nil, List.map, c1, c2]
        unfold leafGood
        cases isBare d <;> rfl
    · rw [if_neg hb]
      have hb : inBounds x = false := by simpa using hb
      rw [hb] at hq
      exact hq
theorem ok_is_plain (F : Fc K mg) (K_leaves : Kn P w K mg base k "leaves" s_21 ["thing"] mLeaves) (K_is_bare : Kn P w K mg base k "is_bare" s_20 ["thing"] (mPure fun x => .bool (isBare x))) (D : Df K mg "is_plain" s_23 ["thing"] f fd) : Kn P w K mg base (k + 1) "is_plain" s_23 ["thing"] (mPure fun x => .bool (isPlain x)) := by
  refine D.kn (FnD.of _ D.d sc_23 (fun cdv A outer s H E g hx room => have hu := hu64 room; have hu1 := hu65 room;
    (dss_cons (ds_set 1 sc_23.nd (de_k K_leaves hx room (das_cons (DE.arg (de_var 0)) das_nil)))
 (dss_one (ds_ret (de_and (de_cmpX op_notN x2_notN (dx_var 1) (DE.now de_non) (nomark _)) (de_one (de_callX (cr_all rfl) xc_all rfl F.m_all rfl (dxs_cons (DE.now (DN.dat (dn_lc rfl sc_23.nd (own := [("one", 2)]) (blk_ok rfl) (di_list (dx_var 1)) (fun _ _ _ _ _ => (dg_name 2 sc_23.nd)) (fun _ _ _ _ _ => difs_nil) (fun _ _ _ _ _ => (de_k K_is_bare hx.blk room (das_cons (DE.arg (de_var 2)) das_nil)))))) dxs_nil)))))))) ?_)
  intro as n Qd W hl h
  match as, hl, h with
  | [.d x], _, ⟨hz, hq⟩ =>
    have cl := mPure_is (f := leavesD) (["thing"] : List Str).length rfl hz
    rw [show slotsOf n_23 [Da.d x] = [Ds.d x, .no, .no] from rfl]
    have hq : Qd (.bool (isPlain x)) n := hq
    simp only [sSeq, sIf, sNext, sAsg, sPar, sPar3, gN, bnd_ret, ret_app, bnd_grd, grd_app, sl_zero, sl_succ, slX_zero, slX_own, slX_succ, slO_zero, slO_own, slO_succ, slH_zero, slH_succ, frz_zero, frz_succ, own_zero, own_succ, onStr_str, asB_bool, asI_int, both_if, either_if, bothD_if, eitherD_if, choose_if, List.set_cons_zero, List.set_cons_succ, Bool.not_true, Bool.not_false, if_true, if_false, Bool.false_eq_true, grd_nil, mLeaves, cl]
    unfold leavesD
    unfold isPlain at hq
    by_cases hb : inBounds x = true
    · rw [if_pos hb]
      rw [hb] at hq
      simp only [sSeq, sIf, sNext, sAsg, sPar, sPar3, gN, bnd_ret, ret_app, bnd_grd, grd_app, sl_zero, sl_succ, slX_zero, slX_own, slX_succ, slO_zero, slO_own, slO_succ, slH_zero, slH_succ, frz_zero, frz_succ, own_zero, own_succ, onStr_str, asB_bool, asI_int, both_if, either_if, bothD_if, eitherD_if, choose_if, List.set_cons_zero, List.set_cons_succ, Bool.not_true, Bool.not_false, if_true, if_false, Bool.false_eq_true, grd_nil, isNone, oNotN]
      rw [lcD_map (items := lv x) (fun d => .bool (isBare d))]
      · rw [bnd_ret, bnd_ret, bnd_ret, oAll_map]
        exact hq
      · rfl
      · intro d hd
        have hf := lv_fit hz d hd
        have c1 := mPure_is (f := fun x => .bool (isBare x)) (["thing"] : List Str).length rfl hf
        refine ⟨_, rfl, ?_⟩
        simp only [sSeq, sIf, sNext, sAsg, sPar, sPar3, gN, bnd_ret, ret_app, bnd_grd, grd_app, sl_zero, sl_succ, slX_zero, slX_own, slX_succ, slO_zero, slO_own, slO_succ, slH_zero, slH_succ, frz_zero, frz_succ, own_zero, own_succ, onStr_str, asB_bool, asI_int, both_if, either_if, bothD_if, eitherD_if, choose_if, List.set_cons_zero, List.set_cons_succ, Bool.not_true, Bool.not_false, if_true, if_false, Bool.false_eq_true, grd_nil, wipeD_cons, wipeD_nil, List.map, c1]
    · rw [if_neg hb]
      have hb : inBounds x = false := by simpa using hb
      rw [hb] at hq
      exact hq

end
end Ev
namespace Ev
open PySem PySem.Spec L2 Dl
open PyProof.Rows hiding St
section
variable {P : Program} {w : World} {K : PySem.W.Frag} {mg : Str → Option Value} {base : Heap} {f : Addr} {fd : FuncData} {k : Nat}
/-! ### the hand -/
theorem ok_dealt (D : Df K mg "_law_dealt" s_26 ["_law_hand", "_law_lots"] f fd) : Kn P w K mg base (k + 1) "_law_dealt" s_26 ["_law_hand", "_law_lots"] mDealt := by
  refine D.kn (dealt_of D.d sc_26 rfl fun cdv A outer s H E room => ?_)
  have hu : (cxOf (L2.CX P w) P w K mg base n_26 "_law_dealt" (defScope s_26) f cdv A outer s H E).A.units + 64 < cLine := hu64 room
  exact pss_cons (ps_asg (pe_op op_add (pe_ix ix_list (pv 0) pe_int (fun _ _ => rfl)) pe_int) (pg_sub (pv 0) pe_int set_list))
    (pss_cons (ps_set (i := 2) sc_26.nd rfl (.inl rfl) (pe_ix ix_list (pv 0) pe_int (fun _ _ => rfl)))
    (pss_cons (ps_if (pt_cmpR (op_neD hu) (pe_ix ix_list (pv 0) pe_int (fun _ _ => rfl)) (pe_lst pa_nil) (nomark _))
      (pss_cons (ps_set (i := 2) sc_26.nd rfl (.inl rfl) (pe_bm0 PySem.F.plainAttrs_list PySem.F.slot_list_pop PySem.F.type_list_pop mt_pop (pe_ix ix_list (pv 0) pe_int (fun _ _ => rfl))))
      (pss_one (ps_if (pt_cmpR op_ge (pv 2) (pe_op op_pow pe_int pe_int) (nomark _))
        (pss_cons (ps_expr (pe_bm PySem.F.plainAttrs_list PySem.F.slot_list_append PySem.F.type_list_append mt_append (pe_ix ix_list (pv 0) pe_int (fun _ _ => rfl)) (pa_cons (pe_op op_fdiv (pv 2) (pv 1)) pa_nil)))
        (pss_one (ps_ret (pe_op op_mod (pv 2) (pv 1))))) pss_nil))) pss_nil)
    (pss_cons (ps_set (i := 3) sc_26.nd rfl (.inl rfl) (pe_op op_add (pe_op op_add (pe_op op_add (pe_op op_mod (pv 2) pe_int) (pe_op op_mul (pe_op op_mul pe_int (pe_ix ix_list (pv 0) pe_int (fun _ _ => rfl))) (pe_ix ix_list (pv 0) pe_int (fun _ _ => rfl)))) (pe_ix ix_list (pv 0) pe_int (fun _ _ => rfl))) pe_int))
    (pss_cons (ps_set (i := 3) sc_26.nd rfl (.inl rfl) (pe_op op_mod (pe_op op_mul (pv 3) pe_int) pe_int))
    (pss_cons (ps_set (i := 3) sc_26.nd rfl (.inl rfl) (pe_op op_mod (pe_op op_add (pe_op op_add (pe_op op_mul (pv 3) (pv 3)) (pe_op op_mul pe_int (pe_ix ix_list (pv 0) pe_int (fun _ _ => rfl)))) pe_int) pe_int))
    (pss_one (ps_ret (pe_op op_mod (pe_op op_fdiv (pe_op op_mod (pe_op op_mul (pv 3) (pe_op op_add (pe_op op_fdiv (pv 3) pe_int) pe_int)) pe_int) pe_int) (pv 1)))))))))
theorem ok_begun (F : Fc K mg) (D : Df K mg "_law_begun" s_25 ["_law_script"] f fd) : FnG P w K mg base (k + 1) f fd ["_law_script"] (spBegun K) := by
  refine begun_of D.d sc_25 rfl fun cdv A outer s H E => ?_
  exact pss_cons (ps_par (i := 1) (j := 2) rfl sc_25.nd rfl rfl (by decide) rfl rfl (pa_cons (pe_callTy call_list_of rfl F.m_list rfl (pa_cons (pe_slice sl_list (pv 0) po_none (po_some pe_int)) pa_nil)) (pa_cons pe_int pa_nil)) rfl)
    (pss_cons (ps_for (passes_of rfl) rfl (pi_list (pv 1)) (pg_name (i := 3) sc_25.nd rfl (.inl rfl)) (pss_one (ps_set (i := 2) sc_25.nd rfl (.inl rfl) (pe_op op_mod (pe_op op_add (pe_op op_add (pe_op op_mul (pv 2) pe_int) (pe_op op_mod (pv 3) pe_int)) pe_int) pe_int))))
    (pss_one (ps_ret (pe_lst (pa_cons (pe_revL (pv 1)) (pa_cons (pv 2) (pa_cons pe_int pa_nil)))))))
/-- a list is picked from -/
def mPick : List Da → Mv Dt
  | [.hand, .d (.list xs)] => grd (xs ≠ [] ∧ xs.length < 2 ^ 30) (dr 1 (· ∈ xs))
  | _ => bad
theorem pick_at {xs : List Dt} {r : Int} (h0 : 0 ≤ r) (h1 : r < xs.length) : ∃ y, y ∈ xs ∧ oAt (.list xs) (.int r) = ret y := by
  have hr : r.toNat < xs.length := by omega
  have e : L2.atI xs r = some xs[r.toNat] := by
    have z := L2.atI_nat (xs := xs) (j := r.toNat) (v := xs[r.toNat]) (by simp [hr])
    rw [show ((r.toNat : Nat) : Int) = r by omega] at z
    exact z
  refine ⟨xs[r.toNat], List.getElem_mem hr, ?_⟩
  show (match L2.atI xs r with | some y => ret y | none => bad : Mv Dt) = _
  rw [e]
theorem ok_pick (F : Fc K mg) (K__law_dealt : Kn P w K mg base k "_law_dealt" s_26 ["_law_hand", "_law_lots"] mDealt) (D : Df K mg "_law_pick" s_27 ["_law_hand", "_law_some"] f fd) : Kn P w K mg base (k + 1) "_law_pick" s_27 ["_law_hand", "_law_some"] mPick := by
  refine D.kn (FnD.of _ D.d sc_27 (fun cdv A outer s H E g hx room => have hu := hu64 room; have hu1 := hu65 room;
    (dss_one (ds_ret (de_at (dx_var 1) (DE.now (de_k K__law_dealt hx room (das_cons (da_hand 0) (das_cons (DE.arg (de_callX call_len xc_len rfl F.m_len rfl (dxs_cons (dx_var 1) dxs_nil))) das_nil)))) (fun _ _ => rfl))))) ?_)
  intro as n Qd W hl h
  match as, hl, h with
  | [.hand, .d (.list xs)], _, ⟨⟨h1, h2⟩, h3, h4⟩ =>
    have hp : 0 < xs.length := List.length_pos_iff.mpr h1
    refine ⟨rfl, by omega, by omega, h3, fun r r0 r1 => ?_⟩
    obtain ⟨y, hy, e⟩ := pick_at r0 r1
    show oAt (.list xs) (.int r) (n - 1) Qd W
    rw [e]
    exact h4 y (n - 1) hy (by omega)

/-- never called -/
theorem Kn.never {x : Str} {st : Stmt} {ps : List Str} (D : Df K mg x st ps f fd) : Kn P w K mg base k x st ps (fun _ => bad) :=
  D.kn ⟨fun vs H Q E ⟨hd, F, as, n, Qd, W, rb, da, hl, hm, q⟩ => hm.elim, fun A outer s H args us vs Q E room gu e b v ⟨hd, F, as, n, Qd, W, rb, da, hl, hm, q⟩ => hm.elim⟩
def mLabel : List Da → Mv Dt
  | [.hand] => dr 1 (Oq 8 0)
  | _ => bad
theorem ok_label (F : Fc K mg) (K__law_pick : Kn P w K mg base k "_law_pick" s_27 ["_law_hand", "_law_some"] mPick) (D : Df K mg "_law_label" s_28 ["_law_hand"] f fd) : Kn P w K mg base (k + 1) "_law_label" s_28 ["_law_hand"] mLabel := by
  refine D.kn (FnD.of _ D.d sc_28 (fun cdv A outer s H E g hx room => have hu := hu64 room; have hu1 := hu65 room;
    (dss_one (ds_ret (de_k K__law_pick hx room (das_cons (da_hand 0) (das_cons (DE.arg (DN.dat (dn_lst (des_cons de_str (des_cons de_str (des_cons de_str (des_cons de_str (des_cons de_str (des_cons de_str (des_cons de_str (des_cons de_str des_nil))))))))))) das_nil)))))) ?_)
  intro as n Qd W hl h
  match as, hl, h with
  | [.hand], _, ⟨hn, hq⟩ =>
    exact ⟨sz 8, rfl, ⟨fun z => (nomatch z), by show 8 < 2 ^ 30; decide⟩, hn, fun y m hy hm => hq y m (oqs_of (w := 8) (h := 0) (by decide +kernel) y hy) hm⟩
def mLeaf : List Da → Mv Dt
  | [.hand] => dr 6 (Oq 200 1)
  | _ => bad
theorem ok_leaf (F : Fc K mg) (K__law_dealt : Kn P w K mg base k "_law_dealt" s_26 ["_law_hand", "_law_lots"] mDealt) (K__law_pick : Kn P w K mg base k "_law_pick" s_27 ["_law_hand", "_law_some"] mPick) (K__law_label : Kn P w K mg base k "_law_label" s_28 ["_law_hand"] mLabel) (D : Df K mg "_law_leaf" s_29 ["_law_hand"] f fd) : Kn P w K mg base (k + 1) "_law_leaf" s_29 ["_law_hand"] mLeaf := by
  refine D.kn (FnD.of _ D.d sc_29 (fun cdv A outer s H E g hx room => have hu := hu64 room; have hu1 := hu65 room;
    (dss_cons (ds_par 1 2 rfl sc_29.nd (DE.val (de_k K__law_dealt hx room (das_cons (da_hand 0) (das_cons (DE.arg de_int) das_nil)))) (DE.val (de_k K__law_pick hx room (das_cons (da_hand 0) (das_cons (DE.arg (DN.dat (dn_lst (des_cons de_int (des_cons de_int (des_cons de_int (des_cons de_int (des_cons de_int (des_cons de_int (des_cons de_int (des_cons (de_pow de_int de_int) des_nil))))))))))) das_nil)))))
 (dss_cons (ds_own 3 sc_29.nd (dn_lst (des_cons de_str (des_cons de_str (des_cons de_str (des_cons de_str (des_cons de_str (des_cons de_str (des_cons de_str (des_cons de_str (des_cons de_str (des_cons de_str (des_cons de_str (des_cons de_str (des_cons de_str des_nil)))))))))))))))
 (dss_cons (ds_append 3 de_str)
 (dss_frz 3 (dss_cons (ds_par3 4 5 6 rfl sc_29.nd (DE.val (de_k K__law_pick hx room (das_cons (da_hand 0) (das_cons (DE.arg (de_var 3)) das_nil)))) (DE.val (de_k K__law_label hx room (das_cons (da_hand 0) das_nil))) (DE.val (de_k K__law_label hx room (das_cons (da_hand 0) das_nil))))
 (dss_cons (ds_set 7 sc_29.nd (DN.dat (dn_lst (des_cons de_non (des_cons de_bl (des_cons de_bl (des_cons (de_var 2) (des_cons (de_sub de_int (de_var 2)) (des_cons (de_var 4) (des_cons (de_tup (des_cons de_str (des_cons (de_var 2) des_nil))) des_nil))))))))))
 (dss_one (ds_ret (de_at (DE.now (de_plus (dx_var 7) (DE.now (DN.dat (dn_lst (des_cons (de_tup (des_cons (de_at (DE.now (DN.dat (dn_lst (des_cons de_str (des_cons de_str des_nil))))) (DE.now (de_k K__law_dealt hx room (das_cons (da_hand 0) (das_cons (DE.arg de_int) das_nil)))) (fun _ _ => rfl)) (des_cons (de_var 5) (des_cons (de_var 6) des_nil)))) des_nil)))))) (dx_var 1) (fun _ _ => rfl))))))))))) ?_)
  intro as n Qd W hl h
  match as, hl, h with
  | [.hand], _, ⟨hn, hq⟩ =>
    rw [show slotsOf n_29 [Da.hand] = [.hand, .no, .no, .no, .no, .no, .no, .no] from rfl]
    simp only [sSeq, sIf, sNext, sAsg, sPar, sPar3, gN, bnd_ret, ret_app, bnd_grd, grd_app, sl_zero, sl_succ, slX_zero, slX_own, slX_succ, slO_zero, slO_own, slO_succ, slH_zero, slH_succ, frz_zero, frz_succ, own_zero, own_succ, onStr_str, asB_bool, asI_int, both_if, either_if, bothD_if, eitherD_if, choose_if, List.set_cons_zero, List.set_cons_succ, Bool.not_true, Bool.not_false, if_true, if_false, Bool.false_eq_true, grd_nil, bnd_app, sOwn, sAppend]
    refine ⟨rfl, by omega, by omega, by omega, fun r1 a1 b1 => ?_⟩
    refine ⟨⟨by omega, by omega, by decide⟩, sz 8, rfl, ⟨fun z => (nomatch z), by show 8 < 2 ^ 30; decide⟩, by omega, fun num m1 hy1 hm1 => ?_⟩
    obtain ⟨i, rfl, hi⟩ : ∃ i, num = .int i ∧ i.natAbs ≤ 10 ^ 15 := by
      have hy1 : num ∈ ([.int 0, .int 1, .int 9, .int 10, .int 99, .int 100, .int 999999, .int (10 ^ 15)] : List Dt) := hy1
      simp only [List.mem_cons, List.not_mem_nil, or_false] at hy1
      rcases hy1 with h | h | h | h | h | h | h | h <;> exact ⟨_, h, by decide⟩
    refine ⟨sz 13, by show 13 < sizeLine; decide, rfl, ⟨fun z => (nomatch z), by show 14 < 2 ^ 30; decide⟩, by omega, fun wd m2 hy2 hm2 => ?_⟩
    have hwd : Oq 200 0 wd := oqs_of (w := 200) (h := 0) (by decide +kernel) wd hy2
    refine ⟨rfl, by omega, fun l1 m3 hl1 hm3 => ⟨rfl, by omega, fun l2 m4 hl2 hm4 => ?_⟩⟩
    refine ⟨trivial, sz 2, sz 7, sz 2, rfl, by omega, by omega, by omega, fun r2 a2 b2 => ?_⟩
    obtain ⟨kd, hk, e⟩ := pick_at (xs := [.str "deed", .str "kind"]) a2 b2
    have hkd : Oq 4 0 kd := oqs_of (w := 4) (h := 0) (by decide +kernel) kd hk
    show oAt _ _ _ _ _
    rw [e]
    have hi1 : i.natAbs < 10 ^ 40 := Nat.lt_of_le_of_lt hi (by decide)
    have oi : Oq 140 0 (.int i) := Oq.int hi1
    have oj : Oq 140 0 (.int (0 - i)) := Oq.int (by omega)
    refine ⟨sz 3, sz 1, show 7 + 1 ≤ sizeLine by decide, ?_⟩
    obtain ⟨y, hy, e2⟩ := pick_at (xs := ([.none, .bool true, .bool false, .int i, .int (0 - i), wd, .tuple [.str "thing", .int i]] : List Dt) ++ ([.tuple [kd, l1, l2]] : List Dt)) a1 (show r1 < ((8 : Nat) : Int) from b1)
    show oAt (.list ([.none, .bool true, .bool false, .int i, .int (0 - i), wd, .tuple [.str "thing", .int i]] ++ [.tuple [kd, l1, l2]])) (.int r1) _ _ _
    rw [e2]
    refine hq y _ ?_ (by omega)
    rw [List.mem_append] at hy
    simp only [List.mem_cons, List.not_mem_nil, or_false] at hy
    rcases hy with (rfl | rfl | rfl | rfl | rfl | rfl | rfl) | rfl
    · exact Oq.none.more (by omega) (by omega)
    · exact (Oq.bool _).more (by omega) (by omega)
    · exact (Oq.bool _).more (by omega) (by omega)
    · exact oi.more (by omega) (by omega)
    · exact oj.more (by omega) (by omega)
    · exact hwd.more (by omega) (by omega)
    · exact (Oq.tup (Oqs.cons (w := 10) (h := 0) (oq_of (by decide +kernel)) (Oqs.cons oi (Oqs.nil (w := 0))))).more (w' := 200) (by omega) (by omega)
    · exact (Oq.tup (Oqs.cons (hkd.more (h' := 0) (Nat.le_refl _) (by omega)) (Oqs.cons hl1 (Oqs.cons hl2 (Oqs.nil (w := 0)))))).more (w' := 200) (by omega) (by omega)
def looksD : List Dt := [.tuple [.str "thing", .int 5], .tuple [.str "deed", .str "a", .str "b"], .tuple [.str "kind", .str "a", .str "b"], .tuple [.str "row", .int 5], .tuple [.str "row", .tuple [.str "row", .tuple []]], .tuple [.str "row"]].map fun p => .tuple [.str "row", p]
theorem looks_oq : ∀ y ∈ looksD, Oq 200 4 y := oqs_of (by decide +kernel)
def mLooks : List Da → Mv Dt
  | [] => Dl.ret (.list looksD)
  | _ => bad
theorem ok_looks (F : Fc K mg) (D : Df K mg "_law_alike_looks" s_30 [] f fd) : Kn P w K mg base (k + 1) "_law_alike_looks" s_30 [] mLooks := by
  refine D.kn (FnD.of _ D.d sc_30 (fun cdv A outer s H E g hx room => have hu := hu64 room; have hu1 := hu65 room;
    (dss_cons (ds_set 0 sc_30.nd (DN.dat (dn_lst (des_cons (de_tup (des_cons de_str (des_cons de_int des_nil))) (des_cons (de_tup (des_cons de_str (des_cons de_str (des_cons de_str des_nil)))) (des_cons (de_tup (des_cons de_str (des_cons de_str (des_cons de_str des_nil)))) (des_cons (de_tup (des_cons de_str (des_cons de_int des_nil))) (des_cons (de_tup (des_cons de_str (des_cons (de_tup (des_cons de_str (des_cons (de_tup des_nil) des_nil))) des_nil))) (des_cons (de_tup (des_cons de_str des_nil)) des_nil)))))))))
 (dss_one (ds_ret (DN.dat (dn_lc rfl sc_30.nd (own := [("_law_parts", 1)]) (blk_ok rfl) (di_list (dx_var 0)) (fun _ _ _ _ _ => (dg_name 1 sc_30.nd)) (fun _ _ _ _ _ => difs_nil) (fun _ _ _ _ _ => (de_tup (des_cons de_str (des_cons (de_var 1) des_nil)))))))))) ?_)
  intro as n Qd W hl h
  match as, hl, h with
  | [], _, hq =>
    rw [show slotsOf n_30 [] = [.no, .no] from rfl]
    simp only [sSeq, sIf, sNext, sAsg, sPar, sPar3, gN, bnd_ret, ret_app, bnd_grd, grd_app, sl_zero, sl_succ, slX_zero, slX_own, slX_succ, slO_zero, slO_own, slO_succ, slH_zero, slH_succ, frz_zero, frz_succ, own_zero, own_succ, onStr_str, asB_bool, asI_int, both_if, either_if, bothD_if, eitherD_if, choose_if, List.set_cons_zero, List.set_cons_succ, Bool.not_true, Bool.not_false, if_true, if_false, Bool.false_eq_true, grd_nil, bnd_app]
    exact ⟨sz 2, sz 3, sz 3, sz 2, sz 2, sz 2, sz 1, sz 6, sz 2, sz 2, sz 2, sz 2, sz 2, sz 2, hq⟩
/-- what one drawing costs at most, and weighs -/
def cD : Nat → Nat
  | 0 => 7
  | j + 1 => 2 + 4 * cD j
def wD : Nat → Nat
  | 0 => 200
  | j + 1 => 4 * (wD j + 1) + 10
theorem cD_ge (j : Nat) : 7 ≤ cD j := by
  induction j with
  | zero => exact Nat.le_refl _
  | succ j ih => unfold cD; omega
theorem wD_ge (j : Nat) : 200 ≤ wD j := by
  induction j with
  | zero => exact Nat.le_refl _
  | succ j ih => unfold wD; omega
def mDrawn (j : Nat) : List Da → Mv Dt
  | [.hand, .d (.int e)] => grd (0 ≤ e ∧ e.toNat = j) (dr (cD j) (Oq (wD j) (2 * j + 4)))
  | _ => bad
theorem row_oq {w h : Nat} {ds : List Dt} (o : Oqs w h ds) : Oq (w + 5) (h + 2) (.tuple [.str "row", .tuple ds]) :=
  (Oq.tup (Oqs.cons (w := 3) (h := h + 1) (oq_of (w := 3) (h := 0) (by decide +kernel) |>.more (Nat.le_refl _) (by omega)) (Oqs.cons (Oq.tup o) (Oqs.nil (w := 0))))).more (by omega) (by omega)
theorem ok_drawn {j : Nat} {mR : List Da → Mv Dt} (hR : ∀ i, j = i + 1 → mR = mDrawn i) (F : Fc K mg) (K__law_dealt : Kn P w K mg base k "_law_dealt" s_26 ["_law_hand", "_law_lots"] mDealt) (K__law_pick : Kn P w K mg base k "_law_pick" s_27 ["_law_hand", "_law_some"] mPick) (K__law_leaf : Kn P w K mg base k "_law_leaf" s_29 ["_law_hand"] mLeaf) (K__law_alike_looks : Kn P w K mg base k "_law_alike_looks" s_30 [] mLooks) (K__law_drawn : Kn P w K mg base k "_law_drawn" s_31 ["_law_hand", "_law_deep"] mR) (D : Df K mg "_law_drawn" s_31 ["_law_hand", "_law_deep"] f fd) : Kn P w K mg base (k + 1) "_law_drawn" s_31 ["_law_hand", "_law_deep"] (mDrawn j) := by
  refine D.kn (FnD.of _ D.d sc_31 (fun cdv A outer s H E g hx room => have hu := hu64 room; have hu1 := hu65 room;
    (dss_cons (ds_set 2 sc_31.nd (de_k K__law_dealt hx room (das_cons (da_hand 0) (das_cons (DE.arg de_int) das_nil))))
 (dss_cons (ds_if (DW.tst (dw_or (dt_cmpX (op_eqA hu) x2_eq (dx_var 1) (DE.now de_int) (nomark _)) (dw_or1 (dt_cmpX op_ltA x2_lt (dx_var 2) (DE.now de_int) (nomark _))))) (dss_one (ds_ret (de_k K__law_leaf hx room (das_cons (da_hand 0) das_nil)))) dss_nil)
 (dss_cons (ds_if (dt_cmpX (op_eqA hu) x2_eq (dx_var 2) (DE.now de_int) (nomark _)) (dss_one (ds_ret (de_k K__law_pick hx room (das_cons (da_hand 0) (das_cons (DE.arg (de_k0 K__law_alike_looks hx room)) das_nil))))) dss_nil)
 (dss_one (ds_ret (de_tup (des_cons de_str (des_cons (de_tupleC rfl F.m_tuple (DE.now (DN.dat (dn_lc rfl sc_31.nd (own := [("_law_turn", 3)]) (blk_ok rfl) (DF.di (df_range1 rfl F.m_range (de_k K__law_dealt hx room (das_cons (da_hand 0) (das_cons (DE.arg de_int) das_nil))))) (fun _ _ _ _ _ => (dg_name 3 sc_31.nd)) (fun _ _ _ _ _ => difs_nil) (fun _ _ _ _ _ => (de_k K__law_drawn hx.blk room (das_cons (da_hand 0) (das_cons (DE.arg (de_sub (de_var 1) de_int)) das_nil)))))))) des_nil))))))))) ?_)
  intro as n Qd W hl h
  match as, hl, h with
  | [.hand, .d (.int e)], _, ⟨⟨he, hj⟩, hn, hq⟩ =>
    have c7 := cD_ge j
    have w7 := wD_ge j
    rw [show slotsOf n_31 [Da.hand, Da.d (PyData.int e)] = [.hand, .d (.int e), .no, .no] from rfl]
    simp only [sSeq, sIf, sNext, sAsg, sPar, sPar3, gN, bnd_ret, ret_app, bnd_grd, grd_app, sl_zero, sl_succ, slX_zero, slX_own, slX_succ, slO_zero, slO_own, slO_succ, slH_zero, slH_succ, frz_zero, frz_succ, own_zero, own_succ, onStr_str, asB_bool, asI_int, both_if, either_if, bothD_if, eitherD_if, choose_if, List.set_cons_zero, List.set_cons_succ, Bool.not_true, Bool.not_false, if_true, if_false, Bool.false_eq_true, grd_nil, bnd_app, oEq_int, oLt]
    refine ⟨rfl, by omega, by omega, by omega, fun r1 a1 b1 => ?_⟩
    have hleaf : ∀ m, n ≤ m + 1 → many (["_law_hand"] : List Str).length mLeaf [Da.hand] m Qd W := fun m hm => ⟨rfl, by omega, fun y m2 hy hm2 => hq y m2 (hy.more (by omega) (by omega)) (by omega)⟩
    cases z : (e == 0) with
    | true =>
      simp only [z, if_true]
      exact hleaf _ (by omega)
    | false =>
    have he0 : e ≠ 0 := by simpa using z
    simp only [z, Bool.false_eq_true, if_false]
    cases z2 : decide (r1 < 2) with
    | true =>
      simp only [sSeq, sIf, sNext, sAsg, sPar, sPar3, gN, bnd_ret, ret_app, bnd_grd, grd_app, sl_zero, sl_succ, slX_zero, slX_own, slX_succ, slO_zero, slO_own, slO_succ, slH_zero, slH_succ, frz_zero, frz_succ, own_zero, own_succ, onStr_str, asB_bool, asI_int, both_if, either_if, bothD_if, eitherD_if, choose_if, List.set_cons_zero, List.set_cons_succ, Bool.not_true, Bool.not_false, if_true, if_false, Bool.false_eq_true, grd_nil, z2]
      exact hleaf _ (by omega)
    | false =>
    simp only [sSeq, sIf, sNext, sAsg, sPar, sPar3, gN, bnd_ret, ret_app, bnd_grd, grd_app, sl_zero, sl_succ, slX_zero, slX_own, slX_succ, slO_zero, slO_own, slO_succ, slH_zero, slH_succ, frz_zero, frz_succ, own_zero, own_succ, onStr_str, asB_bool, asI_int, both_if, either_if, bothD_if, eitherD_if, choose_if, List.set_cons_zero, List.set_cons_succ, Bool.not_true, Bool.not_false, if_true, if_false, Bool.false_eq_true, grd_nil, z2, oEq_int]
    cases z3 : (r1 == 5) with
    | true =>
      simp only [sSeq, sIf, sNext, sAsg, sPar, sPar3, gN, bnd_ret, ret_app, bnd_grd, grd_app, sl_zero, sl_succ, slX_zero, slX_own, slX_succ, slO_zero, slO_own, slO_succ, slH_zero, slH_succ, frz_zero, frz_succ, own_zero, own_succ, onStr_str, asB_bool, asI_int, both_if, either_if, bothD_if, eitherD_if, choose_if, List.set_cons_zero, List.set_cons_succ, Bool.not_true, Bool.not_false, if_true, if_false, Bool.false_eq_true, grd_nil, z3]
      exact ⟨rfl, ⟨fun z => (nomatch z), by show 6 < 2 ^ 30; decide⟩, by omega, fun y m hy hm => hq y m ((looks_oq y hy).more (by omega) (by omega)) (by omega)⟩
    | false =>
    simp only [sSeq, sIf, sNext, sAsg, sPar, sPar3, gN, bnd_ret, ret_app, bnd_grd, grd_app, sl_zero, sl_succ, slX_zero, slX_own, slX_succ, slO_zero, slO_own, slO_succ, slH_zero, slH_succ, frz_zero, frz_succ, own_zero, own_succ, onStr_str, asB_bool, asI_int, both_if, either_if, bothD_if, eitherD_if, choose_if, List.set_cons_zero, List.set_cons_succ, Bool.not_true, Bool.not_false, if_true, if_false, Bool.false_eq_true, grd_nil, z3]
    obtain ⟨i, rfl⟩ : ∃ i, j = i + 1 := ⟨j - 1, by omega⟩
    rw [hR i rfl]
    have hc : cD (i + 1) = 2 + 4 * cD i := rfl
    have hw : wD (i + 1) = 4 * (wD i + 1) + 10 := rfl
    refine ⟨rfl, by omega, by omega, by omega, fun r2 a2 b2 => ⟨⟨by omega, by omega⟩, ?_⟩⟩
    have hl4 : (upTo 0 r2.toNat).length ≤ 4 := by rw [upTo_length]; omega
    have hm4 : (upTo 0 r2.toNat).length * cD i ≤ 4 * cD i := Nat.mul_le_mul_right _ hl4
    refine lc_draw (P := Oq (wD i) (2 * i + 4)) (c := cD i) (upTo 0 r2.toNat) [] _ _ (fun x hx => ⟨_, rfl, rfl, fun n Q W hq => ⟨trivial, rfl, ⟨by show 0 ≤ e - 1; omega, by show (e - 1).toNat = i; omega⟩, hq⟩⟩) (by omega) (fun ys m hl ha hm => ?_)
    have hy4 : ys.length * (wD i + 1) ≤ 4 * (wD i + 1) := Nat.mul_le_mul_right _ (by omega)
    exact ⟨sz 2, hq _ _ ((row_oq (Oqs.of ha)).more (by omega) (by omega)) (by omega)⟩
theorem drawn_all (F : Fc K mg) (K__law_dealt : Kn P w K mg base k "_law_dealt" s_26 ["_law_hand", "_law_lots"] mDealt) (K__law_pick : Kn P w K mg base k "_law_pick" s_27 ["_law_hand", "_law_some"] mPick) (K__law_leaf : Kn P w K mg base k "_law_leaf" s_29 ["_law_hand"] mLeaf) (K__law_alike_looks : Kn P w K mg base k "_law_alike_looks" s_30 [] mLooks) (D : Df K mg "_law_drawn" s_31 ["_law_hand", "_law_deep"] f fd) : ∀ j, Kn P w K mg base (k + j + 1) "_law_drawn" s_31 ["_law_hand", "_law_deep"] (mDrawn j)
  | 0 => ok_drawn (fun i h => by omega) F K__law_dealt K__law_pick K__law_leaf K__law_alike_looks (Kn.never D) D
  | j + 1 => ok_drawn (mR := mDrawn j) (fun i h => by cases h; rfl) F (K__law_dealt.more (by omega)) (K__law_pick.more (by omega)) (K__law_leaf.more (by omega)) (K__law_alike_looks.more (by omega)) (drawn_all F K__law_dealt K__law_pick K__law_leaf K__law_alike_looks D j) D
/-! ### chains and wide ones -/
def chainD (x : Dt) : Nat → Dt
  | 0 => x
  | n + 1 => chainD (.tuple [.str "row", .tuple [x]]) n
def wideD (x : Dt) (n : Nat) : Dt := .tuple [.str "row", .tuple (List.replicate n x)]
theorem chain_oq {w h : Nat} : ∀ (n : Nat) {x : Dt}, Oq w h x → Oq (w + 10 * n) (h + 2 * n) (chainD x n)
  | 0, x, o => o
  | n + 1, x, o => (chain_oq n ((row_oq (Oqs.cons o (Oqs.nil (w := 0)))).more (w' := w + 10) (h' := h + 2) (by omega) (by omega))).more (by omega) (by omega)
theorem rep_oq {w h n : Nat} {x : Dt} (o : Oq w h x) : Oqs (n * (w + 1)) h (List.replicate n x) := by
  have z := Oqs.of (ds := List.replicate n x) (w := w) (h := h) fun d hd => by rw [(List.mem_replicate.mp hd).2]; exact o
  rw [List.length_replicate] at z
  exact z
theorem wide_oq {w h n : Nat} {x : Dt} (o : Oq w h x) : Oq (n * (w + 1) + 5) (h + 2) (wideD x n) := row_oq (rep_oq o)
def mChain : List Da → Mv Dt
  | [.d x, .d (.int n)] => grd (0 ≤ n ∧ n ≤ 100) (Dl.ret (chainD x n.toNat))
  | _ => bad
def mWide : List Da → Mv Dt
  | [.d x, .d (.int n)] => grd (2 ≤ n ∧ n ≤ 100) (Dl.ret (wideD x n.toNat))
  | _ => bad
theorem ok_chain (F : Fc K mg) (D : Df K mg "_law_chain" s_32 ["_law_inner", "_law_lots"] f fd) : Kn P w K mg base (k + 1) "_law_chain" s_32 ["_law_inner", "_law_lots"] mChain := by
  refine D.kn (FnD.of _ D.d sc_32 (fun cdv A outer s H E g hx room => have hu := hu64 room; have hu1 := hu65 room;
    (dss_cons (ds_for hx (df_range1 rfl F.m_range (de_var 1)) (dg_name 2 sc_32.nd) (dss_one (ds_set 0 sc_32.nd (de_tup (des_cons de_str (des_cons (de_tup (des_cons (de_var 0) des_nil)) des_nil))))))
 (dss_one (ds_ret (de_var 0))))) ?_)
  intro as n Qd W hl h
  match as, hl, h with
  | [.d x, .d (.int e)], _, ⟨⟨h1, h2⟩, hq⟩ =>
    rw [show slotsOf n_32 [Da.d x, Da.d (PyData.int e)] = [.d x, .d (.int e), .no] from rfl]
    simp only [sSeq, sIf, sNext, sAsg, sPar, sPar3, gN, bnd_ret, ret_app, bnd_grd, grd_app, sl_zero, sl_succ, slX_zero, slX_own, slX_succ, slO_zero, slO_own, slO_succ, slH_zero, slH_succ, frz_zero, frz_succ, own_zero, own_succ, onStr_str, asB_bool, asI_int, both_if, either_if, bothD_if, eitherD_if, choose_if, List.set_cons_zero, List.set_cons_succ, Bool.not_true, Bool.not_false, if_true, if_false, Bool.false_eq_true, grd_nil, bnd_app, sFor]
    refine ⟨⟨by omega, by omega⟩, ?_⟩
    generalize hb : (sAsg _ _ : Ms) = B
    have turn : ∀ (x : Dt) (s : Ds) (k : Sk), k.nx [.d (.tuple [.str "row", .tuple [x]]), .d (.int e), s] n → B [.d x, .d (.int e), s] n k W := by
      intro x s k h
      rw [← hb]
      exact ⟨sz 1, sz 2, h⟩
    have key : ∀ (items : List Dt) (x : Dt) (s : Ds), Qd (chainD x items.length) n → Dl.forM (gN 2) B items [Ds.d x, Ds.d (PyData.int e), s] n { nx := fun δ' n' => sl 0 δ' n' Qd W, rt := Qd } W := by
      intro items
      induction items with
      | nil => exact fun x s h => h
      | cons y r ih => exact fun x s h => turn _ _ _ (ih _ _ h)
    refine key _ _ _ ?_
    rw [upTo_length]
    exact hq
theorem ok_wide (F : Fc K mg) (D : Df K mg "_law_wide" s_33 ["_law_inner", "_law_lots"] f fd) : Kn P w K mg base (k + 1) "_law_wide" s_33 ["_law_inner", "_law_lots"] mWide := by
  refine D.kn (FnD.of _ D.d sc_33 (fun cdv A outer s H E g hx room => have hu := hu64 room; have hu1 := hu65 room;
    (dss_one (ds_ret (de_tup (des_cons de_str (des_cons (de_times (DE.now (de_tup (des_cons (de_var 0) des_nil))) (dx_var 1)) des_nil)))))) ?_)
  intro as n Qd W hl h
  match as, hl, h with
  | [.d x, .d (.int e)], _, ⟨⟨h1, h2⟩, hq⟩ =>
    rw [show slotsOf n_33 [Da.d x, Da.d (PyData.int e)] = [.d x, .d (.int e)] from rfl]
    simp only [sSeq, sIf, sNext, sAsg, sPar, sPar3, gN, bnd_ret, ret_app, bnd_grd, grd_app, sl_zero, sl_succ, slX_zero, slX_own, slX_succ, slO_zero, slO_own, slO_succ, slH_zero, slH_succ, frz_zero, frz_succ, own_zero, own_succ, onStr_str, asB_bool, asI_int, both_if, either_if, bothD_if, eitherD_if, choose_if, List.set_cons_zero, List.set_cons_succ, Bool.not_true, Bool.not_false, if_true, if_false, Bool.false_eq_true, grd_nil, bnd_app]
    refine ⟨sz 1, ⟨fun z => (nomatch z), by omega, by omega, by show 1 ≤ 1000; omega⟩, sz 2, ?_⟩
    have e1 : repT [x] e = List.replicate e.toNat x := by
      unfold repT
      generalize e.toNat = m
      induction m with
      | zero => rfl
      | succ m ih => rw [List.replicate_succ, List.flatten_cons, ih, List.replicate_succ]; rfl
    rw [e1]
    exact hq
/-- from here on a thing drawn is any worth of that sort -/
def mGreatest : List Da → Mv Dt
  | [.hand] => dr 12 fun d => ∃ xs, d = .list xs ∧ xs.length = 4 ∧ ∀ x ∈ xs, Oq 42000 25 x
  | _ => bad
def mBeyond : List Da → Mv Dt
  | [.hand] => dr 12 fun d => ∃ xs, d = .list xs ∧ xs.length = 5 ∧ ∀ x ∈ xs, Oq 42000 25 x
  | _ => bad
theorem ok_greatest (F : Fc K mg) (K__law_leaf : Kn P w K mg base k "_law_leaf" s_29 ["_law_hand"] mLeaf) (K__law_chain : Kn P w K mg base k "_law_chain" s_32 ["_law_inner", "_law_lots"] mChain) (K__law_wide : Kn P w K mg base k "_law_wide" s_33 ["_law_inner", "_law_lots"] mWide) (D : Df K mg "_law_greatest" s_34 ["_law_hand"] f fd) : Kn P w K mg base (k + 1) "_law_greatest" s_34 ["_law_hand"] mGreatest := by
  refine D.kn (FnD.of _ D.d sc_34 (fun cdv A outer s H E g hx room => have hu := hu64 room; have hu1 := hu65 room;
    (dss_cons (ds_par 1 2 rfl sc_34.nd (DE.val (de_k K__law_leaf hx room (das_cons (da_hand 0) das_nil))) (DE.val (de_k K__law_leaf hx room (das_cons (da_hand 0) das_nil))))
 (dss_cons (ds_set 3 sc_34.nd (DN.dat (dn_lst (des_cons (de_k K__law_chain hx room (das_cons (DE.arg (de_var 1)) (das_cons (DE.arg de_int) das_nil))) (des_cons (de_k K__law_wide hx room (das_cons (DE.arg (de_var 1)) (das_cons (DE.arg de_int) das_nil))) (des_cons (de_k K__law_chain hx room (das_cons (DE.arg (de_k K__law_wide hx room (das_cons (DE.arg (de_var 1)) (das_cons (DE.arg de_int) das_nil)))) (das_cons (DE.arg de_int) das_nil))) des_nil))))))
 (dss_one (ds_ret (de_plus (dx_var 3) (DE.now (DN.dat (dn_lst (des_cons (de_tup (des_cons de_str (des_cons (de_plus (DE.now (de_times (DE.now (de_tup (des_cons (de_k K__law_wide hx room (das_cons (DE.arg (de_var 1)) (das_cons (DE.arg de_int) das_nil))) des_nil))) (DE.now de_int))) (DE.now (de_times (DE.now (de_tup (des_cons (de_var 2) des_nil))) (DE.now de_int)))) des_nil))) des_nil)))))))))) ?_)
  intro as n Qd W hl h
  match as, hl, h with
  | [.hand], _, ⟨hn, hq⟩ =>
    rw [show slotsOf n_34 [Da.hand] = [.hand, .no, .no, .no] from rfl]
    simp only [sSeq, sIf, sNext, sAsg, sPar, sPar3, gN, bnd_ret, ret_app, bnd_grd, grd_app, sl_zero, sl_succ, slX_zero, slX_own, slX_succ, slO_zero, slO_own, slO_succ, slH_zero, slH_succ, frz_zero, frz_succ, own_zero, own_succ, onStr_str, asB_bool, asI_int, both_if, either_if, bothD_if, eitherD_if, choose_if, List.set_cons_zero, List.set_cons_succ, Bool.not_true, Bool.not_false, if_true, if_false, Bool.false_eq_true, grd_nil, bnd_app]
    refine ⟨rfl, by omega, fun x m1 hx hm1 => ⟨rfl, by omega, fun y m2 hy hm2 => ?_⟩⟩
    have oA : Oq 42000 25 (chainD x 8) := (chain_oq 8 hx).more (by omega) (by omega)
    have oB : Oq 42000 25 (wideD x 40) := (wide_oq (n := 40) hx).more (by omega) (by omega)
    have oC : Oq 42000 25 (chainD (wideD x 40) 7) := (chain_oq 7 (wide_oq (n := 40) hx)).more (by omega) (by omega)
    have oD : Oq 42000 25 (.tuple [.str "row", .tuple (repT [wideD x 38] 5 ++ repT [y] 4)]) := (row_oq (Oqs.app (rep_oq (n := 5) (wide_oq (n := 38) hx)) (rep_oq (n := 4) (hy.more (w' := 200) (h' := 3) (by omega) (by omega))))).more (by omega) (by omega)
    refine ⟨rfl, ⟨by omega, by omega⟩, rfl, ⟨by omega, by omega⟩, rfl, ⟨by omega, by omega⟩, rfl, ⟨by omega, by omega⟩, sz 3, rfl, ⟨by omega, by omega⟩, sz 1, ⟨fun z => (nomatch z), by omega, by omega, by show 1 ≤ 1000; omega⟩, sz 1, ⟨fun z => (nomatch z), by omega, by omega, by show 1 ≤ 1000; omega⟩, show 5 + 4 ≤ sizeLine by decide, sz 2, sz 1, show 3 + 1 ≤ sizeLine by decide, hq _ _ ⟨_, rfl, rfl, ?_⟩ (by omega)⟩
    intro z hz
    have hz : z ∈ ([chainD x 8, wideD x 40, chainD (wideD x 40) 7, .tuple [.str "row", .tuple (repT [wideD x 38] 5 ++ repT [y] 4)]] : List Dt) := hz
    simp only [List.mem_cons, List.not_mem_nil, or_false] at hz
    rcases hz with rfl | rfl | rfl | rfl
    · exact oA
    · exact oB
    · exact oC
    · exact oD
theorem ok_beyond (F : Fc K mg) (K__law_leaf : Kn P w K mg base k "_law_leaf" s_29 ["_law_hand"] mLeaf) (K__law_chain : Kn P w K mg base k "_law_chain" s_32 ["_law_inner", "_law_lots"] mChain) (K__law_wide : Kn P w K mg base k "_law_wide" s_33 ["_law_inner", "_law_lots"] mWide) (D : Df K mg "_law_beyond" s_35 ["_law_hand"] f fd) : Kn P w K mg base (k + 1) "_law_beyond" s_35 ["_law_hand"] mBeyond := by
  refine D.kn (FnD.of _ D.d sc_35 (fun cdv A outer s H E g hx room => have hu := hu64 room; have hu1 := hu65 room;
    (dss_cons (ds_par 1 2 rfl sc_35.nd (DE.val (de_k K__law_leaf hx room (das_cons (da_hand 0) das_nil))) (DE.val (de_k K__law_leaf hx room (das_cons (da_hand 0) das_nil))))
 (dss_cons (ds_set 3 sc_35.nd (DN.dat (dn_lst (des_cons (de_k K__law_chain hx room (das_cons (DE.arg (de_var 1)) (das_cons (DE.arg de_int) das_nil))) (des_cons (de_k K__law_wide hx room (das_cons (DE.arg (de_var 1)) (das_cons (DE.arg de_int) das_nil))) (des_cons (de_k K__law_chain hx room (das_cons (DE.arg (de_k K__law_wide hx room (das_cons (DE.arg (de_var 1)) (das_cons (DE.arg de_int) das_nil)))) (das_cons (DE.arg de_int) das_nil))) des_nil))))))
 (dss_one (ds_ret (de_plus (dx_var 3) (DE.now (DN.dat (dn_lst (des_cons (de_tup (des_cons de_str (des_cons (de_plus (DE.now (de_times (DE.now (de_tup (des_cons (de_k K__law_wide hx room (das_cons (DE.arg (de_var 1)) (das_cons (DE.arg de_int) das_nil))) des_nil))) (DE.now de_int))) (DE.now (de_times (DE.now (de_tup (des_cons (de_var 2) des_nil))) (DE.now de_int)))) des_nil))) (des_cons (de_tup (des_cons de_str (des_cons (de_times (DE.now (de_tup (des_cons (de_k K__law_wide hx room (das_cons (DE.arg (de_var 1)) (das_cons (DE.arg de_int) das_nil))) des_nil))) (DE.now de_int)) des_nil))) des_nil))))))))))) ?_)
  intro as n Qd W hl h
  match as, hl, h with
  | [.hand], _, ⟨hn, hq⟩ =>
    rw [show slotsOf n_35 [Da.hand] = [.hand, .no, .no, .no] from rfl]
    simp only [sSeq, sIf, sNext, sAsg, sPar, sPar3, gN, bnd_ret, ret_app, bnd_grd, grd_app, sl_zero, sl_succ, slX_zero, slX_own, slX_succ, slO_zero, slO_own, slO_succ, slH_zero, slH_succ, frz_zero, frz_succ, own_zero, own_succ, onStr_str, asB_bool, asI_int, both_if, either_if, bothD_if, eitherD_if, choose_if, List.set_cons_zero, List.set_cons_succ, Bool.not_true, Bool.not_false, if_true, if_false, Bool.false_eq_true, grd_nil, bnd_app]
    refine ⟨rfl, by omega, fun x m1 hx hm1 => ⟨rfl, by omega, fun y m2 hy hm2 => ?_⟩⟩
    have oA : Oq 42000 25 (chainD x 9) := (chain_oq 9 hx).more (by omega) (by omega)
    have oB : Oq 42000 25 (wideD x 41) := (wide_oq (n := 41) hx).more (by omega) (by omega)
    have oC : Oq 42000 25 (chainD (wideD x 40) 8) := (chain_oq 8 (wide_oq (n := 40) hx)).more (by omega) (by omega)
    have oD : Oq 42000 25 (.tuple [.str "row", .tuple (repT [wideD x 38] 5 ++ repT [y] 5)]) := (row_oq (Oqs.app (rep_oq (n := 5) (wide_oq (n := 38) hx)) (rep_oq (n := 5) (hy.more (w' := 200) (h' := 3) (by omega) (by omega))))).more (by omega) (by omega)
    have oE : Oq 42000 25 (.tuple [.str "row", .tuple (repT [wideD x 39] 5)]) := (row_oq (rep_oq (n := 5) (wide_oq (n := 39) hx))).more (by omega) (by omega)
    have g5 : ∀ z : Dt, [z] ≠ [] ∧ (2 : Int) ≤ 5 ∧ (5 : Int) ≤ 1000 ∧ ([z] : List Dt).length ≤ 1000 := fun z => ⟨fun z => (nomatch z), by omega, by omega, by show 1 ≤ 1000; omega⟩
    refine ⟨rfl, ⟨by omega, by omega⟩, rfl, ⟨by omega, by omega⟩, rfl, ⟨by omega, by omega⟩, rfl, ⟨by omega, by omega⟩, sz 3, rfl, ⟨by omega, by omega⟩, sz 1, g5 _, sz 1, g5 _, show 5 + 5 ≤ sizeLine by decide, sz 2, rfl, ⟨by omega, by omega⟩, sz 1, g5 _, sz 2, sz 2, show 3 + 2 ≤ sizeLine by decide, hq _ _ ⟨_, rfl, rfl, ?_⟩ (by omega)⟩
    intro z hz
    have hz : z ∈ ([chainD x 9, wideD x 41, chainD (wideD x 40) 8, .tuple [.str "row", .tuple (repT [wideD x 38] 5 ++ repT [y] 5)], .tuple [.str "row", .tuple (repT [wideD x 39] 5)]] : List Dt) := hz
    simp only [List.mem_cons, List.not_mem_nil, or_false] at hz
    rcases hz with rfl | rfl | rfl | rfl | rfl
    · exact oA
    · exact oB
    · exact oC
    · exact oD
    · exact oE
end
end Ev
namespace Ev
open PySem PySem.Spec L2 Dl
open PyProof.Rows hiding St
section
variable {P : Program} {w : World} {K : PySem.W.Frag} {mg : Str → Option Value} {base : Heap} {f : Addr} {fd : FuncData} {k : Nat}
theorem find_has (i : Str) : decide (Txt.find letters i < 0) = !inV' (.str i) (.str letters) := by
  show decide ((match Builtin.Str.occurrences letters i 0 letters.length 1 with | i :: _ => (i : Int) | [] => -1) < 0) = !(!(Builtin.Str.occurrences letters i 0 letters.length 1).isEmpty)
  cases Builtin.Str.occurrences letters i 0 letters.length 1 with
  | nil => rfl
  | cons a r =>
    show decide ((a : Int) < 0) = false
    exact decide_eq_false (by omega)
theorem ok_label_is (F : Fc K mg) (D : Df K mg "_law_is_label" s_36 ["_law_it"] f fd) : Kn P w K mg base (k + 1) "_law_is_label" s_36 ["_law_it"] (mPure fun x => .bool (isName x)) := by
  refine D.kn (FnD.of _ D.d sc_36 (fun cdv A outer s H E g hx room => have hu := hu64 room; have hu1 := hu65 room;
    (dss_cons (ds_if (DW.tst (dw_or (dt_not (DE.tst (de_isi ts_str rfl F.m_isinstance rfl F.m_str rfl (dx_var 0)))) (dw_or1 (dt_cmpX (op_notInA hu1) x2_notIn (DE.now (de_callX call_len xc_len rfl F.m_len rfl (dxs_cons (dx_var 0) dxs_nil))) (DE.now (de_tup (des_cons de_int (des_cons de_int (des_cons de_int (des_cons de_int (des_cons de_int (des_cons de_int (des_cons de_int (des_cons de_int des_nil)))))))))) rfl)))) (dss_one (ds_ret de_bl)) dss_nil)
 (dss_one (ds_ret (de_cmpX (op_eqA hu) x2_eq (DE.now (DN.dat (dn_lc rfl sc_36.nd (own := [("_law_sign", 1)]) (blk_ok rfl) (DF.di (df_str (de_var 0))) (fun _ _ _ _ _ => (dg_name 1 sc_36.nd)) (fun _ _ _ _ _ => (difs_one (dt_cmpX op_ltA x2_lt (DE.now (de_find (DE.now de_str) (dx_var 1))) (DE.now de_int) (nomark _)))) (fun _ _ _ _ _ => (de_var 1))))) (DE.now (DN.dat (dn_lst des_nil))) (nomark _)))))) ?_)
  intro as n Qd W hl h
  match as, hl, h with
  | [.d x], _, ⟨hz, hq⟩ =>
    cases x with
    | str x =>
      have hz' : x.length ≤ sizeLine := fitW_str hz
      have hq : Qd (.bool (isName (.str x))) n := hq
      simp only [isName] at hq
      rw [show slotsOf n_36 [Da.d (PyData.str x)] = [Ds.d (.str x), .no] from rfl]
      have ein : oNotIn (.int (x.length : Nat)) (.tuple [.int 1, .int 2, .int 3, .int 4, .int 5, .int 6, .int 7, .int 8]) = Dl.ret (.bool (!(decide (1 ≤ (x.length : Int)) && decide ((x.length : Int) ≤ 8)))) := by
        refine (grd_true ⟨rfl, rfl⟩ _).trans ?_
        show Dl.ret (PyData.bool (!inD (.int (x.length : Nat)) _)) = _
        unfold inD
        simp only [List.any_cons, List.any_nil, Bool.or_false, PyData.eqv]
        congr 3
        rw [Bool.eq_iff_iff]
        simp only [Bool.or_eq_true, Bool.and_eq_true, beq_iff_eq, decide_eq_true_eq]
        omega
      simp only [sSeq, sIf, sNext, sAsg, sPar, sPar3, gN, bnd_ret, ret_app, bnd_grd, grd_app, sl_zero, sl_succ, slX_zero, slX_own, slX_succ, slO_zero, slO_own, slO_succ, slH_zero, slH_succ, frz_zero, frz_succ, own_zero, own_succ, onStr_str, asB_bool, asI_int, both_if, either_if, bothD_if, eitherD_if, choose_if, List.set_cons_zero, List.set_cons_succ, Bool.not_true, Bool.not_false, if_true, if_false, Bool.false_eq_true, grd_nil, isStr, oLen, oC, oLt, grd_true hz', ein, ite_ret2]
      rw [lcD_filter (items := charsD x) (fun d => !inV' d (.str letters))]
      · rw [bnd_ret, bnd_ret, oEq_nil, filter_none]
        simp only [Bool.not_not]
        refine ⟨sz 8, ?_⟩
        cases h1 : decide (1 ≤ (x.length : Int)) <;> cases h2 : decide ((x.length : Int) ≤ 8) <;> (rw [h1, h2] at hq; exact hq)
      · show grd (x.length ≤ sizeLine) _ = _
        rw [grd_true hz']
      · intro d hd
        obtain ⟨c, rfl⟩ := mem_chars hd
        exact ⟨_, rfl, congrArg Dl.ret (find_has _), rfl⟩
    | _ => exact hq
theorem e15 : oI CPow (fun i j => i ^ j.toNat) (.int 10) (.int 15) = Dl.ret (.int 1000000000000000) := grd_true ⟨by omega, by omega, by decide⟩ _
def leafPlain : Dt → Bool
  | .none => true
  | .bool _ => true
  | .int _ => true
  | .str _ => true
  | .list _ => false | .tuple _ => false | .dict _ => false
def mLooked1 : List Da → Mv Dt := mPure fun d => .tuple [.bool (leafGood d), .bool (leafPlain d)]
theorem ok_leaf_looked (F : Fc K mg) (K__law_is_label : Kn P w K mg base k "_law_is_label" s_36 ["_law_it"] (mPure fun x => .bool (isName x))) (D : Df K mg "_law_leaf_looked" s_37 ["_law_it"] f fd) : Kn P w K mg base (k + 1) "_law_leaf_looked" s_37 ["_law_it"] mLooked1 := by
  refine D.kn (FnD.of _ D.d sc_37 (fun cdv A outer s H E g hx room => have hu := hu64 room; have hu1 := hu65 room;
    (dss_cons (ds_if (DW.tst (dw_or (dt_cmpX op_isN x2_isN (dx_var 0) (DE.now de_non) (nomark _)) (dw_or1 (DE.tst (de_isi ts_bool rfl F.m_isinstance rfl F.m_bool rfl (dx_var 0)))))) (dss_one (ds_ret (de_tup (des_cons de_bl (des_cons de_bl des_nil))))) dss_nil)
 (dss_cons (ds_if (DE.tst (de_isi ts_int rfl F.m_isinstance rfl F.m_int rfl (dx_var 0))) (dss_one (ds_ret (de_tup (des_cons (de_cmpX op_le x2_cmp (DE.now (de_callX call_abs xc_abs rfl F.m_abs rfl (dxs_cons (dx_var 0) dxs_nil))) (DE.now (de_pow de_int de_int)) (nomark _)) (des_cons de_bl des_nil))))) dss_nil)
 (dss_cons (ds_if (DE.tst (de_isi ts_str rfl F.m_isinstance rfl F.m_str rfl (dx_var 0))) (dss_one (ds_ret (de_tup (des_cons (de_and (de_cmpX op_ltA x2_lt (DE.now (de_callX call_len xc_len rfl F.m_len rfl (dxs_cons (dx_var 0) dxs_nil))) (DE.now de_int) (nomark _)) (de_one (de_cmpX (op_eqA hu) x2_eq (DE.now (DN.dat (dn_lc rfl sc_37.nd (own := [("_law_sign", 1)]) (blk_ok rfl) (DF.di (df_str (de_var 0))) (fun _ _ _ _ _ => (dg_name 1 sc_37.nd)) (fun _ _ _ _ _ => (difs_one (DW.tst (dw_or (dt_not (dt_chain op_ltA op_ltA x2_lt x2_lt (DE.now de_int) (DE.now (de_callX call_ord xc_ord rfl F.m_ord rfl (dxs_cons (dx_var 1) dxs_nil))) (DE.now de_int))) (dw_or1 (dt_cmpX (op_inA hu1) x2_in (DE.now (de_callX call_ord xc_ord rfl F.m_ord rfl (dxs_cons (dx_var 1) dxs_nil))) (DE.now (de_tup (des_cons de_int (des_cons de_int des_nil)))) rfl)))))) (fun _ _ _ _ _ => (de_var 1))))) (DE.now (DN.dat (dn_lst des_nil))) (nomark _)))) (des_cons de_bl des_nil))))) dss_nil)
 (dss_cons (ds_if (DW.tst (dw_or (dt_not (DE.tst (de_isi ts_tuple rfl F.m_isinstance rfl F.m_tuple rfl (dx_var 0)))) (dw_or (dt_cmpX (op_eqA hu) x2_eq (dx_var 0) (DE.now (de_tup des_nil)) (nomark _)) (dw_or1 (dt_not (DE.tst (de_isi ts_str rfl F.m_isinstance rfl F.m_str rfl (DE.now (de_at (dx_var 0) (DE.now de_int) (fun _ _ => rfl)))))))))) (dss_one (ds_ret (de_tup (des_cons de_bl (des_cons de_bl des_nil))))) dss_nil)
 (dss_cons (ds_if (DW.tst (dw_and (dt_cmpX (op_eqA hu) x2_eq (DE.now (de_at (dx_var 0) (DE.now de_int) (fun _ _ => rfl))) (DE.now de_str) (nomark _)) (dw_and1 (dt_cmpX (op_eqA hu) x2_eq (DE.now (de_callX call_len xc_len rfl F.m_len rfl (dxs_cons (dx_var 0) dxs_nil))) (DE.now de_int) (nomark _))))) (dss_cons (ds_set 2 sc_37.nd (de_and (de_isi ts_int rfl F.m_isinstance rfl F.m_int rfl (DE.now (de_at (dx_var 0) (DE.now de_int) (fun _ _ => rfl)))) (de_and (de_not (de_isi ts_bool rfl F.m_isinstance rfl F.m_bool rfl (DE.now (de_at (dx_var 0) (DE.now de_int) (fun _ _ => rfl))))) (de_one (de_chain op_le op_le x2_cmp x2_cmp (DE.now de_int) (DE.now (de_at (dx_var 0) (DE.now de_int) (fun _ _ => rfl))) (DE.now (de_pow de_int de_int)))))))
 (dss_one (ds_ret (de_tup (des_cons (de_var 2) (des_cons de_bl des_nil)))))) dss_nil)
 (dss_cons (ds_set 2 sc_37.nd (de_and (de_cmpX (op_inA hu1) x2_in (DE.now (de_at (dx_var 0) (DE.now de_int) (fun _ _ => rfl))) (DE.now (de_tup (des_cons de_str (des_cons de_str des_nil)))) rfl) (de_one (de_cmpX (op_eqA hu) x2_eq (DE.now (de_callX call_len xc_len rfl F.m_len rfl (dxs_cons (dx_var 0) dxs_nil))) (DE.now de_int) (nomark _)))))
 (dss_one (ds_ret (de_tup (des_cons (de_and (de_var 2) (de_one (de_cmpX (op_eqA hu) x2_eq (DE.now (DN.dat (dn_lc rfl sc_37.nd (own := [("_law_part", 3)]) (blk_ok rfl) (DF.di (df_tup (de_cut (dx_var 0) (do_some de_int) do_none))) (fun _ _ _ _ _ => (dg_name 3 sc_37.nd)) (fun _ _ _ _ _ => (difs_one (dt_not (DE.tst (de_k K__law_is_label hx.blk room (das_cons (DE.arg (de_var 3)) das_nil)))))) (fun _ _ _ _ _ => (de_var 3))))) (DE.now (DN.dat (dn_lst des_nil))) (nomark _)))) (des_cons de_bl des_nil)))))))))))) ?_)
  intro as n Qd W hl h
  match as, hl, h with
  | [.d x], _, ⟨hz, hq⟩ =>
    have hq : Qd (.tuple [.bool (leafGood x), .bool (leafPlain x)]) n := hq
    rw [show slotsOf n_37 [Da.d x] = [Ds.d x, .no, .no, .no] from rfl]
    cases x with
    | none => exact ⟨sz 2, hq⟩
    | bool b => exact ⟨sz 2, hq⟩
    | int i =>
      simp only [sSeq, sIf, sNext, sAsg, sPar, sPar3, gN, bnd_ret, ret_app, bnd_grd, grd_app, sl_zero, sl_succ, slX_zero, slX_own, slX_succ, slO_zero, slO_own, slO_succ, slH_zero, slH_succ, frz_zero, frz_succ, own_zero, own_succ, onStr_str, asB_bool, asI_int, both_if, either_if, bothD_if, eitherD_if, choose_if, List.set_cons_zero, List.set_cons_succ, Bool.not_true, Bool.not_false, if_true, if_false, Bool.false_eq_true, grd_nil, isNone, oIsN, isBool, Dl.isInt, oAbs, oC, e15]
      have e : decide ((if i < 0 then -i else i) ≤ 1000000000000000) = leafGood (.int i) := by
        show _ = ((decide (-1000000000000000 ≤ i) && decide (i ≤ 1000000000000000)) || false)
        rw [Bool.eq_iff_iff]
        simp only [Bool.or_false, Bool.and_eq_true, decide_eq_true_eq]
        split <;> omega
      rw [e]
      exact ⟨sz 2, hq⟩
    | str x =>
      have hz' : x.length ≤ sizeLine := fitW_str hz
      simp only [sSeq, sIf, sNext, sAsg, sPar, sPar3, gN, bnd_ret, ret_app, bnd_grd, grd_app, sl_zero, sl_succ, slX_zero, slX_own, slX_succ, slO_zero, slO_own, slO_succ, slH_zero, slH_succ, frz_zero, frz_succ, own_zero, own_succ, onStr_str, asB_bool, asI_int, both_if, either_if, bothD_if, eitherD_if, choose_if, List.set_cons_zero, List.set_cons_succ, Bool.not_true, Bool.not_false, if_true, if_false, Bool.false_eq_true, grd_nil, isNone, oIsN, isBool, Dl.isInt, isStr, oLen, oLt, grd_true hz']
      have hg : leafGood (.str x) = (decide ((x.length : Int) ≤ 20) && (charsD x).all okSign) := by
        show ((_ && _) || false) = _
        rw [Bool.or_false]
      rw [hg] at hq
      rw [lcD_filter (items := charsD x) (fun d => !okSign d)]
      · rw [bnd_ret, bnd_ret, oEq_nil, filter_none]
        simp only [Bool.not_not]
        have e : decide ((x.length : Int) < 21) = decide ((x.length : Int) ≤ 20) := decide_eq_decide.mpr (by omega)
        rw [e]
        cases h2 : decide ((x.length : Int) ≤ 20) <;> (rw [h2] at hq; exact ⟨sz 2, hq⟩)
      · show grd (x.length ≤ sizeLine) _ = _
        rw [grd_true hz']
      · intro d hd
        obtain ⟨c, rfl⟩ := mem_chars hd
        refine ⟨_, rfl, ?_, rfl⟩
        have eo : oOrd [.str ⟨#[c]⟩] = Dl.ret (.int (c : Nat)) := grd_true rfl _
        have en : oIn (.int (c : Nat)) (.tuple [.int 37, .int 39]) = Dl.ret (.bool (inD (.int (c : Nat)) [.int 37, .int 39])) := grd_true ⟨rfl, rfl⟩ _
        have es : okSign (.str ⟨#[c]⟩) = (decide (32 ≤ (c : Int)) && decide ((c : Int) ≤ 126) && !inD (.int (c : Nat)) [.int 37, .int 39]) := rfl
        rw [es]
        simp only [sSeq, sIf, sNext, sAsg, sPar, sPar3, gN, bnd_ret, ret_app, bnd_grd, grd_app, sl_zero, sl_succ, slX_zero, slX_own, slX_succ, slO_zero, slO_own, slO_succ, slH_zero, slH_succ, frz_zero, frz_succ, own_zero, own_succ, onStr_str, asB_bool, asI_int, both_if, either_if, bothD_if, eitherD_if, choose_if, List.set_cons_zero, List.set_cons_succ, Bool.not_true, Bool.not_false, if_true, if_false, Bool.false_eq_true, grd_nil, eo, en, oLt, wipeD_cons, wipeD_nil, List.map, grd_true (show ([PyData.int 37, PyData.int 39] : List Dt).length ≤ sizeLine from sz 2)]
        have e1 : decide ((31 : Int) < (c : Int)) = decide (32 ≤ (c : Int)) := decide_eq_decide.mpr (by omega)
        have e2 : decide ((c : Int) < 127) = decide ((c : Int) ≤ 126) := decide_eq_decide.mpr (by omega)
        rw [e1, e2]
        cases decide (32 ≤ (c : Int)) <;> cases decide ((c : Int) ≤ 126) <;> cases inD (.int (c : Nat)) [.int 37, .int 39] <;> rfl
    | tuple ds =>
      cases ds with
      | nil =>
        simp only [sSeq, sIf, sNext, sAsg, sPar, sPar3, gN, bnd_ret, ret_app, bnd_grd, grd_app, sl_zero, sl_succ, slX_zero, slX_own, slX_succ, slO_zero, slO_own, slO_succ, slH_zero, slH_succ, frz_zero, frz_succ, own_zero, own_succ, onStr_str, asB_bool, asI_int, both_if, either_if, bothD_if, eitherD_if, choose_if, List.set_cons_zero, List.set_cons_succ, Bool.not_true, Bool.not_false, if_true, if_false, Bool.false_eq_true, grd_nil, isNone, oIsN, isBool, Dl.isInt, isStr, isTup, oEq_tnil, List.isEmpty_nil]
        exact ⟨sz 2, hq⟩
      | cons a r =>
        have et : oEq (.tuple (a :: r)) (.tuple []) = Dl.ret (.bool false) := oEq_tnil _
        have e0 : oAt (.tuple (a :: r)) (.int 0) = Dl.ret a := by
          show (match L2.atI (a :: r) ((0 : Nat) : Int) with | some y => Dl.ret y | none => bad : Mv Dt) = _
          rw [L2.atI_nat (j := 0) (v := a) rfl]
        cases a with
        | str s =>
          have ei : oIn (.str s) (.tuple [.str "deed", .str "kind"]) = Dl.ret (.bool ((("deed" : Str) == s) || (("kind" : Str) == s))) := by
            refine (grd_true ⟨rfl, rfl⟩ _).trans ?_
            show Dl.ret (PyData.bool (inD (.str s) [.str "deed", .str "kind"])) = _
            unfold inD
            simp only [List.any_cons, List.any_nil, Bool.or_false, PyData.eqv]
          have g2 := grd_true (α := Dt) (show ([PyData.str "deed", PyData.str "kind"] : List Dt).length ≤ sizeLine from sz 2)
          match r, hz, hq, et, e0 with
          | [b], hz, hq, et, e0 =>
            have l2 : ((([.str s, b] : List Dt).length : Nat) : Int) = 2 := rfl
            have n2 : ((2 : Int) == 2) = true := rfl
            have n3 : ((2 : Int) == 3) = false := rfl
            have e1 : oAt (.tuple [.str s, b]) (.int 1) = Dl.ret b := rfl
            have er : leafGood (.tuple [.str s, b]) = ((s == ("thing" : Str)) && thingOk b) := by
              show (false || isNamed _) = _
              rw [Bool.false_or]
              unfold isNamed
              cases b <;> first
                | (by_cases z : s = ("thing" : Str) <;> simp [z, thingOk])
                | simp [thingOk]
            rw [er] at hq
            simp only [sSeq, sIf, sNext, sAsg, sPar, sPar3, gN, bnd_ret, ret_app, bnd_grd, grd_app, sl_zero, sl_succ, slX_zero, slX_own, slX_succ, slO_zero, slO_own, slO_succ, slH_zero, slH_succ, frz_zero, frz_succ, own_zero, own_succ, onStr_str, asB_bool, asI_int, both_if, either_if, bothD_if, eitherD_if, choose_if, List.set_cons_zero, List.set_cons_succ, Bool.not_true, Bool.not_false, if_true, if_false, Bool.false_eq_true, grd_nil, isNone, oIsN, isBool, Dl.isInt, isStr, isTup, et, e0, e1, oEq_str, oLen, l2, oEq_int, n2, n3, ei, g2]
            cases z : (s == ("thing" : Str)) with
            | true =>
              rw [z] at hq
              cases b with
              | int i =>
                have hq : Qd (.tuple [.bool (decide (0 ≤ i) && decide (i ≤ 1000000000000000)), .bool false]) n := hq
                simp only [sSeq, sIf, sNext, sAsg, sPar, sPar3, gN, bnd_ret, ret_app, bnd_grd, grd_app, sl_zero, sl_succ, slX_zero, slX_own, slX_succ, slO_zero, slO_own, slO_succ, slH_zero, slH_succ, frz_zero, frz_succ, own_zero, own_succ, onStr_str, asB_bool, asI_int, both_if, either_if, bothD_if, eitherD_if, choose_if, List.set_cons_zero, List.set_cons_succ, Bool.not_true, Bool.not_false, if_true, if_false, Bool.false_eq_true, grd_nil, oC, e15]
                cases z2 : decide (0 ≤ i) <;> cases z3 : decide (i ≤ 1000000000000000) <;> (rw [z2, z3] at hq; first | exact ⟨sz 2, hq⟩ | (simp only [z3]; exact ⟨sz 2, hq⟩))
              | _ => exact ⟨sz 2, hq⟩
            | false =>
              rw [z] at hq
              simp only [sSeq, sIf, sNext, sAsg, sPar, sPar3, gN, bnd_ret, ret_app, bnd_grd, grd_app, sl_zero, sl_succ, slX_zero, slX_own, slX_succ, slO_zero, slO_own, slO_succ, slH_zero, slH_succ, frz_zero, frz_succ, own_zero, own_succ, onStr_str, asB_bool, asI_int, both_if, either_if, bothD_if, eitherD_if, choose_if, List.set_cons_zero, List.set_cons_succ, Bool.not_true, Bool.not_false, if_true, if_false, Bool.false_eq_true, grd_nil]
              cases z4 : ((("deed" : Str) == s) || (("kind" : Str) == s)) <;> (simp only [sSeq, sIf, sNext, sAsg, sPar, sPar3, gN, bnd_ret, ret_app, bnd_grd, grd_app, sl_zero, sl_succ, slX_zero, slX_own, slX_succ, slO_zero, slO_own, slO_succ, slH_zero, slH_succ, frz_zero, frz_succ, own_zero, own_succ, onStr_str, asB_bool, asI_int, both_if, either_if, bothD_if, eitherD_if, choose_if, List.set_cons_zero, List.set_cons_succ, Bool.not_true, Bool.not_false, if_true, if_false, Bool.false_eq_true, grd_nil]; exact ⟨sz 2, hq⟩)
          | [b, c], hz, hq, et, e0 =>
            have l2 : ((([.str s, b, c] : List Dt).length : Nat) : Int) = 3 := rfl
            have n2 : ((3 : Int) == 2) = false := rfl
            have n3 : ((3 : Int) == 3) = true := rfl
            have hb := mPure_is (f := fun x => .bool (isName x)) (["_law_it"] : List Str).length rfl (fitW_mem hz (List.mem_cons_of_mem _ List.mem_cons_self) : fitW b)
            have hc := mPure_is (f := fun x => .bool (isName x)) (["_law_it"] : List Str).length rfl (fitW_mem hz (List.mem_cons_of_mem _ (List.mem_cons_of_mem _ List.mem_cons_self)) : fitW c)
            have ec : oCut (.tuple [.str s, b, c]) (some 1) none = Dl.ret (.tuple [b, c]) := rfl
            have er : leafGood (.tuple [.str s, b, c]) = (((("deed" : Str) == s) || (("kind" : Str) == s)) && (isName b && isName c)) := by
              have d1 : (("deed" : Str) == s) = decide (s = ("deed" : Str)) := by rw [Bool.eq_iff_iff]; simp; exact eq_comm
              have d2 : (("kind" : Str) == s) = decide (s = ("kind" : Str)) := by rw [Bool.eq_iff_iff]; simp; exact eq_comm
              rw [d1, d2, ← Bool.and_assoc]
              show (false || isNamed _) = _
              rw [Bool.false_or]
              unfold isNamed
              cases b <;> rfl
            rw [er] at hq
            simp only [sSeq, sIf, sNext, sAsg, sPar, sPar3, gN, bnd_ret, ret_app, bnd_grd, grd_app, sl_zero, sl_succ, slX_zero, slX_own, slX_succ, slO_zero, slO_own, slO_succ, slH_zero, slH_succ, frz_zero, frz_succ, own_zero, own_succ, onStr_str, asB_bool, asI_int, both_if, either_if, bothD_if, eitherD_if, choose_if, List.set_cons_zero, List.set_cons_succ, Bool.not_true, Bool.not_false, if_true, if_false, Bool.false_eq_true, grd_nil, isNone, oIsN, isBool, Dl.isInt, isStr, isTup, et, e0, oEq_str, oLen, l2, oEq_int, n2, n3, ei, g2]
            have key : (if ((("deed" : Str) == s) || (("kind" : Str) == s)) = true then Dl.ret (PyData.bool true) else Dl.ret (PyData.bool false) : Mv Dt) = Dl.ret (.bool ((("deed" : Str) == s) || (("kind" : Str) == s))) := by
              cases ((("deed" : Str) == s) || (("kind" : Str) == s)) <;> rfl
            cases z : (s == ("thing" : Str)) <;>
            · simp only [sSeq, sIf, sNext, sAsg, sPar, sPar3, gN, bnd_ret, ret_app, bnd_grd, grd_app, sl_zero, sl_succ, slX_zero, slX_own, slX_succ, slO_zero, slO_own, slO_succ, slH_zero, slH_succ, frz_zero, frz_succ, own_zero, own_succ, onStr_str, asB_bool, asI_int, both_if, either_if, bothD_if, eitherD_if, choose_if, List.set_cons_zero, List.set_cons_succ, Bool.not_true, Bool.not_false, if_true, if_false, Bool.false_eq_true, grd_nil, key]
              cases z4 : ((("deed" : Str) == s) || (("kind" : Str) == s)) with
              | false => rw [z4] at hq; exact ⟨sz 2, hq⟩
              | true =>
                rw [z4] at hq
                simp only [sSeq, sIf, sNext, sAsg, sPar, sPar3, gN, bnd_ret, ret_app, bnd_grd, grd_app, sl_zero, sl_succ, slX_zero, slX_own, slX_succ, slO_zero, slO_own, slO_succ, slH_zero, slH_succ, frz_zero, frz_succ, own_zero, own_succ, onStr_str, asB_bool, asI_int, both_if, either_if, bothD_if, eitherD_if, choose_if, List.set_cons_zero, List.set_cons_succ, Bool.not_true, Bool.not_false, if_true, if_false, Bool.false_eq_true, grd_nil]
                rw [lcD_filter (items := [b, c]) (fun d => !isName d)]
                · rw [bnd_ret, bnd_ret, oEq_nil, filter_none]
                  simp only [Bool.not_not, List.all_cons, List.all_nil, Bool.and_true]
                  exact ⟨sz 2, hq⟩
                · simp only [sSeq, sIf, sNext, sAsg, sPar, sPar3, gN, bnd_ret, ret_app, bnd_grd, grd_app, sl_zero, sl_succ, slX_zero, slX_own, slX_succ, slO_zero, slO_own, slO_succ, slH_zero, slH_succ, frz_zero, frz_succ, own_zero, own_succ, onStr_str, asB_bool, asI_int, both_if, either_if, bothD_if, eitherD_if, choose_if, List.set_cons_zero, List.set_cons_succ, Bool.not_true, Bool.not_false, if_true, if_false, Bool.false_eq_true, grd_nil, ec]
                  rfl
                · intro d hd
                  simp only [List.mem_cons, List.not_mem_nil, or_false] at hd
                  refine ⟨_, rfl, ?_, rfl⟩
                  rcases hd with rfl | rfl
                  · simp only [sSeq, sIf, sNext, sAsg, sPar, sPar3, gN, bnd_ret, ret_app, bnd_grd, grd_app, sl_zero, sl_succ, slX_zero, slX_own, slX_succ, slO_zero, slO_own, slO_succ, slH_zero, slH_succ, frz_zero, frz_succ, own_zero, own_succ, onStr_str, asB_bool, asI_int, both_if, either_if, bothD_if, eitherD_if, choose_if, List.set_cons_zero, List.set_cons_succ, Bool.not_true, Bool.not_false, if_true, if_false, Bool.false_eq_true, grd_nil, wipeD_cons, wipeD_nil, List.map, hb]
                  · simp only [sSeq, sIf, sNext, sAsg, sPar, sPar3, gN, bnd_ret, ret_app, bnd_grd, grd_app, sl_zero, sl_succ, slX_zero, slX_own, slX_succ, slO_zero, slO_own, slO_succ, slH_zero, slH_succ, frz_zero, frz_succ, own_zero, own_succ, onStr_str, asB_bool, asI_int, both_if, either_if, bothD_if, eitherD_if, choose_if, List.set_cons_zero, List.set_cons_succ, Bool.not_true, Bool.not_false, if_true, if_false, Bool.false_eq_true, grd_nil, wipeD_cons, wipeD_nil, List.map, hc]
          | [], hz, hq, et, e0 =>
            have l2 : ((([.str s] : List Dt).length : Nat) : Int) = 1 := rfl
            have n2 : ((1 : Int) == 2) = false := rfl
            have n3 : ((1 : Int) == 3) = false := rfl
            have er : leafGood (.tuple [.str s]) = false := rfl
            rw [er] at hq
            simp only [sSeq, sIf, sNext, sAsg, sPar, sPar3, gN, bnd_ret, ret_app, bnd_grd, grd_app, sl_zero, sl_succ, slX_zero, slX_own, slX_succ, slO_zero, slO_own, slO_succ, slH_zero, slH_succ, frz_zero, frz_succ, own_zero, own_succ, onStr_str, asB_bool, asI_int, both_if, either_if, bothD_if, eitherD_if, choose_if, List.set_cons_zero, List.set_cons_succ, Bool.not_true, Bool.not_false, if_true, if_false, Bool.false_eq_true, grd_nil, isNone, oIsN, isBool, Dl.isInt, isStr, isTup, et, e0, oEq_str, oLen, l2, oEq_int, n2, n3, ei, g2]
            cases z : (s == ("thing" : Str)) <;>
            · simp only [sSeq, sIf, sNext, sAsg, sPar, sPar3, gN, bnd_ret, ret_app, bnd_grd, grd_app, sl_zero, sl_succ, slX_zero, slX_own, slX_succ, slO_zero, slO_own, slO_succ, slH_zero, slH_succ, frz_zero, frz_succ, own_zero, own_succ, onStr_str, asB_bool, asI_int, both_if, either_if, bothD_if, eitherD_if, choose_if, List.set_cons_zero, List.set_cons_succ, Bool.not_true, Bool.not_false, if_true, if_false, Bool.false_eq_true, grd_nil]
              cases z4 : ((("deed" : Str) == s) || (("kind" : Str) == s)) <;> (simp only [sSeq, sIf, sNext, sAsg, sPar, sPar3, gN, bnd_ret, ret_app, bnd_grd, grd_app, sl_zero, sl_succ, slX_zero, slX_own, slX_succ, slO_zero, slO_own, slO_succ, slH_zero, slH_succ, frz_zero, frz_succ, own_zero, own_succ, onStr_str, asB_bool, asI_int, both_if, either_if, bothD_if, eitherD_if, choose_if, List.set_cons_zero, List.set_cons_succ, Bool.not_true, Bool.not_false, if_true, if_false, Bool.false_eq_true, grd_nil]; exact ⟨sz 2, hq⟩)
          | b :: c :: d :: r, hz, hq, et, e0 =>
            have n2 : ((((.str s :: b :: c :: d :: r : List Dt).length : Nat) : Int) == 2) = false := by simp only [List.length_cons, beq_eq_false_iff_ne]; omega
            have n3 : ((((.str s :: b :: c :: d :: r : List Dt).length : Nat) : Int) == 3) = false := by simp only [List.length_cons, beq_eq_false_iff_ne]; omega
            have er : leafGood (.tuple (.str s :: b :: c :: d :: r)) = false := by
              show (false || isNamed _) = _
              unfold isNamed
              cases b <;> rfl
            rw [er] at hq
            simp only [sSeq, sIf, sNext, sAsg, sPar, sPar3, gN, bnd_ret, ret_app, bnd_grd, grd_app, sl_zero, sl_succ, slX_zero, slX_own, slX_succ, slO_zero, slO_own, slO_succ, slH_zero, slH_succ, frz_zero, frz_succ, own_zero, own_succ, onStr_str, asB_bool, asI_int, both_if, either_if, bothD_if, eitherD_if, choose_if, List.set_cons_zero, List.set_cons_succ, Bool.not_true, Bool.not_false, if_true, if_false, Bool.false_eq_true, grd_nil, isNone, oIsN, isBool, Dl.isInt, isStr, isTup, et, e0, oEq_str, oLen, oEq_int, n2, n3, ei, g2]
            cases z : (s == ("thing" : Str)) <;>
            · simp only [sSeq, sIf, sNext, sAsg, sPar, sPar3, gN, bnd_ret, ret_app, bnd_grd, grd_app, sl_zero, sl_succ, slX_zero, slX_own, slX_succ, slO_zero, slO_own, slO_succ, slH_zero, slH_succ, frz_zero, frz_succ, own_zero, own_succ, onStr_str, asB_bool, asI_int, both_if, either_if, bothD_if, eitherD_if, choose_if, List.set_cons_zero, List.set_cons_succ, Bool.not_true, Bool.not_false, if_true, if_false, Bool.false_eq_true, grd_nil]
              cases z4 : ((("deed" : Str) == s) || (("kind" : Str) == s)) <;> (simp only [sSeq, sIf, sNext, sAsg, sPar, sPar3, gN, bnd_ret, ret_app, bnd_grd, grd_app, sl_zero, sl_succ, slX_zero, slX_own, slX_succ, slO_zero, slO_own, slO_succ, slH_zero, slH_succ, frz_zero, frz_succ, own_zero, own_succ, onStr_str, asB_bool, asI_int, both_if, either_if, bothD_if, eitherD_if, choose_if, List.set_cons_zero, List.set_cons_succ, Bool.not_true, Bool.not_false, if_true, if_false, Bool.false_eq_true, grd_nil]; exact ⟨sz 2, hq⟩)
        | _ =>
          simp only [sSeq, sIf, sNext, sAsg, sPar, sPar3, gN, bnd_ret, ret_app, bnd_grd, grd_app, sl_zero, sl_succ, slX_zero, slX_own, slX_succ, slO_zero, slO_own, slO_succ, slH_zero, slH_succ, frz_zero, frz_succ, own_zero, own_succ, onStr_str, asB_bool, asI_int, both_if, either_if, bothD_if, eitherD_if, choose_if, List.set_cons_zero, List.set_cons_succ, Bool.not_true, Bool.not_false, if_true, if_false, Bool.false_eq_true, grd_nil, isNone, oIsN, isBool, Dl.isInt, isStr, isTup, et, e0]
          exact ⟨sz 2, hq⟩
    | _ => exact ⟨sz 2, hq⟩
end
end Ev
namespace Ev
open PySem PySem.Spec L2 Dl
open PyProof.Rows hiding St
section
variable {P : Program} {w : World} {K : PySem.W.Frag} {mg : Str → Option Value} {base : Heap} {f : Addr} {fd : FuncData} {k : Nat}
/-! ### what the law deems -/
def okD (d : Dt) : Bool := wid d && (lv d).all leafGood
def lookT (d : Dt) : Dt := .tuple [.int (nod d : Nat), .int (dep d : Nat), .bool ((lv d).all leafPlain)]
def lookD (d : Dt) : Dt := if okD d = true then lookT d else .none
theorem lvs_all (g : Dt → Bool) : ∀ ps : List Dt, (lvs ps).all g = ps.all fun p => (lv p).all g
  | [] => by simp [lvs]
  | p :: ps => by rw [lvs, List.all_append, lvs_all g ps, List.all_cons, Bool.and_comm]
theorem wids_all : ∀ ps : List Dt, wids ps = ps.all wid
  | [] => by simp [wids]
  | p :: ps => by rw [wids, wids_all ps, List.all_cons]
theorem nods_sum : ∀ ps : List Dt, (ps.map fun p => ((nod p : Nat) : Int)).sum = (nods ps : Nat)
  | [] => by simp [nods]
  | p :: ps => by rw [List.map_cons, List.sum_cons, nods_sum ps, nods]; omega
theorem fold_max : ∀ (ps : List Dt) (m : Nat), (ps.map fun p => ((dep p : Nat) : Int)).foldl max ((m : Nat) : Int) = ((max m (deps ps) : Nat) : Int)
  | [], m => by simp [deps]
  | p :: ps, m => by
    rw [List.map_cons, List.foldl_cons, deps]
    have e : max ((m : Nat) : Int) ((dep p : Nat) : Int) = ((max m (dep p) : Nat) : Int) := by omega
    rw [e, fold_max ps]
    congr 1
    omega
theorem deps_max (ps : List Dt) : maxOr 0 (ps.map fun p => ((dep p : Nat) : Int)) = (deps ps : Nat) := by
  cases ps with
  | nil => simp [maxOr, deps]
  | cons p ps =>
    rw [List.map_cons, maxOr, fold_max, deps]
theorem look_leaf {d : Dt} (h : rowOf d = none) : lookD d = if leafGood d = true then .tuple [.int 1, .int 0, .bool (leafPlain d)] else .none := by
  unfold lookD okD lookT
  rw [wid_leaf h, lv_leaf h, nod_leaf h, dep_leaf h]
  simp only [Bool.true_and, List.all_cons, List.all_nil, Bool.and_true]
  rfl
theorem ok_row {d : Dt} {ps : List Dt} (h : rowOf d = some ps) : okD d = (decide (ps.length ≤ 40) && ps.all okD) := by
  unfold okD
  rw [wid_row h, lv_row h, lvs_all, wids_all]
  have e : (ps.all fun d => wid d && (lv d).all leafGood) = (ps.all wid && ps.all fun p => (lv p).all leafGood) := by
    clear h
    induction ps with
    | nil => rfl
    | cons p ps ih =>
      simp only [List.all_cons]
      rw [ih]
      cases wid p <;> cases (lv p).all leafGood <;> cases ps.all wid <;> rfl
  rw [e]
  cases decide (ps.length ≤ 40) <;> cases ps.all wid <;> rfl
theorem inD_none (ps : List Dt) : inD .none (ps.map lookD) = !ps.all okD := by
  unfold inD
  induction ps with
  | nil => rfl
  | cons p ps ih =>
    rw [List.map_cons, List.any_cons, ih, List.all_cons]
    unfold lookD
    cases okD p <;> simp [PyData.eqv, lookT]
theorem shaped_looks (ps : List Dt) : SeqAt.shaped (.list (ps.map lookD)) = true := by
  have h : PyData.canLayAll0 (ps.map lookD) = true ∧ PyData.depthAll (ps.map lookD) ≤ 1 := by
    induction ps with
    | nil => exact ⟨rfl, Nat.zero_le _⟩
    | cons p ps ih =>
      rw [List.map_cons]
      have h1 : (lookD p).canLay0 = true ∧ (lookD p).depth ≤ 1 := by
        unfold lookD
        cases okD p
        · exact ⟨rfl, by simp [PyData.depth]⟩
        · exact ⟨rfl, by simp [PyData.depth, PyData.depthAll, lookT]⟩
      rw [PyData.canLayAll0, PyData.depthAll, ih.1, h1.1]
      exact ⟨rfl, Nat.max_le.mpr ⟨h1.2, ih.2⟩⟩
  unfold SeqAt.shaped
  rw [PyData.canLay0, PyData.depth, h.1, Bool.true_and, decide_eq_true_eq]
  have := h.2
  omega
theorem looks_all {ps : List Dt} (h : ps.all okD = true) : ps.map lookD = ps.map lookT := by
  refine List.map_congr_left fun p hp => ?_
  unfold lookD
  rw [if_pos (List.all_eq_true.mp h p hp)]
def mLooked (j : Nat) : List Da → Mv Dt
  | [.d d] => grd (Oq 300000 50 d ∧ d.depth ≤ j) (Dl.ret (lookD d))
  | _ => bad
theorem row_oqS : Oq 3 0 (.str "row") := oq_of (by decide +kernel)
theorem not_row {a : Dt} (o : Oq 300000 50 a) : ((a.shown) != (PyData.str "row").shown) = true ↔ a ≠ .str "row" := by
  have z := shown_eq row_oqS rfl o
  rw [bne_iff_ne]
  constructor
  · intro h e
    exact h (by rw [e])
  · intro h e
    exact h ((z.mp (by rw [beq_iff_eq]; exact e.symm)).symm)
theorem cond_row {x : Dt} (ho : Oq 300000 50 x) : (if (!isTup x) = true then Dl.ret true else either (bnd (oLen [x]) fun x => bnd (oNe x (PyData.int 2)) asB) (either (bnd (bnd (bnd (oAt x (PyData.int 0)) fun x => Dl.ret [x]) oRepr) fun x => bnd (oRepr [PyData.str "row"]) fun y => bnd (oNe x y) asB)
    (bnd (bnd (bnd (oAt x (PyData.int 1)) fun d => Dl.ret (PyData.bool (isTup d))) asB) fun c => Dl.ret !c)) : Mv Bool) = Dl.ret (rowOf x).isNone := by
  cases x with
  | tuple ds =>
    match ds, ho with
    | [], ho =>
      have n2 : ((((([] : List Dt).length : Nat) : Int)) == 2) = false := rfl
      simp only [sSeq, sIf, sNext, sAsg, sPar, sPar3, gN, bnd_ret, ret_app, bnd_grd, grd_app, sl_zero, sl_succ, slX_zero, slX_own, slX_succ, slO_zero, slO_own, slO_succ, slH_zero, slH_succ, frz_zero, frz_succ, own_zero, own_succ, onStr_str, asB_bool, asI_int, both_if, either_if, bothD_if, eitherD_if, choose_if, List.set_cons_zero, List.set_cons_succ, Bool.not_true, Bool.not_false, if_true, if_false, Bool.false_eq_true, grd_nil, isTup, oLen, oNe_int, n2]
      rfl
    | [a], ho =>
      have n2 : ((((([a] : List Dt).length : Nat) : Int)) == 2) = false := rfl
      have e : rowOf (.tuple [a]) = none := by unfold rowOf; cases a <;> rfl
      simp only [sSeq, sIf, sNext, sAsg, sPar, sPar3, gN, bnd_ret, ret_app, bnd_grd, grd_app, sl_zero, sl_succ, slX_zero, slX_own, slX_succ, slO_zero, slO_own, slO_succ, slH_zero, slH_succ, frz_zero, frz_succ, own_zero, own_succ, onStr_str, asB_bool, asI_int, both_if, either_if, bothD_if, eitherD_if, choose_if, List.set_cons_zero, List.set_cons_succ, Bool.not_true, Bool.not_false, if_true, if_false, Bool.false_eq_true, grd_nil, isTup, oLen, oNe_int, n2, e]
      rfl
    | a :: b :: c :: r, ho =>
      have n2 : ((((a :: b :: c :: r).length : Nat) : Int) == 2) = false := by simp only [List.length_cons, beq_eq_false_iff_ne]; omega
      have e : rowOf (.tuple (a :: b :: c :: r)) = none := by unfold rowOf; cases a <;> cases b <;> rfl
      simp only [sSeq, sIf, sNext, sAsg, sPar, sPar3, gN, bnd_ret, ret_app, bnd_grd, grd_app, sl_zero, sl_succ, slX_zero, slX_own, slX_succ, slO_zero, slO_own, slO_succ, slH_zero, slH_succ, frz_zero, frz_succ, own_zero, own_succ, onStr_str, asB_bool, asI_int, both_if, either_if, bothD_if, eitherD_if, choose_if, List.set_cons_zero, List.set_cons_succ, Bool.not_true, Bool.not_false, if_true, if_false, Bool.false_eq_true, grd_nil, isTup, oLen, oNe_int, n2, e]
      rfl
    | [a, b], ho =>
      have n2 : ((((([a, b] : List Dt).length : Nat) : Int)) == 2) = true := rfl
      have e1 : oAt (.tuple [a, b]) (.int 0) = Dl.ret a := rfl
      have e2 : oAt (.tuple [a, b]) (.int 1) = Dl.ret b := rfl
      have oa : Oq 300000 50 a := (ho.parts.mem a List.mem_cons_self).more (Nat.le_refl _) (by omega)
      have ga : goodD a = true := oa.good (Nat.le_refl _) (Nat.le_refl _)
      have gr : goodD (.str "row") = true := row_oqS.good (by omega) (by omega)
      simp only [sSeq, sIf, sNext, sAsg, sPar, sPar3, gN, bnd_ret, ret_app, bnd_grd, grd_app, sl_zero, sl_succ, slX_zero, slX_own, slX_succ, slO_zero, slO_own, slO_succ, slH_zero, slH_succ, frz_zero, frz_succ, own_zero, own_succ, onStr_str, asB_bool, asI_int, both_if, either_if, bothD_if, eitherD_if, choose_if, List.set_cons_zero, List.set_cons_succ, Bool.not_true, Bool.not_false, if_true, if_false, Bool.false_eq_true, grd_nil, isTup, oLen, oNe_int, n2, e1, e2, oRepr_good ga, oRepr_good gr, oNe_str]
      have z := not_row oa
      by_cases h : a = .str "row"
      · have hf : ((a.shown) != (PyData.str "row").shown) = false := by
          rw [h]
          simp
        rw [hf, h]
        cases b <;> first
          | rfl
          | (rw [rowOf_row]; rfl)
      · rw [z.mpr h]
        have e : rowOf (.tuple [a, b]) = none := by
          cases hh : rowOf (.tuple [a, b]) with
          | none => rfl
          | some ps =>
            have := rowOf_some hh
            cases this
            exact absurd rfl h
        rw [e]
        rfl
  | _ => rfl
theorem plus_int (i j : Int) : oPlus (.int i) (.int j) = Dl.ret (.int (i + j)) := rfl
def fstD : Dt → Dt
  | .tuple (a :: _) => a
  | _ => .none
def sndD : Dt → Dt
  | .tuple (_ :: a :: _) => a
  | _ => .none
def thdB : Dt → Bool
  | .tuple [_, _, .bool b] => b
  | _ => false
theorem sum_nods (ps : List Dt) : oSum [.list ((ps.map lookT).map fstD)] = Dl.ret (.int (nods ps : Nat)) := by
  have e : (ps.map lookT).map fstD = (ps.map fun p => ((nod p : Nat) : Int)).map PyData.int := by rw [List.map_map, List.map_map]; rfl
  show (match intsOf ((ps.map lookT).map fstD) with | some bs => Dl.ret (.int bs.sum) | none => bad : Mv Dt) = _
  rw [e, intsOf_map, ← nods_sum]
theorem max_deps (ps : List Dt) : oMaxDef (.list ((ps.map lookT).map sndD)) (.int 0) = Dl.ret (.int (deps ps : Nat)) := by
  have e : (ps.map lookT).map sndD = (ps.map fun p => ((dep p : Nat) : Int)).map PyData.int := by rw [List.map_map, List.map_map]; rfl
  show (match intsOf ((ps.map lookT).map sndD) with | some ns => Dl.ret (.int (maxOr 0 ns)) | none => bad : Mv Dt) = _
  rw [e, intsOf_map, ← deps_max]
theorem all_thd (ps : List Dt) : ((ps.map lookT).all thdB) = (lvs ps).all leafPlain := by
  rw [lvs_all, List.all_map]
  rfl
theorem oIn_none (ps : List Dt) : oIn .none (.list (ps.map lookD)) = Dl.ret (.bool (!ps.all okD)) := by
  rw [← inD_none]
  exact grd_true ⟨shaped_looks ps, rfl⟩ _
theorem ok_looked {j : Nat} {mR : List Da → Mv Dt} (hR : ∀ i, j = i + 1 → mR = mLooked i) (F : Fc K mg) (K__law_leaf_looked : Kn P w K mg base k "_law_leaf_looked" s_37 ["_law_it"] mLooked1) (K__law_looked : Kn P w K mg base k "_law_looked" s_38 ["_law_it"] mR) (D : Df K mg "_law_looked" s_38 ["_law_it"] f fd) : Kn P w K mg base (k + 1) "_law_looked" s_38 ["_law_it"] (mLooked j) := by
  refine D.kn (FnD.of _ D.d sc_38 (fun cdv A outer s H E g hx room => have hu := hu64 room; have hu1 := hu65 room;
    (dss_cons (ds_if (DW.tst (dw_or (dt_not (DE.tst (de_isi ts_tuple rfl F.m_isinstance rfl F.m_tuple rfl (dx_var 0)))) (dw_or (dt_cmpX (op_neA hu) x2_ne (DE.now (de_callX call_len xc_len rfl F.m_len rfl (dxs_cons (dx_var 0) dxs_nil))) (DE.now de_int) (nomark _)) (dw_or (dt_cmpX (op_neA hu) x2_ne (DE.now (de_callX (call_repr hx.guards hu) xc_repr rfl F.m_repr rfl (dxs_cons (DE.now (de_at (dx_var 0) (DE.now de_int) (fun _ _ => rfl))) dxs_nil))) (DE.now (de_callX (call_repr hx.guards hu) xc_repr rfl F.m_repr rfl (dxs_cons (DE.now de_str) dxs_nil))) (nomark _)) (dw_or1 (dt_not (DE.tst (de_isi ts_tuple rfl F.m_isinstance rfl F.m_tuple rfl (DE.now (de_at (dx_var 0) (DE.now de_int) (fun _ _ => rfl))))))))))) (dss_cons (ds_asg (de_k K__law_leaf_looked hx room (das_cons (DE.arg (de_var 0)) das_nil)) (dg_tup (k := 2) rfl (dgs_cons (dg_name 1 sc_38.nd) (dgs_cons (dg_name 2 sc_38.nd) dgs_nil))))
 (dss_one (ds_ret (de_if (DE.tst (de_var 1)) (de_tup (des_cons de_int (des_cons de_int (des_cons (de_var 2) des_nil)))) de_non)))) dss_nil)
 (dss_cons (ds_frz1 3 (ds_ownLc 3 rfl sc_38.nd (own := [("_law_part", 4)]) (blk_ok rfl) (DF.di (df_tup (de_at (dx_var 0) (DE.now de_int) (fun _ _ => rfl)))) (fun _ _ _ _ _ => (dg_name 4 sc_38.nd)) (fun _ _ _ _ _ => difs_nil) (fun _ _ _ _ _ => (de_k K__law_looked hx.blk room (das_cons (DE.arg (de_var 4)) das_nil)))))
 (dss_cons (ds_if (DW.tst (dw_or (dt_cmpX op_gt x2_cmp (DE.now (de_callX call_len xc_len rfl F.m_len rfl (dxs_cons (dx_var 3) dxs_nil))) (DE.now de_int) (nomark _)) (dw_or1 (dt_cmpX (op_inA hu1) x2_in (DE.now de_non) (dx_var 3) rfl)))) (dss_one (ds_ret de_non)) dss_nil)
 (dss_cons (ds_set 5 sc_38.nd (de_plus (DE.now de_int) (DE.now (de_callX (cr_sum rfl) xc_sum rfl F.m_sum rfl (dxs_cons (DE.now (DN.dat (dn_lc rfl sc_38.nd (own := [("_law_row", 6)]) (blk_ok rfl) (di_list (dx_var 3)) (fun _ _ _ _ _ => (dg_name 6 sc_38.nd)) (fun _ _ _ _ _ => difs_nil) (fun _ _ _ _ _ => (de_at (dx_var 6) (DE.now de_int) (fun _ _ => rfl)))))) dxs_nil)))))
 (dss_one (ds_ret (de_tup (des_cons (de_var 5) (des_cons (de_plus (DE.now de_int) (DE.now (de_maxD rfl hu F.m_max (DE.now (DN.dat (dn_lc rfl sc_38.nd (own := [("_law_row", 6)]) (blk_ok rfl) (di_list (dx_var 3)) (fun _ _ _ _ _ => (dg_name 6 sc_38.nd)) (fun _ _ _ _ _ => difs_nil) (fun _ _ _ _ _ => (de_at (dx_var 6) (DE.now de_int) (fun _ _ => rfl)))))) de_int))) (des_cons (de_cmpX (op_eqA hu) x2_eq (DE.now (DN.dat (dn_lc rfl sc_38.nd (own := [("_law_row", 6)]) (blk_ok rfl) (di_list (dx_var 3)) (fun _ _ _ _ _ => (dg_name 6 sc_38.nd)) (fun _ _ _ _ _ => (difs_one (dt_not (DE.tst (de_at (dx_var 6) (DE.now de_int) (fun _ _ => rfl)))))) (fun _ _ _ _ _ => (de_var 6))))) (DE.now (DN.dat (dn_lst des_nil))) (nomark _)) des_nil))))))))))) ?_)
  intro as n Qd W hl h
  match as, hl, h with
  | [.d x], _, ⟨⟨ho, hj⟩, hq⟩ =>
    have hq : Qd (lookD x) n := hq
    have hg : goodD x = true := ho.good (Nat.le_refl _) (Nat.le_refl _)
    have hz : fitW x := ho.w
    have ck := mPure_is (f := fun d => .tuple [.bool (leafGood d), .bool (leafPlain d)]) (["_law_it"] : List Str).length rfl hz
    rw [show slotsOf n_38 [Da.d x] = [Ds.d x, .no, .no, .no, .no, .no, .no] from rfl]
    simp only [sSeq, sIf, sNext, sAsg, sPar, sPar3, gN, bnd_ret, ret_app, bnd_grd, grd_app, sl_zero, sl_succ, slX_zero, slX_own, slX_succ, slO_zero, slO_own, slO_succ, slH_zero, slH_succ, frz_zero, frz_succ, own_zero, own_succ, onStr_str, asB_bool, asI_int, both_if, either_if, bothD_if, eitherD_if, choose_if, List.set_cons_zero, List.set_cons_succ, Bool.not_true, Bool.not_false, if_true, if_false, Bool.false_eq_true, grd_nil, mLooked1]
    rw [cond_row ho]
    cases hr : rowOf x with
    | none =>
      rw [look_leaf hr] at hq
      simp only [sSeq, sIf, sNext, sAsg, sPar, sPar3, gN, bnd_ret, ret_app, bnd_grd, grd_app, sl_zero, sl_succ, slX_zero, slX_own, slX_succ, slO_zero, slO_own, slO_succ, slH_zero, slH_succ, frz_zero, frz_succ, own_zero, own_succ, onStr_str, asB_bool, asI_int, both_if, either_if, bothD_if, eitherD_if, choose_if, List.set_cons_zero, List.set_cons_succ, Bool.not_true, Bool.not_false, if_true, if_false, Bool.false_eq_true, grd_nil, Option.isNone_none, ck, gTupM, gsCons, gsNil]
      cases hgd : leafGood x <;> (rw [hgd] at hq; first | exact ⟨rfl, sz 3, hq⟩ | exact ⟨rfl, hq⟩)
    | some ps =>
      have ex := rowOf_some hr
      have o1 : Oq 300000 x.depth x := ⟨ho.sh, ho.ls, ho.as, ho.w, Nat.le_refl _⟩
      have hd := ho.h
      have o2 : Oq 300000 (x.depth - 1) (.tuple ps) := by
        have z := o1
        rw [ex] at z
        have y := z.parts.mem (.tuple ps) (List.mem_cons_of_mem _ List.mem_cons_self)
        rw [← ex] at y
        exact y
      have o3 : Oqs 300000 (x.depth - 1 - 1) ps := o2.parts
      have hd2 : 2 ≤ x.depth := by
        rw [ex]
        simp only [PyData.depth, PyData.depthAll]
        omega
      obtain ⟨i, rfl⟩ : ∃ i, j = i + 1 := ⟨j - 1, by omega⟩
      rw [hR i rfl]
      have e1 : oAt x (.int 1) = Dl.ret (.tuple ps) := by rw [ex]; rfl
      simp only [sSeq, sIf, sNext, sAsg, sPar, sPar3, gN, bnd_ret, ret_app, bnd_grd, grd_app, sl_zero, sl_succ, slX_zero, slX_own, slX_succ, slO_zero, slO_own, slO_succ, slH_zero, slH_succ, frz_zero, frz_succ, own_zero, own_succ, onStr_str, asB_bool, asI_int, both_if, either_if, bothD_if, eitherD_if, choose_if, List.set_cons_zero, List.set_cons_succ, Bool.not_true, Bool.not_false, if_true, if_false, Bool.false_eq_true, grd_nil, Option.isNone_some, sOwn]
      rw [lcD_map (items := ps) lookD]
      · simp only [sSeq, sIf, sNext, sAsg, sPar, sPar3, gN, bnd_ret, ret_app, bnd_grd, grd_app, sl_zero, sl_succ, slX_zero, slX_own, slX_succ, slO_zero, slO_own, slO_succ, slH_zero, slH_succ, frz_zero, frz_succ, own_zero, own_succ, onStr_str, asB_bool, asI_int, both_if, either_if, bothD_if, eitherD_if, choose_if, List.set_cons_zero, List.set_cons_succ, Bool.not_true, Bool.not_false, if_true, if_false, Bool.false_eq_true, grd_nil, oLen, oC, List.length_map]
        have hk := ok_row hr
        by_cases h4 : 40 < ps.length
        · have h4' : decide ((40 : Int) < (ps.length : Int)) = true := decide_eq_true (by omega)
          have hn : okD x = false := by rw [hk, decide_eq_false (by omega), Bool.false_and]
          have hl : lookD x = .none := by unfold lookD; rw [hn]; rfl
          rw [hl] at hq
          simp only [sSeq, sIf, sNext, sAsg, sPar, sPar3, gN, bnd_ret, ret_app, bnd_grd, grd_app, sl_zero, sl_succ, slX_zero, slX_own, slX_succ, slO_zero, slO_own, slO_succ, slH_zero, slH_succ, frz_zero, frz_succ, own_zero, own_succ, onStr_str, asB_bool, asI_int, both_if, either_if, bothD_if, eitherD_if, choose_if, List.set_cons_zero, List.set_cons_succ, Bool.not_true, Bool.not_false, if_true, if_false, Bool.false_eq_true, grd_nil, h4']
          exact hq
        have h4' : decide ((40 : Int) < (ps.length : Int)) = false := decide_eq_false (by omega)
        simp only [sSeq, sIf, sNext, sAsg, sPar, sPar3, gN, bnd_ret, ret_app, bnd_grd, grd_app, sl_zero, sl_succ, slX_zero, slX_own, slX_succ, slO_zero, slO_own, slO_succ, slH_zero, slH_succ, frz_zero, frz_succ, own_zero, own_succ, onStr_str, asB_bool, asI_int, both_if, either_if, bothD_if, eitherD_if, choose_if, List.set_cons_zero, List.set_cons_succ, Bool.not_true, Bool.not_false, if_true, if_false, Bool.false_eq_true, grd_nil, h4', oIn_none]
        cases ha : ps.all okD with
        | false =>
          have hn : okD x = false := by rw [hk, ha, Bool.and_false]
          have hl : lookD x = .none := by unfold lookD; rw [hn]; rfl
          rw [hl] at hq
          exact hq
        | true =>
          have hn : okD x = true := by rw [hk, ha, decide_eq_true (show ps.length ≤ 40 by omega)]; rfl
          have hl : lookD x = .tuple [.int ((1 + nods ps : Nat) : Int), .int ((1 + deps ps : Nat) : Int), .bool ((lvs ps).all leafPlain)] := by
            unfold lookD lookT
            rw [hn, nod_row hr, dep_row hr, lv_row hr]
            rfl
          rw [hl] at hq
          rw [looks_all ha]
          simp only [sSeq, sIf, sNext, sAsg, sPar, sPar3, gN, bnd_ret, ret_app, bnd_grd, grd_app, sl_zero, sl_succ, slX_zero, slX_own, slX_succ, slO_zero, slO_own, slO_succ, slH_zero, slH_succ, frz_zero, frz_succ, own_zero, own_succ, onStr_str, asB_bool, asI_int, both_if, either_if, bothD_if, eitherD_if, choose_if, List.set_cons_zero, List.set_cons_succ, Bool.not_true, Bool.not_false, if_true, if_false, Bool.false_eq_true, grd_nil]
          have hm : ∀ r ∈ ps.map lookT, ∃ p, r = lookT p := fun r hr => by
            obtain ⟨p, _, e⟩ := List.mem_map.mp hr
            exact ⟨p, e.symm⟩
          rw [lcD_map (items := ps.map lookT) fstD rfl (fun r hr => by obtain ⟨p, rfl⟩ := hm r hr; exact ⟨_, rfl, rfl⟩)]
          simp only [sSeq, sIf, sNext, sAsg, sPar, sPar3, gN, bnd_ret, ret_app, bnd_grd, grd_app, sl_zero, sl_succ, slX_zero, slX_own, slX_succ, slO_zero, slO_own, slO_succ, slH_zero, slH_succ, frz_zero, frz_succ, own_zero, own_succ, onStr_str, asB_bool, asI_int, both_if, either_if, bothD_if, eitherD_if, choose_if, List.set_cons_zero, List.set_cons_succ, Bool.not_true, Bool.not_false, if_true, if_false, Bool.false_eq_true, grd_nil, sum_nods, plus_int]
          rw [lcD_map (items := ps.map lookT) sndD rfl (fun r hr => by obtain ⟨p, rfl⟩ := hm r hr; exact ⟨_, rfl, rfl⟩)]
          rw [lcD_filter (items := ps.map lookT) (fun r => !thdB r) rfl (fun r hr => by obtain ⟨p, rfl⟩ := hm r hr; exact ⟨_, rfl, rfl, rfl⟩)]
          simp only [sSeq, sIf, sNext, sAsg, sPar, sPar3, gN, bnd_ret, ret_app, bnd_grd, grd_app, sl_zero, sl_succ, slX_zero, slX_own, slX_succ, slO_zero, slO_own, slO_succ, slH_zero, slH_succ, frz_zero, frz_succ, own_zero, own_succ, onStr_str, asB_bool, asI_int, both_if, either_if, bothD_if, eitherD_if, choose_if, List.set_cons_zero, List.set_cons_succ, Bool.not_true, Bool.not_false, if_true, if_false, Bool.false_eq_true, grd_nil, max_deps, plus_int, oEq_nil, filter_none, Bool.not_not, all_thd]
          exact ⟨sz 3, hq⟩
      · simp only [sSeq, sIf, sNext, sAsg, sPar, sPar3, gN, bnd_ret, ret_app, bnd_grd, grd_app, sl_zero, sl_succ, slX_zero, slX_own, slX_succ, slO_zero, slO_own, slO_succ, slH_zero, slH_succ, frz_zero, frz_succ, own_zero, own_succ, onStr_str, asB_bool, asI_int, both_if, either_if, bothD_if, eitherD_if, choose_if, List.set_cons_zero, List.set_cons_succ, Bool.not_true, Bool.not_false, if_true, if_false, Bool.false_eq_true, grd_nil, e1]
        rfl
      · intro p hp
        have op := o3.mem p hp
        refine ⟨_, rfl, ?_⟩
        have c1 : many (["_law_it"] : List Str).length (mLooked i) [Da.d p] = Dl.ret (lookD p) := (many_app _ _ _ rfl).trans (grd_true ⟨op.more (Nat.le_refl _) (by omega), by have := op.h; omega⟩ _)
        simp only [sSeq, sIf, sNext, sAsg, sPar, sPar3, gN, bnd_ret, ret_app, bnd_grd, grd_app, sl_zero, sl_succ, slX_zero, slX_own, slX_succ, slO_zero, slO_own, slO_succ, slH_zero, slH_succ, frz_zero, frz_succ, own_zero, own_succ, onStr_str, asB_bool, asI_int, both_if, either_if, bothD_if, eitherD_if, choose_if, List.set_cons_zero, List.set_cons_succ, Bool.not_true, Bool.not_false, if_true, if_false, Bool.false_eq_true, grd_nil, wipeD_cons, wipeD_nil, List.map, c1]
end
end Ev
namespace Ev
open PySem PySem.Spec L2 Dl
open PyProof.Rows hiding St
section
variable {P : Program} {w : World} {K : PySem.W.Frag} {mg : Str → Option Value} {base : Heap} {f : Addr} {fd : FuncData} {k : Nat}
theorem looked_all (F : Fc K mg) (K__law_leaf_looked : Kn P w K mg base k "_law_leaf_looked" s_37 ["_law_it"] mLooked1) (D : Df K mg "_law_looked" s_38 ["_law_it"] f fd) : ∀ j, Kn P w K mg base (k + j + 1) "_law_looked" s_38 ["_law_it"] (mLooked j)
  | 0 => ok_looked (fun i h => by omega) F K__law_leaf_looked (Kn.never D) D
  | j + 1 => ok_looked (mR := mLooked j) (fun i h => by cases h; rfl) F (K__law_leaf_looked.more (by omega)) (looked_all F K__law_leaf_looked D j) D
def mDeemed : List Da → Mv Dt
  | [.d d] => grd (Oq 300000 50 d) (Dl.ret (.list [.bool (isWorth d), .bool (isPlain d)]))
  | _ => bad
theorem good_plain {d : Dt} (h : leafGood d = true) : leafPlain d = isBare d := by
  unfold leafGood at h
  cases d with
  | none => rfl
  | bool b => rfl
  | int i => simpa [isNamed, leafPlain] using h.symm
  | str x => simpa [isNamed, leafPlain] using h.symm
  | _ => rfl
theorem all_plain {ds : List Dt} (h : ds.all leafGood = true) : ds.all leafPlain = ds.all isBare := by
  induction ds with
  | nil => rfl
  | cons d ds ih =>
    rw [List.all_cons, Bool.and_eq_true] at h
    rw [List.all_cons, List.all_cons, ih h.2, good_plain h.1]
theorem bare_good {ds : List Dt} (h : ds.all isBare = true) : ds.all leafGood = true := by
  rw [List.all_eq_true] at h ⊢
  intro d hd
  unfold leafGood
  rw [h d hd]
  rfl
theorem ok_deemed (F : Fc K mg) (K__law_looked : Kn P w K mg base k "_law_looked" s_38 ["_law_it"] (mLooked 50)) (D : Df K mg "_law_deemed" s_39 ["_law_it"] f fd) : Kn P w K mg base (k + 1) "_law_deemed" s_39 ["_law_it"] mDeemed := by
  refine D.kn (FnD.of _ D.d sc_39 (fun cdv A outer s H E g hx room => have hu := hu64 room; have hu1 := hu65 room;
    (dss_cons (ds_set 1 sc_39.nd (de_k K__law_looked hx room (das_cons (DE.arg (de_var 0)) das_nil)))
 (dss_cons (ds_if (DW.tst (dw_or (dt_cmpX op_isN x2_isN (dx_var 1) (DE.now de_non) (nomark _)) (dw_or (dt_cmpX op_gt x2_cmp (DE.now (de_at (dx_var 1) (DE.now de_int) (fun _ _ => rfl))) (DE.now de_int) (nomark _)) (dw_or1 (dt_cmpX op_gt x2_cmp (DE.now (de_at (dx_var 1) (DE.now de_int) (fun _ _ => rfl))) (DE.now de_int) (nomark _)))))) (dss_one (ds_ret (DN.dat (dn_lst (des_cons de_bl (des_cons de_bl des_nil)))))) dss_nil)
 (dss_one (ds_ret (DN.dat (dn_lst (des_cons de_bl (des_cons (de_at (dx_var 1) (DE.now de_int) (fun _ _ => rfl)) des_nil))))))))) ?_)
  intro as n Qd W hl h
  match as, hl, h with
  | [.d x], _, ⟨ho, hq⟩ =>
    have hq : Qd (.list [.bool (isWorth x), .bool (isPlain x)]) n := hq
    have c1 : many (["_law_it"] : List Str).length (mLooked 50) [Da.d x] = Dl.ret (lookD x) := (many_app _ _ _ rfl).trans (grd_true ⟨ho, ho.h⟩ _)
    rw [show slotsOf n_39 [Da.d x] = [Ds.d x, .no] from rfl]
    simp only [sSeq, sIf, sNext, sAsg, sPar, sPar3, gN, bnd_ret, ret_app, bnd_grd, grd_app, sl_zero, sl_succ, slX_zero, slX_own, slX_succ, slO_zero, slO_own, slO_succ, slH_zero, slH_succ, frz_zero, frz_succ, own_zero, own_succ, onStr_str, asB_bool, asI_int, both_if, either_if, bothD_if, eitherD_if, choose_if, List.set_cons_zero, List.set_cons_succ, Bool.not_true, Bool.not_false, if_true, if_false, Bool.false_eq_true, grd_nil, c1]
    unfold lookD
    cases hk : okD x with
    | false =>
      have hw : wid x = false ∨ (lv x).all leafGood = false := by
        unfold okD at hk
        cases h1 : wid x
        · exact .inl rfl
        · rw [h1] at hk; exact .inr hk
      have e1 : isWorth x = false := by
        unfold isWorth inBounds
        rcases hw with h | h <;> rw [h] <;> simp
      have e2 : isPlain x = false := by
        unfold isPlain inBounds
        rcases hw with h | h
        · rw [h]; simp
        · cases hb : (lv x).all isBare
          · simp
          · rw [bare_good hb] at h; cases h
      rw [e1, e2] at hq
      exact ⟨sz 2, hq⟩
    | true =>
      have hk' : wid x = true ∧ (lv x).all leafGood = true := by
        unfold okD at hk
        rw [Bool.and_eq_true] at hk
        exact hk
      have e1 : isWorth x = (decide (nod x ≤ 200) && decide (dep x ≤ 8)) := by
        unfold isWorth inBounds
        rw [hk'.1, hk'.2, Bool.and_true, Bool.and_true]
      have e2 : isPlain x = ((decide (nod x ≤ 200) && decide (dep x ≤ 8)) && (lv x).all leafPlain) := by
        unfold isPlain inBounds
        rw [hk'.1, Bool.and_true, all_plain hk'.2]
      rw [e1, e2] at hq
      have a0 : oAt (lookT x) (.int 0) = Dl.ret (.int (nod x : Nat)) := rfl
      have a1 : oAt (lookT x) (.int 1) = Dl.ret (.int (dep x : Nat)) := rfl
      have a2 : oAt (lookT x) (.int 2) = Dl.ret (.bool ((lv x).all leafPlain)) := rfl
      have d1 : decide ((200 : Int) < (nod x : Int)) = !decide (nod x ≤ 200) := by rw [← decide_not]; exact decide_eq_decide.mpr (by omega)
      have d2 : decide ((8 : Int) < (dep x : Int)) = !decide (dep x ≤ 8) := by rw [← decide_not]; exact decide_eq_decide.mpr (by omega)
      have hn : oIsN (lookT x) .none = Dl.ret (.bool false) := rfl
      simp only [sSeq, sIf, sNext, sAsg, sPar, sPar3, gN, bnd_ret, ret_app, bnd_grd, grd_app, sl_zero, sl_succ, slX_zero, slX_own, slX_succ, slO_zero, slO_own, slO_succ, slH_zero, slH_succ, frz_zero, frz_succ, own_zero, own_succ, onStr_str, asB_bool, asI_int, both_if, either_if, bothD_if, eitherD_if, choose_if, List.set_cons_zero, List.set_cons_succ, Bool.not_true, Bool.not_false, if_true, if_false, Bool.false_eq_true, grd_nil, hn, a0, a1, a2, oC, d1, d2]
      cases h1 : decide (nod x ≤ 200) <;> cases h2 : decide (dep x ≤ 8) <;> (rw [h1, h2] at hq; exact ⟨sz 2, hq⟩)
theorem e39 : oI CPow (fun i j => i ^ j.toNat) (.int 10) (.int 39) = Dl.ret (.int 1000000000000000000000000000000000000000) := grd_true ⟨by omega, by omega, by decide⟩ _
theorem sub_int (i j : Int) : oI (fun _ _ => True) (fun i j => i - j) (.int i) (.int j) = Dl.ret (.int (i - j)) := grd_true trivial _
theorem plus_list (xs ys : List Dt) : oPlus (.list xs) (.list ys) = grd (xs.length + ys.length ≤ sizeLine) (Dl.ret (.list (xs ++ ys))) := rfl
theorem szn {n : Nat} (h : Nat.ble n 1000 = true) : n ≤ sizeLine := Nat.le_trans (Nat.le_of_ble_eq_true h) (by decide)
def mOdd : List Da → Mv Dt
  | [.hand, .d p] => grd (Oq 100000 40 p) (dr 1 (Oq (2 * p.weight + 300) (p.depth + 3)))
  | _ => bad
theorem ok_odd (F : Fc K mg) (K__law_pick : Kn P w K mg base k "_law_pick" s_27 ["_law_hand", "_law_some"] mPick) (D : Df K mg "_law_odd" s_40 ["_law_hand", "_law_part"] f fd) : Kn P w K mg base (k + 1) "_law_odd" s_40 ["_law_hand", "_law_part"] mOdd := by
  refine D.kn (FnD.of _ D.d sc_40 (fun cdv A outer s H E g hx room => have hu := hu64 room; have hu1 := hu65 room;
    (dss_cons (ds_set 2 sc_40.nd (DN.dat (dn_lst (des_cons de_non (des_cons de_bl (des_cons de_int (des_cons (de_neg de_int) (des_cons (de_plus (DE.now (de_pow de_int de_int)) (DE.now de_int)) (des_cons (de_sub (de_sub de_int (de_pow de_int de_int)) de_int) (des_cons (de_pow de_int de_int) (des_cons de_str (des_cons de_str (des_cons de_str (des_cons (DN.dat (dn_lst des_nil)) (des_cons de_disp0 des_nil)))))))))))))))
 (dss_cons (ds_set 2 sc_40.nd (de_plus (dx_var 2) (DE.now (DN.dat (dn_lst (des_cons (de_tup des_nil) (des_cons (de_tup (des_cons de_str des_nil)) (des_cons (de_tup (des_cons de_str (des_cons (DN.dat (dn_lst des_nil)) des_nil))) (des_cons (de_tup (des_cons de_str (des_cons (de_tup des_nil) (des_cons (de_tup des_nil) des_nil)))) (des_cons (de_tup (des_cons de_str (des_cons (de_neg de_int) des_nil))) (des_cons (de_tup (des_cons de_str (des_cons de_bl des_nil))) (des_cons (de_tup (des_cons de_str (des_cons (de_plus (DE.now (de_pow de_int de_int)) (DE.now de_int)) des_nil))) des_nil))))))))))))
 (dss_cons (ds_set 2 sc_40.nd (de_plus (dx_var 2) (DE.now (DN.dat (dn_lst (des_cons (de_tup (des_cons de_str (des_cons de_int (des_cons de_int des_nil)))) (des_cons (de_tup (des_cons de_str (des_cons de_str des_nil))) (des_cons (de_tup (des_cons de_str (des_cons de_str (des_cons de_str des_nil)))) (des_cons (de_tup (des_cons de_str (des_cons de_str (des_cons de_str des_nil)))) (des_cons (de_tup (des_cons de_str (des_cons de_str (des_cons de_non des_nil)))) des_nil))))))))))
 (dss_cons (ds_set 2 sc_40.nd (de_plus (dx_var 2) (DE.now (DN.dat (dn_lst (des_cons (de_tup (des_cons de_str (des_cons de_str (des_cons de_str des_nil)))) (des_cons (de_tup (des_cons (de_var 1) des_nil)) (des_cons (DN.dat (dn_lst (des_cons (de_var 1) des_nil))) (des_cons (de_tup (des_cons de_str (des_cons (de_tup (des_cons (de_var 1) des_nil)) des_nil))) (des_cons (de_tup (des_cons de_str (des_cons (de_var 1) des_nil))) (des_cons (de_tup (des_cons de_str (des_cons (de_tup (des_cons (de_var 1) des_nil)) des_nil))) des_nil)))))))))))
 (dss_cons (ds_set 2 sc_40.nd (de_plus (dx_var 2) (DE.now (DN.dat (dn_lst (des_cons (de_tup (des_cons de_str (des_cons (de_tup (des_cons (de_var 1) (des_cons (de_var 1) des_nil))) des_nil))) (des_cons (de_tup (des_cons de_non (des_cons (de_var 1) des_nil))) des_nil)))))))
 (dss_one (ds_ret (de_k K__law_pick hx room (das_cons (da_hand 0) (das_cons (DE.arg (de_var 2)) das_nil))))))))))) ?_)
  intro as n Qd W hl h
  match as, hl, h with
  | [.hand, .d p], _, ⟨ho, hn, hq⟩ =>
    rw [show slotsOf n_40 [Da.hand, Da.d p] = [.hand, .d p, .no] from rfl]
    simp only [sSeq, sIf, sNext, sAsg, sPar, sPar3, gN, bnd_ret, ret_app, bnd_grd, grd_app, sl_zero, sl_succ, slX_zero, slX_own, slX_succ, slO_zero, slO_own, slO_succ, slH_zero, slH_succ, frz_zero, frz_succ, own_zero, own_succ, onStr_str, asB_bool, asI_int, both_if, either_if, bothD_if, eitherD_if, choose_if, List.set_cons_zero, List.set_cons_succ, Bool.not_true, Bool.not_false, if_true, if_false, Bool.false_eq_true, grd_nil, bnd_app, e15, e39, sub_int, plus_int, plus_list]
    repeat (refine ⟨szn rfl, ?_⟩)
    refine ⟨rfl, ⟨fun z => (nomatch z), by show 32 < 2 ^ 30; decide⟩, hn, fun y m hy hm => hq y m ?_ hm⟩
    have o1 : Oq p.weight p.depth p := ⟨ho.sh, ho.ls, ho.as, Nat.le_refl _, Nat.le_refl _⟩
    have op : Oqs (p.weight + 1) p.depth [p] := (Oqs.cons o1 (Oqs.nil (w := 0))).more (by omega) (by omega)
    have s3 : ∀ x : Str, oqB 3 0 (.str x) = true → Oq 3 (p.depth + 1) (.str x) := fun x h => (oq_of h).more (by omega) (by omega)
    rcases List.mem_append.mp hy with hy | hy
    · rcases List.mem_append.mp hy with hy | hy
      · rcases List.mem_append.mp hy with hy | hy
        · rcases List.mem_append.mp hy with hy | hy
          · exact (oqs_of (w := 300) (h := 3) (by decide +kernel) y hy).more (by omega) (by omega)
          · exact (oqs_of (w := 300) (h := 3) (by decide +kernel) y hy).more (by omega) (by omega)
        · exact (oqs_of (w := 300) (h := 3) (by decide +kernel) y hy).more (by omega) (by omega)
      · simp only [List.mem_cons, List.not_mem_nil, or_false] at hy
        rcases hy with rfl | rfl | rfl | rfl | rfl | rfl
        · exact (oq_of (w := 300) (h := 3) (by decide +kernel)).more (by omega) (by omega)
        · exact (Oq.tup op).more (by omega) (by omega)
        · exact (Oq.lst op).more (by omega) (by omega)
        · exact (row_oq op).more (by omega) (by omega)
        · exact (Oq.tup (Oqs.cons (s3 "row" (by decide +kernel)) (Oqs.cons (o1.more (Nat.le_refl _) (by omega)) (Oqs.nil (w := 0))))).more (by omega) (by omega)
        · exact (Oq.tup (Oqs.cons (s3 "Row" (by decide +kernel)) (Oqs.cons (Oq.tup op) (Oqs.nil (w := 0))))).more (by omega) (by omega)
    · simp only [List.mem_cons, List.not_mem_nil, or_false] at hy
      rcases hy with rfl | rfl
      · exact (row_oq (Oqs.cons o1 op)).more (by omega) (by omega)
      · exact (Oq.tup (Oqs.cons (Oq.none.more (Nat.le_refl _) (by omega)) op)).more (by omega) (by omega)
theorem cut_take {ds : List Dt} {r : Int} (h0 : 0 ≤ r) (h1 : r ≤ ds.length) : Dl.cutD ds none (some r) = ds.take r.toNat := by
  unfold Dl.cutD
  have e : HT.sIx ds.length ds.length (some r) = r.toNat := by
    show (if r < 0 then (r + (ds.length : Int)).toNat else min r.toNat ds.length) = _
    rw [if_neg (by omega)]
    omega
  rw [e]
  show (ds.drop 0).take (r.toNat - 0) = _
  rw [List.drop_zero, Nat.sub_zero]
theorem cut_drop {ds : List Dt} {r : Int} (h0 : 0 ≤ r) (h1 : r ≤ ds.length) : Dl.cutD ds (some r) none = ds.drop r.toNat := by
  unfold Dl.cutD
  have e : HT.sIx ds.length 0 (some r) = r.toNat := by
    show (if r < 0 then (r + (ds.length : Int)).toNat else min r.toNat ds.length) = _
    rw [if_neg (by omega)]
    omega
  rw [e]
  show (ds.drop r.toNat).take (ds.length - r.toNat) = _
  rw [List.take_of_length_le (by rw [List.length_drop]; exact Nat.le_refl _)]
theorem at_split {ds : List Dt} {r : Int} (h0 : 0 ≤ r) (h1 : r < ds.length) : ∃ y, oAt (.tuple ds) (.int r) = Dl.ret y ∧ ds = ds.take r.toNat ++ y :: ds.drop (r.toNat + 1) := by
  have hr : r.toNat < ds.length := by omega
  have e : L2.atI ds r = some ds[r.toNat] := by
    have z := L2.atI_nat (xs := ds) (j := r.toNat) (v := ds[r.toNat]) (by simp [hr])
    rw [show ((r.toNat : Nat) : Int) = r by omega] at z
    exact z
  refine ⟨ds[r.toNat], ?_, ?_⟩
  · show (match L2.atI ds r with | some y => Dl.ret y | none => bad : Mv Dt) = _
    rw [e]
  · rw [List.getElem_cons_drop, List.take_append_drop]
theorem len_weight (ds : List Dt) : ds.length ≤ PyData.weightAll ds := by
  induction ds with
  | nil => exact Nat.zero_le _
  | cons d ds ih => rw [PyData.weightAll, List.length_cons]; omega
theorem _root_.Dl.Oqs.sharp {w h : Nat} {ds : List Dt} (o : Oqs w h ds) : Oqs (PyData.weightAll ds) h ds := ⟨o.sh, o.ls, o.as, Nat.le_refl _, o.h⟩
theorem _root_.Dl.Oq.sharp {w h : Nat} {d : Dt} (o : Oq w h d) : Oq d.weight h d := ⟨o.sh, o.ls, o.as, Nat.le_refl _, o.h⟩
def mSpoilt (j : Nat) : List Da → Mv Dt
  | [.hand, .d p] => grd (Oq 100000 40 p ∧ p.depth ≤ j) (dr (2 * j + 3) (Oq (2 * p.weight + 300) (p.depth + 3)))
  | _ => bad
theorem ok_spoilt {j : Nat} {mR : List Da → Mv Dt} (hR : ∀ i, j = i + 1 → mR = mSpoilt i) (F : Fc K mg) (K__law_dealt : Kn P w K mg base k "_law_dealt" s_26 ["_law_hand", "_law_lots"] mDealt) (K__law_odd : Kn P w K mg base k "_law_odd" s_40 ["_law_hand", "_law_part"] mOdd) (K__law_spoilt : Kn P w K mg base k "_law_spoilt" s_41 ["_law_hand", "_law_it"] mR) (D : Df K mg "_law_spoilt" s_41 ["_law_hand", "_law_it"] f fd) : Kn P w K mg base (k + 1) "_law_spoilt" s_41 ["_law_hand", "_law_it"] (mSpoilt j) := by
  refine D.kn (FnD.of _ D.d sc_41 (fun cdv A outer s H E g hx room => have hu := hu64 room; have hu1 := hu65 room;
    (dss_cons (ds_if (DW.tst (dw_or (dt_not (DE.tst (de_isi ts_tuple rfl F.m_isinstance rfl F.m_tuple rfl (dx_var 1)))) (dw_or (dt_cmpX (op_eqA hu) x2_eq (dx_var 1) (DE.now (de_tup des_nil)) (nomark _)) (dw_or1 (dt_cmpX (op_eqA hu) x2_eq (DE.now (de_k K__law_dealt hx room (das_cons (da_hand 0) (das_cons (DE.arg de_int) das_nil)))) (DE.now de_int) (nomark _)))))) (dss_one (ds_ret (de_k K__law_odd hx room (das_cons (da_hand 0) (das_cons (DE.arg (de_var 1)) das_nil))))) dss_nil)
 (dss_cons (ds_set 2 sc_41.nd (de_k K__law_dealt hx room (das_cons (da_hand 0) (das_cons (DE.arg (de_callX call_len xc_len rfl F.m_len rfl (dxs_cons (dx_var 1) dxs_nil))) das_nil))))
 (dss_one (ds_ret (de_plus (DE.now (de_plus (DE.now (de_cut (dx_var 1) do_none (do_some (de_var 2)))) (DE.now (de_tup (des_cons (de_k K__law_spoilt hx room (das_cons (da_hand 0) (das_cons (DE.arg (de_at (dx_var 1) (dx_var 2) (fun _ _ => rfl))) das_nil))) des_nil))))) (DE.now (de_cut (dx_var 1) (do_some (de_plus (dx_var 2) (DE.now de_int))) do_none)))))))) ?_)
  intro as n Qd W hl h
  match as, hl, h with
  | [.hand, .d p], _, ⟨⟨ho, hj⟩, hn, hq⟩ =>
    rw [show slotsOf n_41 [Da.hand, Da.d p] = [.hand, .d p, .no] from rfl]
    simp only [sSeq, sIf, sNext, sAsg, sPar, sPar3, gN, bnd_ret, ret_app, bnd_grd, grd_app, sl_zero, sl_succ, slX_zero, slX_own, slX_succ, slO_zero, slO_own, slO_succ, slH_zero, slH_succ, frz_zero, frz_succ, own_zero, own_succ, onStr_str, asB_bool, asI_int, both_if, either_if, bothD_if, eitherD_if, choose_if, List.set_cons_zero, List.set_cons_succ, Bool.not_true, Bool.not_false, if_true, if_false, Bool.false_eq_true, grd_nil, bnd_app]
    have hodd : ∀ m, n ≤ m + 2 → many (["_law_hand", "_law_part"] : List Str).length mOdd [Da.hand, Da.d p] m Qd W := fun m hm => ⟨rfl, ho, by omega, fun y m2 hy hm2 => hq y m2 hy (by omega)⟩
    cases p with
    | tuple ds =>
      cases ds with
      | nil =>
        simp only [sSeq, sIf, sNext, sAsg, sPar, sPar3, gN, bnd_ret, ret_app, bnd_grd, grd_app, sl_zero, sl_succ, slX_zero, slX_own, slX_succ, slO_zero, slO_own, slO_succ, slH_zero, slH_succ, frz_zero, frz_succ, own_zero, own_succ, onStr_str, asB_bool, asI_int, both_if, either_if, bothD_if, eitherD_if, choose_if, List.set_cons_zero, List.set_cons_succ, Bool.not_true, Bool.not_false, if_true, if_false, Bool.false_eq_true, grd_nil, isTup, oEq_tnil, List.isEmpty_nil]
        exact hodd n (by omega)
      | cons a r =>
        have el : (a :: r : List Dt).isEmpty = false := rfl
        simp only [sSeq, sIf, sNext, sAsg, sPar, sPar3, gN, bnd_ret, ret_app, bnd_grd, grd_app, sl_zero, sl_succ, slX_zero, slX_own, slX_succ, slO_zero, slO_own, slO_succ, slH_zero, slH_succ, frz_zero, frz_succ, own_zero, own_succ, onStr_str, asB_bool, asI_int, both_if, either_if, bothD_if, eitherD_if, choose_if, List.set_cons_zero, List.set_cons_succ, Bool.not_true, Bool.not_false, if_true, if_false, Bool.false_eq_true, grd_nil, isTup, oEq_tnil, el]
        refine ⟨rfl, by omega, by omega, by omega, fun r1 a1 b1 => ?_⟩
        simp only [sSeq, sIf, sNext, sAsg, sPar, sPar3, gN, bnd_ret, ret_app, bnd_grd, grd_app, sl_zero, sl_succ, slX_zero, slX_own, slX_succ, slO_zero, slO_own, slO_succ, slH_zero, slH_succ, frz_zero, frz_succ, own_zero, own_succ, onStr_str, asB_bool, asI_int, both_if, either_if, bothD_if, eitherD_if, choose_if, List.set_cons_zero, List.set_cons_succ, Bool.not_true, Bool.not_false, if_true, if_false, Bool.false_eq_true, grd_nil, oEq_int]
        cases z : (r1 == 0) with
        | true =>
          simp only [sSeq, sIf, sNext, sAsg, sPar, sPar3, gN, bnd_ret, ret_app, bnd_grd, grd_app, sl_zero, sl_succ, slX_zero, slX_own, slX_succ, slO_zero, slO_own, slO_succ, slH_zero, slH_succ, frz_zero, frz_succ, own_zero, own_succ, onStr_str, asB_bool, asI_int, both_if, either_if, bothD_if, eitherD_if, choose_if, List.set_cons_zero, List.set_cons_succ, Bool.not_true, Bool.not_false, if_true, if_false, Bool.false_eq_true, grd_nil]
          exact hodd _ (by omega)
        | false =>
          simp only [sSeq, sIf, sNext, sAsg, sPar, sPar3, gN, bnd_ret, ret_app, bnd_grd, grd_app, sl_zero, sl_succ, slX_zero, slX_own, slX_succ, slO_zero, slO_own, slO_succ, slH_zero, slH_succ, frz_zero, frz_succ, own_zero, own_succ, onStr_str, asB_bool, asI_int, both_if, either_if, bothD_if, eitherD_if, choose_if, List.set_cons_zero, List.set_cons_succ, Bool.not_true, Bool.not_false, if_true, if_false, Bool.false_eq_true, grd_nil, oLen]
          generalize hds : (a :: r : List Dt) = ds at *
          have hw : PyData.weightAll ds ≤ 100000 := by have := ho.w; rwa [PyData.weight] at this
          have hlen := len_weight ds
          have hpos : 0 < ds.length := by rw [← hds]; exact Nat.succ_pos _
          have hdep : (PyData.tuple ds).depth = PyData.depthAll ds + 1 := by rw [PyData.depth]; try omega
          have hwt : (PyData.tuple ds).weight = PyData.weightAll ds := by rw [PyData.weight]
          have hs : 300000 ≤ sizeLine := by decide
          refine ⟨rfl, by omega, by omega, by omega, fun r2 a2 b2 => ?_⟩
          obtain ⟨y, e1, e2⟩ := at_split a2 b2
          have o1 : Oqs 100000 (PyData.depthAll ds) ds := by
            have z := ho.parts
            exact ⟨z.sh, z.ls, z.as, z.w, Nat.le_refl _⟩
          have oy := o1.mem y (by rw [e2]; simp)
          have oA : Oqs (PyData.weightAll (ds.take r2.toNat)) (PyData.depthAll ds) (ds.take r2.toNat) := (Oqs.app' (w' := 0) (by rw [← e2]; exact o1)).1.sharp
          have oB0 : Oqs 100000 (PyData.depthAll ds) (y :: ds.drop (r2.toNat + 1)) := (Oqs.app' (w' := 0) (ds := ds.take r2.toNat) (by rw [← e2]; exact o1)).2
          have oB : Oqs (PyData.weightAll (ds.drop (r2.toNat + 1))) (PyData.depthAll ds) (ds.drop (r2.toNat + 1)) := (Oqs.app' (w' := 0) (ds := [y]) oB0).2.sharp
          have we : PyData.weightAll ds = PyData.weightAll (ds.take r2.toNat) + (y.weight + 1 + PyData.weightAll (ds.drop (r2.toNat + 1))) := by
            conv => lhs; rw [e2, Oqs.weight_app, PyData.weightAll]
          have le : (ds.take r2.toNat).length + (ds.drop (r2.toNat + 1)).length ≤ ds.length := by rw [List.length_take, List.length_drop]; omega
          have ec1 : oCut (.tuple ds) none (some r2) = Dl.ret (.tuple (ds.take r2.toNat)) := by
            show Dl.ret (PyData.tuple (Dl.cutD ds none (some r2))) = _
            rw [cut_take a2 (by omega)]
          have ec2 : oCut (.tuple ds) (some (r2 + 1)) none = Dl.ret (.tuple (ds.drop (r2.toNat + 1))) := by
            show Dl.ret (PyData.tuple (Dl.cutD ds (some (r2 + 1)) none)) = _
            rw [cut_drop (by omega) (by omega), show (r2 + 1).toNat = r2.toNat + 1 by omega]
          simp only [sSeq, sIf, sNext, sAsg, sPar, sPar3, gN, bnd_ret, ret_app, bnd_grd, grd_app, sl_zero, sl_succ, slX_zero, slX_own, slX_succ, slO_zero, slO_own, slO_succ, slH_zero, slH_succ, frz_zero, frz_succ, own_zero, own_succ, onStr_str, asB_bool, asI_int, both_if, either_if, bothD_if, eitherD_if, choose_if, List.set_cons_zero, List.set_cons_succ, Bool.not_true, Bool.not_false, if_true, if_false, Bool.false_eq_true, grd_nil, ec1, e1]
          have hdy : y.depth ≤ PyData.depthAll ds := oy.h
          obtain ⟨i, rfl⟩ : ∃ i, j = i + 1 := ⟨j - 1, by omega⟩
          rw [hR i rfl]
          have hmore : Oq 100000 40 y := oy.more (Nat.le_refl _) (by have := ho.h; omega)
          refine ⟨rfl, ⟨hmore, by omega⟩, by omega, fun y' m hy' hm' => ?_⟩
          refine ⟨sz 1, ?_⟩
          refine ⟨?_, ?_⟩
          · rw [List.length_singleton]
            omega
          simp only [sSeq, sIf, sNext, sAsg, sPar, sPar3, gN, bnd_ret, ret_app, bnd_grd, grd_app, sl_zero, sl_succ, slX_zero, slX_own, slX_succ, slO_zero, slO_own, slO_succ, slH_zero, slH_succ, frz_zero, frz_succ, own_zero, own_succ, onStr_str, asB_bool, asI_int, both_if, either_if, bothD_if, eitherD_if, choose_if, List.set_cons_zero, List.set_cons_succ, Bool.not_true, Bool.not_false, if_true, if_false, Bool.false_eq_true, grd_nil, plus_int, ec2]
          refine ⟨?_, ?_⟩
          · rw [List.length_append, List.length_singleton]
            omega
          refine hq _ m ?_ (by omega)
          have oy' : Oqs (2 * y.weight + 301) (PyData.depthAll ds + 3) [y'] := (Oqs.cons (hy'.more (Nat.le_refl _) (by omega)) (Oqs.nil (w := 0))).more (by omega) (Nat.le_refl _)
          exact (Oq.tup (Oqs.app (Oqs.app (oA.more (Nat.le_refl _) (by omega)) oy') (oB.more (Nat.le_refl _) (by omega)))).more (by omega) (by omega)
    | _ => exact hodd n (by omega)
theorem spoilt_all (F : Fc K mg) (K__law_dealt : Kn P w K mg base k "_law_dealt" s_26 ["_law_hand", "_law_lots"] mDealt) (K__law_odd : Kn P w K mg base k "_law_odd" s_40 ["_law_hand", "_law_part"] mOdd) (D : Df K mg "_law_spoilt" s_41 ["_law_hand", "_law_it"] f fd) : ∀ j, Kn P w K mg base (k + j + 1) "_law_spoilt" s_41 ["_law_hand", "_law_it"] (mSpoilt j)
  | 0 => ok_spoilt (fun i h => by omega) F K__law_dealt K__law_odd (Kn.never D) D
  | j + 1 => ok_spoilt (mR := mSpoilt j) (fun i h => by cases h; rfl) F (K__law_dealt.more (by omega)) (K__law_odd.more (by omega)) (spoilt_all F K__law_dealt K__law_odd D j) D
def mRight : List Da → Mv Dt
  | [.d x] => grd (Oq 300000 50 x) (Dl.ret (.bool true))
  | _ => bad
theorem ok_right (F : Fc K mg) (K_is_worth : Kn P w K mg base k "is_worth" s_22 ["thing"] (mPure fun x => .bool (isWorth x))) (K_is_plain : Kn P w K mg base k "is_plain" s_23 ["thing"] (mPure fun x => .bool (isPlain x))) (K__law_deemed : Kn P w K mg base k "_law_deemed" s_39 ["_law_it"] mDeemed) (D : Df K mg "_law_right" s_42 ["_law_it"] f fd) : Kn P w K mg base (k + 1) "_law_right" s_42 ["_law_it"] mRight := by
  refine D.kn (FnD.of _ D.d sc_42 (fun cdv A outer s H E g hx room => have hu := hu64 room; have hu1 := hu65 room;
    (dss_cons (ds_set 1 sc_42.nd (de_callX (call_repr hx.guards hu) xc_repr rfl F.m_repr rfl (dxs_cons (dx_var 0) dxs_nil)))
 (dss_cons (ds_set 2 sc_42.nd (DN.dat (dn_lst (des_cons (de_k K_is_worth hx room (das_cons (DE.arg (de_var 0)) das_nil)) (des_cons (de_k K_is_plain hx room (das_cons (DE.arg (de_var 0)) das_nil)) (des_cons (de_kk [0] (ks := ["thing"]) K_is_worth hx room (dks_cons (DE.arg (de_var 0)) dks_nil) (fun _ _ _ _ _ _ us hl => match us, hl with | [_], _ => rfl)) (des_cons (de_kk [0] (ks := ["thing"]) K_is_plain hx room (dks_cons (DE.arg (de_var 0)) dks_nil) (fun _ _ _ _ _ _ us hl => match us, hl with | [_], _ => rfl)) des_nil)))))))
 (dss_one (ds_ret (de_and (de_cmpX (op_eqA hu) x2_eq (DE.now (de_callX (call_repr hx.guards hu) xc_repr rfl F.m_repr rfl (dxs_cons (dx_var 2) dxs_nil))) (DE.now (de_callX (call_repr hx.guards hu) xc_repr rfl F.m_repr rfl (dxs_cons (DE.now (de_times (DE.now (de_k K__law_deemed hx room (das_cons (DE.arg (de_var 0)) das_nil))) (DE.now de_int))) dxs_nil))) (nomark _)) (de_one (de_cmpX (op_eqA hu) x2_eq (DE.now (de_callX (call_repr hx.guards hu) xc_repr rfl F.m_repr rfl (dxs_cons (dx_var 0) dxs_nil))) (dx_var 1) (nomark _))))))))) ?_)
  intro as n Qd W hl h
  match as, hl, h with
  | [.d x], _, ⟨ho, hq⟩ =>
    have hg : goodD x = true := ho.good (Nat.le_refl _) (Nat.le_refl _)
    have hz : fitW x := ho.w
    have c1 := mPure_is (f := fun x => .bool (isWorth x)) (["thing"] : List Str).length rfl hz
    have c2 := mPure_is (f := fun x => .bool (isPlain x)) (["thing"] : List Str).length rfl hz
    have c3 := mPureK_is (f := fun x => .bool (isWorth x)) (["thing"] : List Str).length rfl hz
    have c4 := mPureK_is (f := fun x => .bool (isPlain x)) (["thing"] : List Str).length rfl hz
    have c5 : many (["_law_it"] : List Str).length mDeemed [Da.d x] = Dl.ret (.list [.bool (isWorth x), .bool (isPlain x)]) := (many_app _ _ _ rfl).trans (grd_true ho _)
    have e : oTimes (.list [.bool (isWorth x), .bool (isPlain x)]) (.int 2) = Dl.ret (.list [.bool (isWorth x), .bool (isPlain x), .bool (isWorth x), .bool (isPlain x)]) := grd_true ⟨by omega, by omega, by show 2 ≤ 1000; omega⟩ _
    have g4 : ∀ a b : Bool, goodD (.list [.bool a, .bool b, .bool a, .bool b]) = true := fun a b => by cases a <;> cases b <;> decide +kernel
    rw [show slotsOf n_42 [Da.d x] = [Ds.d x, .no, .no] from rfl]
    simp only [sSeq, sIf, sNext, sAsg, sPar, sPar3, gN, bnd_ret, ret_app, bnd_grd, grd_app, sl_zero, sl_succ, slX_zero, slX_own, slX_succ, slO_zero, slO_own, slO_succ, slH_zero, slH_succ, frz_zero, frz_succ, own_zero, own_succ, onStr_str, asB_bool, asI_int, both_if, either_if, bothD_if, eitherD_if, choose_if, List.set_cons_zero, List.set_cons_succ, Bool.not_true, Bool.not_false, if_true, if_false, Bool.false_eq_true, grd_nil, c1, c2, c3, c4, c5, oRepr_good hg, e, oRepr_good (g4 _ _), oEq_str, beq_self_eq_true]
    exact ⟨sz 4, hq⟩
theorem disp_row : oDisp [(.str "row", .tuple [])] = Dl.ret (.dict [(.str "row", .tuple [])]) := grd_true ⟨by simp, by decide⟩ _
theorem mul_a (n : Int) (h : MulOk ("a" : Str) n) : oTimes (.str "a") (.int n) = Dl.ret (.str (Txt.mul "a" n)) := grd_true h _
theorem chain_is (x : Dt) (n : Int) (h0 : 0 ≤ n) (h1 : n ≤ 100) (c : Nat) (hc : c = 2) : many c mChain [Da.d x, Da.d (.int n)] = Dl.ret (chainD x n.toNat) := (many_app _ _ _ (by rw [hc]; rfl)).trans (grd_true ⟨h0, h1⟩ _)
def isB (d : Dt) : Prop := ∃ b, d = .bool b
theorem ok_law (F : Fc K mg) {fB : Addr} {fdB : FuncData} (DB : Df K mg "_law_begun" s_25 ["_law_script"] fB fdB) (B : FnG P w K mg base k fB fdB ["_law_script"] (spBegun K)) (K__law_dealt : Kn P w K mg base k "_law_dealt" s_26 ["_law_hand", "_law_lots"] mDealt) (K__law_pick : Kn P w K mg base k "_law_pick" s_27 ["_law_hand", "_law_some"] mPick) (K__law_drawn : Kn P w K mg base k "_law_drawn" s_31 ["_law_hand", "_law_deep"] (mDrawn 3)) (K__law_greatest : Kn P w K mg base k "_law_greatest" s_34 ["_law_hand"] mGreatest) (K__law_beyond : Kn P w K mg base k "_law_beyond" s_35 ["_law_hand"] mBeyond) (K__law_spoilt : Kn P w K mg base k "_law_spoilt" s_41 ["_law_hand", "_law_it"] (mSpoilt 40)) (K__law_alike_looks : Kn P w K mg base k "_law_alike_looks" s_30 [] mLooks) (K__law_chain : Kn P w K mg base k "_law_chain" s_32 ["_law_inner", "_law_lots"] mChain) (K__law_right : Kn P w K mg base k "_law_right" s_42 ["_law_it"] mRight) (D : Df K mg "law" s_43 ["_law_script"] f fd) : FnG P w K mg base (k + 1) f fd ["_law_script"] (spLaw K) := by
  refine law_of (N := n_43) D.d sc_43 rfl rfl rfl (by decide) B DB.g DB.d.kp (fun us h s _ => DB.b us h s) (.inl rfl) (by first | exact Or.inl rfl | exact Or.inr rfl) (fun cdv A outer s H E => rfl) (by decide) (by decide) (by decide) (fun cdv A outer s H E g hx room => have hu := hu64 room; have hu1 := hu65 room;
    (dss_cons (ds_frz1 2 (ds_ownLc 2 rfl sc_43.nd (own := [("_law_turn", 3)]) (blk_ok rfl) (DF.di (df_range1 rfl F.m_range de_int)) (fun _ _ _ _ _ => (dg_name 3 sc_43.nd)) (fun _ _ _ _ _ => difs_nil) (fun _ _ _ _ _ => (de_cmpX (op_eqA hu) x2_eq (DE.now (de_k K__law_dealt hx.blk room (das_cons (da_hand 1) (das_cons (DE.arg de_int) das_nil)))) (DE.now de_int) (nomark _)))))
 (dss_cons (ds_own 4 sc_43.nd (dn_plus (DE.now (de_plus (DE.now (DN.dat (dn_lc rfl sc_43.nd (own := [("_law_turn", 3)]) (blk_ok rfl) (DF.di (df_range1 rfl F.m_range de_int)) (fun _ _ _ _ _ => (dg_name 3 sc_43.nd)) (fun _ _ _ _ _ => difs_nil) (fun _ _ _ _ _ => (de_k K__law_drawn hx.blk room (das_cons (da_hand 1) (das_cons (DE.arg de_int) das_nil))))))) (DE.now (de_k K__law_greatest hx room (das_cons (da_hand 1) das_nil))))) (DE.now (de_k K__law_beyond hx room (das_cons (da_hand 1) das_nil)))))
 (dss_cons (ds_for hx (df_list (de_var 2)) (dg_name 5 sc_43.nd) (dss_cons (ds_set 6 sc_43.nd (de_k K__law_spoilt hx room (das_cons (da_hand 1) (das_cons (DE.arg (de_k K__law_pick hx room (das_cons (da_hand 1) (das_cons (DE.arg (de_cut (dx_var 4) do_none (do_some de_int))) das_nil)))) das_nil))))
 (dss_one (ds_append 4 (de_if (DE.tst (de_var 5)) (de_k K__law_spoilt hx room (das_cons (da_hand 1) (das_cons (DE.arg (de_var 6)) das_nil))) (de_var 6))))))
 (dss_cons (ds_own 4 sc_43.nd (dn_plus (DE.now (de_plus (dx_var 4) (DE.now (de_k0 K__law_alike_looks hx room)))) (DE.now (DN.dat (dn_lst (des_cons (DN.dat (dn_lst des_nil)) (des_cons de_disp0 (des_cons (de_tup des_nil) (des_cons (de_tup (des_cons de_str des_nil)) (des_cons (de_tup (des_cons de_str (des_cons (DN.dat (dn_lst (des_cons de_str des_nil))) des_nil))) (des_cons (DN.dat (dn_lst (des_cons de_str (des_cons (de_tup (des_cons de_str des_nil)) des_nil)))) (des_cons (de_disp (dps_cons de_str (de_tup des_nil) dps_nil)) (des_cons (de_tup (des_cons (de_tup des_nil) des_nil)) des_nil)))))))))))))
 (dss_cons (ds_own 4 sc_43.nd (dn_plus (dx_var 4) (DE.now (DN.dat (dn_lst (des_cons de_str (des_cons (de_times (DE.now de_str) (DE.now de_int)) (des_cons (de_times (DE.now de_str) (DE.now de_int)) (des_cons (de_tup (des_cons de_str (des_cons (de_pow de_int de_int) des_nil))) (des_cons (de_tup (des_cons de_bl des_nil)) (des_cons (de_tup (des_cons de_str (des_cons (de_tup des_nil) des_nil))) (des_cons (de_tup (des_cons de_str (des_cons (de_tup (des_cons (de_tup des_nil) des_nil)) des_nil))) des_nil))))))))))))
 (dss_cons (ds_own 4 sc_43.nd (dn_plus (dx_var 4) (DE.now (DN.dat (dn_lst (des_cons (de_k K__law_chain hx room (das_cons (DE.arg (de_tup (des_cons de_str (des_cons (de_tup des_nil) des_nil)))) (das_cons (DE.arg de_int) das_nil))) (des_cons (de_k K__law_chain hx room (das_cons (DE.arg (de_tup (des_cons de_str (des_cons (de_tup des_nil) des_nil)))) (das_cons (DE.arg de_int) das_nil))) des_nil)))))))
 (dss_one (ds_ret (de_cmpX (op_eqA hu) x2_eq (DE.now (DN.dat (dn_lc rfl sc_43.nd (own := [("_law_it", 6)]) (blk_ok rfl) (di_list (DE.now (de_plus (dx_var 4) (DE.now (de_revL (dx_var 4)))))) (fun _ _ _ _ _ => (dg_name 6 sc_43.nd)) (fun _ _ _ _ _ => (difs_one (dt_not (DE.tst (de_k K__law_right hx.blk room (das_cons (DE.arg (de_var 6)) das_nil)))))) (fun _ _ _ _ _ => (de_var 6))))) (DE.now (DN.dat (dn_lst des_nil))) (nomark _))))))))))) ?_
  unfold LawMean
  rw [show ([Ds.no, Ds.hand] ++ List.replicate (n_43.length - 2) Ds.no) = [Ds.no, Ds.hand, Ds.no, Ds.no, Ds.no, Ds.no, Ds.no] from rfl]
  simp only [sSeq, sIf, sNext, sAsg, sPar, sPar3, gN, bnd_ret, ret_app, bnd_grd, grd_app, sl_zero, sl_succ, slX_zero, slX_own, slX_succ, slO_zero, slO_own, slO_succ, slH_zero, slH_succ, frz_zero, frz_succ, own_zero, own_succ, onStr_str, asB_bool, asI_int, both_if, either_if, bothD_if, eitherD_if, choose_if, List.set_cons_zero, List.set_cons_succ, Bool.not_true, Bool.not_false, if_true, if_false, Bool.false_eq_true, grd_nil, sOwn, bnd_app]
  have hs : 300000 ≤ sizeLine := by decide
  refine lcD_draw (items := upTo 0 12) (P := isB) 1 ?_ ?_ ?_ ?_
  · exact grd_true (by decide) _
  · refine fun x hx => ⟨_, rfl, fun n Q W hq => ⟨rfl, by omega, by omega, hq.1, fun r a b => ?_⟩⟩
    show oEq _ _ _ _ _
    rw [oEq_int]
    exact hq.2 _ _ ⟨_, rfl⟩ (by omega)
  · rw [upTo_length]
    decide
  intro ways m1 hl1 hw hm1
  rw [upTo_length] at hl1 hm1
  refine lcD_draw (items := upTo 0 8) (P := Oq 42000 25) 490 ?_ ?_ ?_ ?_
  · exact grd_true (by decide) _
  · exact fun x hx => ⟨_, rfl, fun n Q W hq => ⟨rfl, ⟨by omega, rfl⟩, hq.1, fun y m hy hm => hq.2 y m (hy.more (by decide) (by omega)) hm⟩⟩
  · rw [upTo_length]
    omega
  intro ys m2 hl2 hy hm2
  rw [upTo_length] at hl2 hm2
  refine ⟨rfl, by omega, fun d m3 hd hm3 => ?_⟩
  obtain ⟨xs, rfl, hlx, hx⟩ := hd
  refine ⟨by omega, rfl, by omega, fun d m4 hd hm4 => ?_⟩
  obtain ⟨zs, rfl, hlz, hz⟩ := hd
  have hl12 : (ys ++ xs).length = 12 := by rw [List.length_append]; omega
  refine ⟨by omega, ?_⟩
  simp only [sSeq, sIf, sNext, sAsg, sPar, sPar3, gN, bnd_ret, ret_app, bnd_grd, grd_app, sl_zero, sl_succ, slX_zero, slX_own, slX_succ, slO_zero, slO_own, slO_succ, slH_zero, slH_succ, frz_zero, frz_succ, own_zero, own_succ, onStr_str, asB_bool, asI_int, both_if, either_if, bothD_if, eitherD_if, choose_if, List.set_cons_zero, List.set_cons_succ, Bool.not_true, Bool.not_false, if_true, if_false, Bool.false_eq_true, grd_nil, sFor, itL]
  generalize hb : (sSeq (sAsg _ _) (sAppend _ _) : Ms) = B
  have turn : ∀ (b : Bool) (L : List Dt) (s6 : Ds) (n : Nat) (k : Sk) (W : Wx), (∀ x ∈ L.take 12, Oq 42000 25 x) → 12 ≤ L.length → L.length ≤ 100 → 200 ≤ n → (∀ y m s, Oq 170000 31 y → n ≤ m + 200 → k.nx [.no, .hand, .d (.list ways), .no, .own (L ++ [y]), .d (.bool b), s] m) →
      B [.no, .hand, .d (.list ways), .no, .own L, .d (.bool b), s6] n k W := by
    intro b L s6 n k W h1 h2 h3 h4 h5
    have ec : oCut (.list L) none (some 12) = Dl.ret (.list (L.take 12)) := by
      show Dl.ret (PyData.list (Dl.cutD L none (some 12))) = _
      rw [cut_take (by omega) (by omega)]
      rfl
    have ht : (L.take 12).length = 12 := by rw [List.length_take]; omega
    rw [← hb]
    simp only [sSeq, sIf, sNext, sAsg, sPar, sPar3, gN, bnd_ret, ret_app, bnd_grd, grd_app, sl_zero, sl_succ, slX_zero, slX_own, slX_succ, slO_zero, slO_own, slO_succ, slH_zero, slH_succ, frz_zero, frz_succ, own_zero, own_succ, onStr_str, asB_bool, asI_int, both_if, either_if, bothD_if, eitherD_if, choose_if, List.set_cons_zero, List.set_cons_succ, Bool.not_true, Bool.not_false, if_true, if_false, Bool.false_eq_true, grd_nil, ec, bnd_app, sAppend]
    refine ⟨rfl, ⟨fun z => (by rw [z] at ht; cases ht), by rw [ht]; decide⟩, by omega, fun p m hp hm => ?_⟩
    have op := h1 p hp
    refine ⟨rfl, ⟨op.more (by omega) (by omega), by have := op.h; omega⟩, by omega, fun q m' hq hm' => ?_⟩
    have oq : Oq 84500 28 q := hq.more (by have := op.w; omega) (by have := op.h; omega)
    cases b with
    | true =>
      refine ⟨rfl, ⟨oq.more (by omega) (by omega), by have := oq.h; omega⟩, by omega, fun y m2 hy hm2 => ⟨by omega, h5 y m2 _ (hy.more (by have := oq.w; omega) (by have := oq.h; omega)) (by omega)⟩⟩
    | false => exact ⟨by omega, h5 q m' _ (oq.more (by omega) (by omega)) (by omega)⟩
  have key : ∀ (items L : List Dt) (s5 s6 : Ds) (n : Nat) (k : Sk) (W : Wx), (∀ x ∈ items, isB x) → (∀ x ∈ L.take 12, Oq 42000 25 x) → (∀ x ∈ L, Oq 170000 31 x) → 12 ≤ L.length → L.length + items.length ≤ 100 → 200 * items.length ≤ n →
      (∀ L' s5 s6 m, L'.length = L.length + items.length → (∀ x ∈ L', Oq 170000 31 x) → n ≤ m + 200 * items.length → k.nx [.no, .hand, .d (.list ways), .no, .own L', s5, s6] m) →
      Dl.forM (gN 5) B items [.no, .hand, .d (.list ways), .no, .own L, s5, s6] n k W := by
    intro items
    induction items with
    | nil => exact fun L s5 s6 n k W _ _ h3 _ _ _ h7 => h7 L s5 s6 n rfl h3 (by omega)
    | cons x r ih =>
      intro L s5 s6 n k W h1 h2 h3 h4 h5 h6 h7
      obtain ⟨b, rfl⟩ := h1 x List.mem_cons_self
      rw [List.length_cons] at h5 h6
      refine turn b L s6 n _ W h2 h4 (by omega) (by omega) fun y m s hy hm => ?_
      refine ih (L ++ [y]) _ _ m k W (fun x hx => h1 x (List.mem_cons_of_mem _ hx)) ?_ ?_ ?_ ?_ (by omega) ?_
      · rw [List.take_append_of_le_length h4]
        exact h2
      · intro x hx
        rcases List.mem_append.mp hx with hx | hx
        · exact h3 x hx
        · rw [List.mem_singleton.mp hx]; exact hy
      · rw [List.length_append]; omega
      · rw [List.length_append, List.length_singleton]; omega
      · intro L' s5 s6 m' hl ho hm'
        rw [List.length_append, List.length_singleton] at hl
        exact h7 L' s5 s6 m' (by rw [List.length_cons]; omega) ho (by rw [List.length_cons]; omega)
  refine key ways (ys ++ xs ++ zs) _ _ m4 _ _ hw ?_ ?_ (by rw [List.length_append]; omega) (by rw [List.length_append]; omega) (by omega) ?_
  · intro x hx'
    rw [List.take_append_of_le_length (by omega), List.take_of_length_le (by omega)] at hx'
    rcases List.mem_append.mp hx' with h | h
    · exact hy x h
    · exact hx x h
  · intro x hx'
    rcases List.mem_append.mp hx' with h | h
    · rcases List.mem_append.mp h with h | h
      · exact (hy x h).more (by omega) (by omega)
      · exact (hx x h).more (by omega) (by omega)
    · exact (hz x h).more (by omega) (by omega)
  intro L s5 s6 m5 hl5 ho hm5
  rw [List.length_append, hl12, hlz, hl1] at hl5
  have hl5 : L.length = 29 := hl5
  have hlk : looksD.length = 6 := rfl
  simp only [sSeq, sIf, sNext, sAsg, sPar, sPar3, gN, bnd_ret, ret_app, bnd_grd, grd_app, sl_zero, sl_succ, slX_zero, slX_own, slX_succ, slO_zero, slO_own, slO_succ, slH_zero, slH_succ, frz_zero, frz_succ, own_zero, own_succ, onStr_str, asB_bool, asI_int, both_if, either_if, bothD_if, eitherD_if, choose_if, List.set_cons_zero, List.set_cons_succ, Bool.not_true, Bool.not_false, if_true, if_false, Bool.false_eq_true, grd_nil, mLooks, plus_list, cat_list, disp_row, e15, mul_a 20 ⟨by decide, by decide⟩, mul_a 21 ⟨by decide, by decide⟩, chain_is _ 7 (by omega) (by omega) 2 rfl, chain_is _ 8 (by omega) (by omega) 2 rfl]
  repeat (first | refine ⟨szn rfl, ?_⟩ | refine ⟨by (simp only [List.length_append, List.length_cons, List.length_nil, hl5, hlk]; omega), ?_⟩ | refine ⟨rfl, ⟨by omega, by omega⟩, ?_⟩)
  generalize hM : (L ++ looksD ++ _ ++ _ ++ _ : List Dt) = M
  have hlen : M.length = 52 := by
    rw [← hM]
    simp only [List.length_append, List.length_cons, List.length_nil, hl5, hlk]
  have hall : ∀ x ∈ M, Oq 300000 50 x := by
    intro x hx'
    rw [← hM] at hx'
    rcases List.mem_append.mp hx' with h | h
    · rcases List.mem_append.mp h with h | h
      · rcases List.mem_append.mp h with h | h
        · rcases List.mem_append.mp h with h | h
          · exact (ho x h).more (by omega) (by omega)
          · exact (looks_oq x h).more (by omega) (by omega)
        · exact oqs_of (by decide +kernel) x h
      · exact oqs_of (by decide +kernel) x h
    · exact oqs_of (by decide +kernel) x h
  rw [lcD_filter (items := M ++ M.reverse) (fun _ => false)]
  · rw [List.filter_eq_nil_iff.mpr (fun _ _ => Bool.false_ne_true)]
    exact ⟨.inl (.inl rfl), rfl⟩
  · simp only [sSeq, sIf, sNext, sAsg, sPar, sPar3, gN, bnd_ret, ret_app, bnd_grd, grd_app, sl_zero, sl_succ, slX_zero, slX_own, slX_succ, slO_zero, slO_own, slO_succ, slH_zero, slH_succ, frz_zero, frz_succ, own_zero, own_succ, onStr_str, asB_bool, asI_int, both_if, either_if, bothD_if, eitherD_if, choose_if, List.set_cons_zero, List.set_cons_succ, Bool.not_true, Bool.not_false, if_true, if_false, Bool.false_eq_true, grd_nil]
    show bnd (grd (M.length + M.reverse.length ≤ sizeLine) (Dl.ret (.list (M ++ M.reverse)))) itL = _
    rw [grd_true (by rw [List.length_reverse, hlen]; decide)]
    rfl
  · intro x hx'
    have hx' : Oq 300000 50 x := hall x (by simpa using hx')
    have c1 : many (["_law_it"] : List Str).length mRight [Da.d x] = Dl.ret (.bool true) := (many_app _ _ _ rfl).trans (grd_true hx' _)
    refine ⟨_, rfl, ?_, rfl⟩
    simp only [sSeq, sIf, sNext, sAsg, sPar, sPar3, gN, bnd_ret, ret_app, bnd_grd, grd_app, sl_zero, sl_succ, slX_zero, slX_own, slX_succ, slO_zero, slO_own, slO_succ, slH_zero, slH_succ, frz_zero, frz_succ, own_zero, own_succ, onStr_str, asB_bool, asI_int, both_if, either_if, bothD_if, eitherD_if, choose_if, List.set_cons_zero, List.set_cons_succ, Bool.not_true, Bool.not_false, if_true, if_false, Bool.false_eq_true, grd_nil, wipeD_cons, wipeD_nil, List.map, c1]
end
end Ev
namespace Ev
open PySem PySem.Spec L2 Dl
open PyProof.Rows hiding St
/-! ### the head: facts by names, the run -/
def d_15 : He.DefD := ⟨("is_whole", none), "is_whole", "is_whole", defArgs s_15, defBody s_15, defScope s_15, [], []⟩
def d_16 : He.DefD := ⟨("is_name", none), "is_name", "is_name", defArgs s_16, defBody s_16, defScope s_16, [], []⟩
def d_17 : He.DefD := ⟨("is_text", none), "is_text", "is_text", defArgs s_17, defBody s_17, defScope s_17, [], []⟩
def d_18 : He.DefD := ⟨("is_row", none), "is_row", "is_row", defArgs s_18, defBody s_18, defScope s_18, [], []⟩
def d_19 : He.DefD := ⟨("is_named", none), "is_named", "is_named", defArgs s_19, defBody s_19, defScope s_19, [], []⟩
def d_20 : He.DefD := ⟨("is_bare", none), "is_bare", "is_bare", defArgs s_20, defBody s_20, defScope s_20, [], []⟩
def d_21 : He.DefD := ⟨("leaves", none), "leaves", "leaves", defArgs s_21, defBody s_21, defScope s_21, [], []⟩
def d_22 : He.DefD := ⟨("is_worth", none), "is_worth", "is_worth", defArgs s_22, defBody s_22, defScope s_22, [], []⟩
def d_23 : He.DefD := ⟨("is_plain", none), "is_plain", "is_plain", defArgs s_23, defBody s_23, defScope s_23, [], []⟩
def d_25 : He.DefD := ⟨("_law_begun", none), "_law_begun", "_law_begun", defArgs s_25, defBody s_25, defScope s_25, [], []⟩
def d_26 : He.DefD := ⟨("_law_dealt", none), "_law_dealt", "_law_dealt", defArgs s_26, defBody s_26, defScope s_26, [], []⟩
def d_27 : He.DefD := ⟨("_law_pick", none), "_law_pick", "_law_pick", defArgs s_27, defBody s_27, defScope s_27, [], []⟩
def d_28 : He.DefD := ⟨("_law_label", none), "_law_label", "_law_label", defArgs s_28, defBody s_28, defScope s_28, [], []⟩
def d_29 : He.DefD := ⟨("_law_leaf", none), "_law_leaf", "_law_leaf", defArgs s_29, defBody s_29, defScope s_29, [], []⟩
def d_30 : He.DefD := ⟨("_law_alike_looks", none), "_law_alike_looks", "_law_alike_looks", defArgs s_30, defBody s_30, defScope s_30, [], []⟩
def d_31 : He.DefD := ⟨("_law_drawn", none), "_law_drawn", "_law_drawn", defArgs s_31, defBody s_31, defScope s_31, [], []⟩
def d_32 : He.DefD := ⟨("_law_chain", none), "_law_chain", "_law_chain", defArgs s_32, defBody s_32, defScope s_32, [], []⟩
def d_33 : He.DefD := ⟨("_law_wide", none), "_law_wide", "_law_wide", defArgs s_33, defBody s_33, defScope s_33, [], []⟩
def d_34 : He.DefD := ⟨("_law_greatest", none), "_law_greatest", "_law_greatest", defArgs s_34, defBody s_34, defScope s_34, [], []⟩
def d_35 : He.DefD := ⟨("_law_beyond", none), "_law_beyond", "_law_beyond", defArgs s_35, defBody s_35, defScope s_35, [], []⟩
def d_36 : He.DefD := ⟨("_law_is_label", none), "_law_is_label", "_law_is_label", defArgs s_36, defBody s_36, defScope s_36, [], []⟩
def d_37 : He.DefD := ⟨("_law_leaf_looked", none), "_law_leaf_looked", "_law_leaf_looked", defArgs s_37, defBody s_37, defScope s_37, [], []⟩
def d_38 : He.DefD := ⟨("_law_looked", none), "_law_looked", "_law_looked", defArgs s_38, defBody s_38, defScope s_38, [], []⟩
def d_39 : He.DefD := ⟨("_law_deemed", none), "_law_deemed", "_law_deemed", defArgs s_39, defBody s_39, defScope s_39, [], []⟩
def d_40 : He.DefD := ⟨("_law_odd", none), "_law_odd", "_law_odd", defArgs s_40, defBody s_40, defScope s_40, [], []⟩
def d_41 : He.DefD := ⟨("_law_spoilt", none), "_law_spoilt", "_law_spoilt", defArgs s_41, defBody s_41, defScope s_41, [], []⟩
def d_42 : He.DefD := ⟨("_law_right", none), "_law_right", "_law_right", defArgs s_42, defBody s_42, defScope s_42, [], []⟩
def d_43 : He.DefD := ⟨("law", none), "law", "law", defArgs s_43, defBody s_43, defScope s_43, [], []⟩
def fn : List He.DefD := [d_15, d_16, d_17, d_18, d_19, d_20, d_21, d_22, d_23, d_25, d_26, d_27, d_28, d_29, d_30, d_31, d_32, d_33, d_34, d_35, d_36, d_37, d_38, d_39, d_40, d_41, d_42, d_43]
def fa : List He.Fa := [.glo "is_whole", .glo "is_name", .glo "is_text", .glo "is_row", .glo "is_named", .glo "is_bare", .glo "leaves", .glo "is_worth", .glo "is_plain", .glo "_law_begun", .glo "_law_dealt", .glo "_law_pick", .glo "_law_label", .glo "_law_leaf", .glo "_law_alike_looks", .glo "_law_drawn", .glo "_law_chain", .glo "_law_wide", .glo "_law_greatest", .glo "_law_beyond", .glo "_law_is_label", .glo "_law_leaf_looked", .glo "_law_looked", .glo "_law_deemed", .glo "_law_odd", .glo "_law_spoilt", .glo "_law_right", .glo "law", .free "abs", .free "all", .free "isinstance", .free "len", .free "list", .free "max", .free "ord", .free "range", .free "repr", .free "str", .free "sum", .free "tuple", .free "bool", .free "int", .str "LETTERS" "abcdefghijklmnopqrstuvwxyz", .int "LONGEST_NAME" 8, .int "GREATEST" 1000000000000000, .int "LONGEST_TEXT" 20, .int "FIRST_SIGN" 32, .int "LAST_SIGN" 126, .glo "NO_SIGNS", .str "ROW" "row", .str "THING" "thing", .str "DEED" "deed", .str "KIND" "kind", .int "WIDEST" 40, .int "MOST_IN_ALL" 200, .int "DEEPEST" 8]
def ex (K : PySem.W.Frag) : Bool := He.tupB K "NO_SIGNS" [.int 37, .int 39]
def loose : List PySem.Str := [("LETTERS" : PySem.Str), ("LONGEST_NAME" : PySem.Str), ("GREATEST" : PySem.Str), ("LONGEST_TEXT" : PySem.Str), ("FIRST_SIGN" : PySem.Str), ("LAST_SIGN" : PySem.Str), ("NO_SIGNS" : PySem.Str), ("ROW" : PySem.Str), ("THING" : PySem.Str), ("DEED" : PySem.Str), ("KIND" : PySem.Str), ("WIDEST" : PySem.Str), ("MOST_IN_ALL" : PySem.Str), ("DEEPEST" : PySem.Str), ("is_whole" : PySem.Str), ("is_name" : PySem.Str), ("is_text" : PySem.Str), ("is_row" : PySem.Str), ("is_named" : PySem.Str), ("is_bare" : PySem.Str), ("leaves" : PySem.Str), ("is_worth" : PySem.Str), ("is_plain" : PySem.Str), ("_law_begun" : PySem.Str), ("_law_dealt" : PySem.Str), ("_law_pick" : PySem.Str), ("_law_label" : PySem.Str), ("_law_leaf" : PySem.Str), ("_law_alike_looks" : PySem.Str), ("_law_drawn" : PySem.Str), ("_law_chain" : PySem.Str), ("_law_wide" : PySem.Str), ("_law_greatest" : PySem.Str), ("_law_beyond" : PySem.Str), ("_law_is_label" : PySem.Str), ("_law_leaf_looked" : PySem.Str), ("_law_looked" : PySem.Str), ("_law_deemed" : PySem.Str), ("_law_odd" : PySem.Str), ("_law_spoilt" : PySem.Str), ("_law_right" : PySem.Str)]
abbrev R : PySem.W.OpenRow := PySem.W.OpenLaw.row PySem.Challenge.rw_everso_k02_worths_of_anything
abbrev hk : PySem.W.Hook := hookY 4 fa fn ex
def ob (s : PySem.W.SharedT) : He.AlD × Bool := obsY 4 fa fn ex (HandSHeadRun.getT s)
theorem ob_eq (s : PySem.W.SharedT) : ob s = hk.obs s.abs := obsY_eq (HandSHeadRun.getT_eq s)
theorem run (w : World) : HandSHeadRun.RunEq R (PySem.W.view R.prog [43]) hk ob 3000 loose w := by
  intro os
  kernel_rfl
abbrev Says (K : PySem.W.Frag) : Prop := He.SaysD fa fn K ∧ ex K = true
theorem facts_of {K : PySem.W.Frag} {h : Heap} {mg : Str → Option Value} (X : K.In h) (G : h.Ns mainGlobals mg) (c : Says K) : Fc K mg := by
  have e : ex K = true := c.2
  unfold ex at e
  exact ⟨He.free_ok X G (c.1.fact 28 (f := .free "abs") rfl),
    He.free_ok X G (c.1.fact 29 (f := .free "all") rfl),
    He.free_ok X G (c.1.fact 30 (f := .free "isinstance") rfl),
    He.free_ok X G (c.1.fact 31 (f := .free "len") rfl),
    He.free_ok X G (c.1.fact 32 (f := .free "list") rfl),
    He.free_ok X G (c.1.fact 33 (f := .free "max") rfl),
    He.free_ok X G (c.1.fact 34 (f := .free "ord") rfl),
    He.free_ok X G (c.1.fact 35 (f := .free "range") rfl),
    He.free_ok X G (c.1.fact 36 (f := .free "repr") rfl),
    He.free_ok X G (c.1.fact 37 (f := .free "str") rfl),
    He.free_ok X G (c.1.fact 38 (f := .free "sum") rfl),
    He.free_ok X G (c.1.fact 39 (f := .free "tuple") rfl),
    He.free_ok X G (c.1.fact 40 (f := .free "bool") rfl),
    He.free_ok X G (c.1.fact 41 (f := .free "int") rfl),
    He.str_ok X G (c.1.fact 42 (f := .str "LETTERS" "abcdefghijklmnopqrstuvwxyz") rfl),
    He.int_ok X G (c.1.fact 43 (f := .int "LONGEST_NAME" 8) rfl),
    He.int_ok X G (c.1.fact 44 (f := .int "GREATEST" 1000000000000000) rfl),
    He.int_ok X G (c.1.fact 45 (f := .int "LONGEST_TEXT" 20) rfl),
    He.int_ok X G (c.1.fact 46 (f := .int "FIRST_SIGN" 32) rfl),
    He.int_ok X G (c.1.fact 47 (f := .int "LAST_SIGN" 126) rfl),
    ⟨_, He.glo_ok X G (c.1.fact 48 (f := .glo "NO_SIGNS") rfl), rfl⟩,
    fun F => .tup (He.tupB_ok e F) (.cons (.int _) (.cons (.int _) .nil)),
    He.str_ok X G (c.1.fact 49 (f := .str "ROW" "row") rfl),
    He.str_ok X G (c.1.fact 50 (f := .str "THING" "thing") rfl),
    He.str_ok X G (c.1.fact 51 (f := .str "DEED" "deed") rfl),
    He.str_ok X G (c.1.fact 52 (f := .str "KIND" "kind") rfl),
    He.int_ok X G (c.1.fact 53 (f := .int "WIDEST" 40) rfl),
    He.int_ok X G (c.1.fact 54 (f := .int "MOST_IN_ALL" 200) rfl),
    He.int_ok X G (c.1.fact 55 (f := .int "DEEPEST" 8) rfl)⟩
theorem df_15 {K : PySem.W.Frag} {h : Heap} {mg : Str → Option Value} (X : K.In h) (G : h.Ns mainGlobals mg) (c : Says K) : ∃ fd, Df K mg "is_whole" s_15 ["thing"] (He.ga K "is_whole") fd := by
  obtain ⟨fd, F⟩ := c.1.def_ 0 (d := d_15) rfl
  exact ⟨fd, F, He.glo_ok X G (c.1.fact 0 (f := .glo "is_whole") rfl), fun us hl s => FunD.bindsA F (ps := ["thing"]) (fun _ _ _ _ _ _ us hl => match us, hl with | [_], _ => rfl) s us hl⟩
theorem df_16 {K : PySem.W.Frag} {h : Heap} {mg : Str → Option Value} (X : K.In h) (G : h.Ns mainGlobals mg) (c : Says K) : ∃ fd, Df K mg "is_name" s_16 ["thing"] (He.ga K "is_name") fd := by
  obtain ⟨fd, F⟩ := c.1.def_ 1 (d := d_16) rfl
  exact ⟨fd, F, He.glo_ok X G (c.1.fact 1 (f := .glo "is_name") rfl), fun us hl s => FunD.bindsA F (ps := ["thing"]) (fun _ _ _ _ _ _ us hl => match us, hl with | [_], _ => rfl) s us hl⟩
theorem df_17 {K : PySem.W.Frag} {h : Heap} {mg : Str → Option Value} (X : K.In h) (G : h.Ns mainGlobals mg) (c : Says K) : ∃ fd, Df K mg "is_text" s_17 ["thing"] (He.ga K "is_text") fd := by
  obtain ⟨fd, F⟩ := c.1.def_ 2 (d := d_17) rfl
  exact ⟨fd, F, He.glo_ok X G (c.1.fact 2 (f := .glo "is_text") rfl), fun us hl s => FunD.bindsA F (ps := ["thing"]) (fun _ _ _ _ _ _ us hl => match us, hl with | [_], _ => rfl) s us hl⟩
theorem df_18 {K : PySem.W.Frag} {h : Heap} {mg : Str → Option Value} (X : K.In h) (G : h.Ns mainGlobals mg) (c : Says K) : ∃ fd, Df K mg "is_row" s_18 ["thing"] (He.ga K "is_row") fd := by
  obtain ⟨fd, F⟩ := c.1.def_ 3 (d := d_18) rfl
  exact ⟨fd, F, He.glo_ok X G (c.1.fact 3 (f := .glo "is_row") rfl), fun us hl s => FunD.bindsA F (ps := ["thing"]) (fun _ _ _ _ _ _ us hl => match us, hl with | [_], _ => rfl) s us hl⟩
theorem df_19 {K : PySem.W.Frag} {h : Heap} {mg : Str → Option Value} (X : K.In h) (G : h.Ns mainGlobals mg) (c : Says K) : ∃ fd, Df K mg "is_named" s_19 ["thing"] (He.ga K "is_named") fd := by
  obtain ⟨fd, F⟩ := c.1.def_ 4 (d := d_19) rfl
  exact ⟨fd, F, He.glo_ok X G (c.1.fact 4 (f := .glo "is_named") rfl), fun us hl s => FunD.bindsA F (ps := ["thing"]) (fun _ _ _ _ _ _ us hl => match us, hl with | [_], _ => rfl) s us hl⟩
theorem df_20 {K : PySem.W.Frag} {h : Heap} {mg : Str → Option Value} (X : K.In h) (G : h.Ns mainGlobals mg) (c : Says K) : ∃ fd, Df K mg "is_bare" s_20 ["thing"] (He.ga K "is_bare") fd := by
  obtain ⟨fd, F⟩ := c.1.def_ 5 (d := d_20) rfl
  exact ⟨fd, F, He.glo_ok X G (c.1.fact 5 (f := .glo "is_bare") rfl), fun us hl s => FunD.bindsA F (ps := ["thing"]) (fun _ _ _ _ _ _ us hl => match us, hl with | [_], _ => rfl) s us hl⟩
theorem df_21 {K : PySem.W.Frag} {h : Heap} {mg : Str → Option Value} (X : K.In h) (G : h.Ns mainGlobals mg) (c : Says K) : ∃ fd, Df K mg "leaves" s_21 ["thing"] (He.ga K "leaves") fd := by
  obtain ⟨fd, F⟩ := c.1.def_ 6 (d := d_21) rfl
  exact ⟨fd, F, He.glo_ok X G (c.1.fact 6 (f := .glo "leaves") rfl), fun us hl s => FunD.bindsA F (ps := ["thing"]) (fun _ _ _ _ _ _ us hl => match us, hl with | [_], _ => rfl) s us hl⟩
theorem df_22 {K : PySem.W.Frag} {h : Heap} {mg : Str → Option Value} (X : K.In h) (G : h.Ns mainGlobals mg) (c : Says K) : ∃ fd, Df K mg "is_worth" s_22 ["thing"] (He.ga K "is_worth") fd := by
  obtain ⟨fd, F⟩ := c.1.def_ 7 (d := d_22) rfl
  exact ⟨fd, F, He.glo_ok X G (c.1.fact 7 (f := .glo "is_worth") rfl), fun us hl s => FunD.bindsA F (ps := ["thing"]) (fun _ _ _ _ _ _ us hl => match us, hl with | [_], _ => rfl) s us hl⟩
theorem df_23 {K : PySem.W.Frag} {h : Heap} {mg : Str → Option Value} (X : K.In h) (G : h.Ns mainGlobals mg) (c : Says K) : ∃ fd, Df K mg "is_plain" s_23 ["thing"] (He.ga K "is_plain") fd := by
  obtain ⟨fd, F⟩ := c.1.def_ 8 (d := d_23) rfl
  exact ⟨fd, F, He.glo_ok X G (c.1.fact 8 (f := .glo "is_plain") rfl), fun us hl s => FunD.bindsA F (ps := ["thing"]) (fun _ _ _ _ _ _ us hl => match us, hl with | [_], _ => rfl) s us hl⟩
theorem df_25 {K : PySem.W.Frag} {h : Heap} {mg : Str → Option Value} (X : K.In h) (G : h.Ns mainGlobals mg) (c : Says K) : ∃ fd, Df K mg "_law_begun" s_25 ["_law_script"] (He.ga K "_law_begun") fd := by
  obtain ⟨fd, F⟩ := c.1.def_ 9 (d := d_25) rfl
  exact ⟨fd, F, He.glo_ok X G (c.1.fact 9 (f := .glo "_law_begun") rfl), fun us hl s => FunD.bindsA F (ps := ["_law_script"]) (fun _ _ _ _ _ _ us hl => match us, hl with | [_], _ => rfl) s us hl⟩
theorem df_26 {K : PySem.W.Frag} {h : Heap} {mg : Str → Option Value} (X : K.In h) (G : h.Ns mainGlobals mg) (c : Says K) : ∃ fd, Df K mg "_law_dealt" s_26 ["_law_hand", "_law_lots"] (He.ga K "_law_dealt") fd := by
  obtain ⟨fd, F⟩ := c.1.def_ 10 (d := d_26) rfl
  exact ⟨fd, F, He.glo_ok X G (c.1.fact 10 (f := .glo "_law_dealt") rfl), fun us hl s => FunD.bindsA F (ps := ["_law_hand", "_law_lots"]) (fun _ _ _ _ _ _ us hl => match us, hl with | [_, _], _ => rfl) s us hl⟩
theorem df_27 {K : PySem.W.Frag} {h : Heap} {mg : Str → Option Value} (X : K.In h) (G : h.Ns mainGlobals mg) (c : Says K) : ∃ fd, Df K mg "_law_pick" s_27 ["_law_hand", "_law_some"] (He.ga K "_law_pick") fd := by
  obtain ⟨fd, F⟩ := c.1.def_ 11 (d := d_27) rfl
  exact ⟨fd, F, He.glo_ok X G (c.1.fact 11 (f := .glo "_law_pick") rfl), fun us hl s => FunD.bindsA F (ps := ["_law_hand", "_law_some"]) (fun _ _ _ _ _ _ us hl => match us, hl with | [_, _], _ => rfl) s us hl⟩
theorem df_28 {K : PySem.W.Frag} {h : Heap} {mg : Str → Option Value} (X : K.In h) (G : h.Ns mainGlobals mg) (c : Says K) : ∃ fd, Df K mg "_law_label" s_28 ["_law_hand"] (He.ga K "_law_label") fd := by
  obtain ⟨fd, F⟩ := c.1.def_ 12 (d := d_28) rfl
  exact ⟨fd, F, He.glo_ok X G (c.1.fact 12 (f := .glo "_law_label") rfl), fun us hl s => FunD.bindsA F (ps := ["_law_hand"]) (fun _ _ _ _ _ _ us hl => match us, hl with | [_], _ => rfl) s us hl⟩
theorem df_29 {K : PySem.W.Frag} {h : Heap} {mg : Str → Option Value} (X : K.In h) (G : h.Ns mainGlobals mg) (c : Says K) : ∃ fd, Df K mg "_law_leaf" s_29 ["_law_hand"] (He.ga K "_law_leaf") fd := by
  obtain ⟨fd, F⟩ := c.1.def_ 13 (d := d_29) rfl
  exact ⟨fd, F, He.glo_ok X G (c.1.fact 13 (f := .glo "_law_leaf") rfl), fun us hl s => FunD.bindsA F (ps := ["_law_hand"]) (fun _ _ _ _ _ _ us hl => match us, hl with | [_], _ => rfl) s us hl⟩
theorem df_30 {K : PySem.W.Frag} {h : Heap} {mg : Str → Option Value} (X : K.In h) (G : h.Ns mainGlobals mg) (c : Says K) : ∃ fd, Df K mg "_law_alike_looks" s_30 [] (He.ga K "_law_alike_looks") fd := by
  obtain ⟨fd, F⟩ := c.1.def_ 14 (d := d_30) rfl
  exact ⟨fd, F, He.glo_ok X G (c.1.fact 14 (f := .glo "_law_alike_looks") rfl), fun us hl s => FunD.bindsA F (ps := []) (fun _ _ _ _ _ _ us hl => match us, hl with | [], _ => rfl) s us hl⟩
theorem df_31 {K : PySem.W.Frag} {h : Heap} {mg : Str → Option Value} (X : K.In h) (G : h.Ns mainGlobals mg) (c : Says K) : ∃ fd, Df K mg "_law_drawn" s_31 ["_law_hand", "_law_deep"] (He.ga K "_law_drawn") fd := by
  obtain ⟨fd, F⟩ := c.1.def_ 15 (d := d_31) rfl
  exact ⟨fd, F, He.glo_ok X G (c.1.fact 15 (f := .glo "_law_drawn") rfl), fun us hl s => FunD.bindsA F (ps := ["_law_hand", "_law_deep"]) (fun _ _ _ _ _ _ us hl => match us, hl with | [_, _], _ => rfl) s us hl⟩
theorem df_32 {K : PySem.W.Frag} {h : Heap} {mg : Str → Option Value} (X : K.In h) (G : h.Ns mainGlobals mg) (c : Says K) : ∃ fd, Df K mg "_law_chain" s_32 ["_law_inner", "_law_lots"] (He.ga K "_law_chain") fd := by
  obtain ⟨fd, F⟩ := c.1.def_ 16 (d := d_32) rfl
  exact ⟨fd, F, He.glo_ok X G (c.1.fact 16 (f := .glo "_law_chain") rfl), fun us hl s => FunD.bindsA F (ps := ["_law_inner", "_law_lots"]) (fun _ _ _ _ _ _ us hl => match us, hl with | [_, _], _ => rfl) s us hl⟩
theorem df_33 {K : PySem.W.Frag} {h : Heap} {mg : Str → Option Value} (X : K.In h) (G : h.Ns mainGlobals mg) (c : Says K) : ∃ fd, Df K mg "_law_wide" s_33 ["_law_inner", "_law_lots"] (He.ga K "_law_wide") fd := by
  obtain ⟨fd, F⟩ := c.1.def_ 17 (d := d_33) rfl
  exact ⟨fd, F, He.glo_ok X G (c.1.fact 17 (f := .glo "_law_wide") rfl), fun us hl s => FunD.bindsA F (ps := ["_law_inner", "_law_lots"]) (fun _ _ _ _ _ _ us hl => match us, hl with | [_, _], _ => rfl) s us hl⟩
theorem df_34 {K : PySem.W.Frag} {h : Heap} {mg : Str → Option Value} (X : K.In h) (G : h.Ns mainGlobals mg) (c : Says K) : ∃ fd, Df K mg "_law_greatest" s_34 ["_law_hand"] (He.ga K "_law_greatest") fd := by
  obtain ⟨fd, F⟩ := c.1.def_ 18 (d := d_34) rfl
  exact ⟨fd, F, He.glo_ok X G (c.1.fact 18 (f := .glo "_law_greatest") rfl), fun us hl s => FunD.bindsA F (ps := ["_law_hand"]) (fun _ _ _ _ _ _ us hl => match us, hl with | [_], _ => rfl) s us hl⟩
theorem df_35 {K : PySem.W.Frag} {h : Heap} {mg : Str → Option Value} (X : K.In h) (G : h.Ns mainGlobals mg) (c : Says K) : ∃ fd, Df K mg "_law_beyond" s_35 ["_law_hand"] (He.ga K "_law_beyond") fd := by
  obtain ⟨fd, F⟩ := c.1.def_ 19 (d := d_35) rfl
  exact ⟨fd, F, He.glo_ok X G (c.1.fact 19 (f := .glo "_law_beyond") rfl), fun us hl s => FunD.bindsA F (ps := ["_law_hand"]) (fun _ _ _ _ _ _ us hl => match us, hl with | [_], _ => rfl) s us hl⟩
theorem df_36 {K : PySem.W.Frag} {h : Heap} {mg : Str → Option Value} (X : K.In h) (G : h.Ns mainGlobals mg) (c : Says K) : ∃ fd, Df K mg "_law_is_label" s_36 ["_law_it"] (He.ga K "_law_is_label") fd := by
  obtain ⟨fd, F⟩ := c.1.def_ 20 (d := d_36) rfl
  exact ⟨fd, F, He.glo_ok X G (c.1.fact 20 (f := .glo "_law_is_label") rfl), fun us hl s => FunD.bindsA F (ps := ["_law_it"]) (fun _ _ _ _ _ _ us hl => match us, hl with | [_], _ => rfl) s us hl⟩
theorem df_37 {K : PySem.W.Frag} {h : Heap} {mg : Str → Option Value} (X : K.In h) (G : h.Ns mainGlobals mg) (c : Says K) : ∃ fd, Df K mg "_law_leaf_looked" s_37 ["_law_it"] (He.ga K "_law_leaf_looked") fd := by
  obtain ⟨fd, F⟩ := c.1.def_ 21 (d := d_37) rfl
  exact ⟨fd, F, He.glo_ok X G (c.1.fact 21 (f := .glo "_law_leaf_looked") rfl), fun us hl s => FunD.bindsA F (ps := ["_law_it"]) (fun _ _ _ _ _ _ us hl => match us, hl with | [_], _ => rfl) s us hl⟩
theorem df_38 {K : PySem.W.Frag} {h : Heap} {mg : Str → Option Value} (X : K.In h) (G : h.Ns mainGlobals mg) (c : Says K) : ∃ fd, Df K mg "_law_looked" s_38 ["_law_it"] (He.ga K "_law_looked") fd := by
  obtain ⟨fd, F⟩ := c.1.def_ 22 (d := d_38) rfl
  exact ⟨fd, F, He.glo_ok X G (c.1.fact 22 (f := .glo "_law_looked") rfl), fun us hl s => FunD.bindsA F (ps := ["_law_it"]) (fun _ _ _ _ _ _ us hl => match us, hl with | [_], _ => rfl) s us hl⟩
theorem df_39 {K : PySem.W.Frag} {h : Heap} {mg : Str → Option Value} (X : K.In h) (G : h.Ns mainGlobals mg) (c : Says K) : ∃ fd, Df K mg "_law_deemed" s_39 ["_law_it"] (He.ga K "_law_deemed") fd := by
  obtain ⟨fd, F⟩ := c.1.def_ 23 (d := d_39) rfl
  exact ⟨fd, F, He.glo_ok X G (c.1.fact 23 (f := .glo "_law_deemed") rfl), fun us hl s => FunD.bindsA F (ps := ["_law_it"]) (fun _ _ _ _ _ _ us hl => match us, hl with | [_], _ => rfl) s us hl⟩
theorem df_40 {K : PySem.W.Frag} {h : Heap} {mg : Str → Option Value} (X : K.In h) (G : h.Ns mainGlobals mg) (c : Says K) : ∃ fd, Df K mg "_law_odd" s_40 ["_law_hand", "_law_part"] (He.ga K "_law_odd") fd := by
  obtain ⟨fd, F⟩ := c.1.def_ 24 (d := d_40) rfl
  exact ⟨fd, F, He.glo_ok X G (c.1.fact 24 (f := .glo "_law_odd") rfl), fun us hl s => FunD.bindsA F (ps := ["_law_hand", "_law_part"]) (fun _ _ _ _ _ _ us hl => match us, hl with | [_, _], _ => rfl) s us hl⟩
theorem df_41 {K : PySem.W.Frag} {h : Heap} {mg : Str → Option Value} (X : K.In h) (G : h.Ns mainGlobals mg) (c : Says K) : ∃ fd, Df K mg "_law_spoilt" s_41 ["_law_hand", "_law_it"] (He.ga K "_law_spoilt") fd := by
  obtain ⟨fd, F⟩ := c.1.def_ 25 (d := d_41) rfl
  exact ⟨fd, F, He.glo_ok X G (c.1.fact 25 (f := .glo "_law_spoilt") rfl), fun us hl s => FunD.bindsA F (ps := ["_law_hand", "_law_it"]) (fun _ _ _ _ _ _ us hl => match us, hl with | [_, _], _ => rfl) s us hl⟩
theorem df_42 {K : PySem.W.Frag} {h : Heap} {mg : Str → Option Value} (X : K.In h) (G : h.Ns mainGlobals mg) (c : Says K) : ∃ fd, Df K mg "_law_right" s_42 ["_law_it"] (He.ga K "_law_right") fd := by
  obtain ⟨fd, F⟩ := c.1.def_ 26 (d := d_42) rfl
  exact ⟨fd, F, He.glo_ok X G (c.1.fact 26 (f := .glo "_law_right") rfl), fun us hl s => FunD.bindsA F (ps := ["_law_it"]) (fun _ _ _ _ _ _ us hl => match us, hl with | [_], _ => rfl) s us hl⟩
theorem df_43 {K : PySem.W.Frag} {h : Heap} {mg : Str → Option Value} (X : K.In h) (G : h.Ns mainGlobals mg) (c : Says K) : ∃ fd, Df K mg "law" s_43 ["_law_script"] (He.ga K "law") fd := by
  obtain ⟨fd, F⟩ := c.1.def_ 27 (d := d_43) rfl
  exact ⟨fd, F, He.glo_ok X G (c.1.fact 27 (f := .glo "law") rfl), fun us hl s => FunD.bindsA F (ps := ["_law_script"]) (fun _ _ _ _ _ _ us hl => match us, hl with | [_], _ => rfl) s us hl⟩
/-- the law keeps its promise: the defs one behind another -/
theorem law_ok {P : Program} {w : World} {K : PySem.W.Frag} {h : Heap} {mg : Str → Option Value} {fa' : Addr} (X : K.In h) (G : h.Ns mainGlobals mg) (hfa : mg ("law" : Str) = some (.ref fa')) (c : Says K) :
    ∃ fd : FuncData, (∀ (s : Shared) (u : Value), BindsTo s fd ⟨[u], []⟩ [("_law_script", u)]) ∧ ∀ base : Heap, K.In base → base.Ns mainGlobals mg → FnG P w K mg base 60 fa' fd ["_law_script"] (spLaw K) := by
  have F := facts_of X G c
  obtain ⟨_, Dwhole⟩ := df_15 X G c
  obtain ⟨_, Dname⟩ := df_16 X G c
  obtain ⟨_, Dtext⟩ := df_17 X G c
  obtain ⟨_, Drow⟩ := df_18 X G c
  obtain ⟨_, Dnamed⟩ := df_19 X G c
  obtain ⟨_, Dbare⟩ := df_20 X G c
  obtain ⟨_, Dleaves⟩ := df_21 X G c
  obtain ⟨_, Dworth⟩ := df_22 X G c
  obtain ⟨_, Dplain⟩ := df_23 X G c
  obtain ⟨_, Dbegun⟩ := df_25 X G c
  obtain ⟨_, Ddealt⟩ := df_26 X G c
  obtain ⟨_, Dpick⟩ := df_27 X G c
  obtain ⟨_, Dlabel⟩ := df_28 X G c
  obtain ⟨_, Dleaf⟩ := df_29 X G c
  obtain ⟨_, Dlooks⟩ := df_30 X G c
  obtain ⟨_, Ddrawn⟩ := df_31 X G c
  obtain ⟨_, Dchain⟩ := df_32 X G c
  obtain ⟨_, Dwide⟩ := df_33 X G c
  obtain ⟨_, Dgreatest⟩ := df_34 X G c
  obtain ⟨_, Dbeyond⟩ := df_35 X G c
  obtain ⟨_, Dislabel⟩ := df_36 X G c
  obtain ⟨_, Dlooked1⟩ := df_37 X G c
  obtain ⟨_, Dlooked⟩ := df_38 X G c
  obtain ⟨_, Ddeemed⟩ := df_39 X G c
  obtain ⟨_, Dodd⟩ := df_40 X G c
  obtain ⟨_, Dspoilt⟩ := df_41 X G c
  obtain ⟨_, Dright⟩ := df_42 X G c
  obtain ⟨fd, D⟩ := df_43 X G c
  have e := hfa.symm.trans D.g
  cases e
  refine ⟨fd, fun s u => D.b [u] rfl s, fun base _ _ => ?_⟩
  have Kwhole := ok_is_whole (P := P) (w := w) (base := base) (k := 0) F Dwhole
  have Kname := ok_is_name (P := P) (w := w) (base := base) (k := 0) F Dname
  have Ktext := ok_is_text (P := P) (w := w) (base := base) (k := 0) F Dtext
  have Krow := ok_is_row (P := P) (w := w) (base := base) (k := 0) F Drow
  have Knamed := ok_is_named (k := 1) F Kwhole Kname Dnamed
  have Kbare := ok_is_bare (k := 1) F Kwhole Ktext Dbare
  have Kleaves := ok_leaves (k := 1) F Krow Dleaves
  have Kworth := ok_is_worth (k := 2) F Kleaves Kbare Knamed Dworth
  have Kplain := ok_is_plain (k := 2) F Kleaves Kbare Dplain
  have Kdealt := ok_dealt (P := P) (w := w) (base := base) (k := 0) Ddealt
  have Kpick := ok_pick (k := 1) F Kdealt Dpick
  have Klabel := ok_label (k := 2) F Kpick Dlabel
  have Kleaf := ok_leaf (k := 3) F (Kdealt.more (by omega)) (Kpick.more (by omega)) Klabel Dleaf
  have Klooks := ok_looks (P := P) (w := w) (base := base) (k := 0) F Dlooks
  have Kdrawn := drawn_all (k := 4) F (Kdealt.more (by omega)) (Kpick.more (by omega)) Kleaf (Klooks.more (by omega)) Ddrawn 3
  have Kchain := ok_chain (P := P) (w := w) (base := base) (k := 0) F Dchain
  have Kwide := ok_wide (P := P) (w := w) (base := base) (k := 0) F Dwide
  have Kgreatest := ok_greatest (k := 4) F Kleaf (Kchain.more (by omega)) (Kwide.more (by omega)) Dgreatest
  have Kbeyond := ok_beyond (k := 4) F Kleaf (Kchain.more (by omega)) (Kwide.more (by omega)) Dbeyond
  have Kislabel := ok_label_is (P := P) (w := w) (base := base) (k := 0) F Dislabel
  have Klooked1 := ok_leaf_looked (k := 1) F Kislabel Dlooked1
  have Klooked := looked_all (k := 2) F Klooked1 Dlooked 50
  have Kdeemed := ok_deemed (k := 53) F Klooked Ddeemed
  have Kodd := ok_odd (k := 2) F Kpick Dodd
  have Kspoilt := spoilt_all (k := 3) F (Kdealt.more (by omega)) Kodd Dspoilt 40
  have Kright := ok_right (k := 54) F (Kworth.more (by omega)) (Kplain.more (by omega)) Kdeemed Dright
  exact ok_law (k := 59) F Dbegun (ok_begun (k := 58) F Dbegun) (Kdealt.more (by omega)) (Kpick.more (by omega)) (Kdrawn.more (by omega)) (Kgreatest.more (by omega)) (Kbeyond.more (by omega)) (Kspoilt.more (by omega)) (Klooks.more (by omega)) (Kchain.more (by omega)) (Kright.more (by omega)) D
end Ev
open PySem PySem.W PySem.Calls PyProof.Rows
set_option maxHeartbeats 0 in
theorem PySem.Challenge.cw_everso_k02_worths_of_anything_holds : PySem.Challenge.rw_everso_k02_worths_of_anything.Holds := by
  w_on; o_law
  refine HandSHeadRun.head_any (r := OpenLaw.row PySem.Challenge.rw_everso_k02_worths_of_anything) (q := view (OpenLaw.row PySem.Challenge.rw_everso_k02_worths_of_anything).prog [43]) (H := Ev.hk) (ob := Ev.ob) (M := 3000) (loose := Ev.loose) (d := HandSHeadRun.topDef (OpenLaw.row PySem.Challenge.rw_everso_k02_worths_of_anything).prog 43) (kwd := []) Ev.ob_eq
    (by kernel_rfl) (fun s => by kernel_rfl) Ev.run (by kernel_rfl) (by kernel_rfl) (by kernel_rfl) (by rfl) (by first | assumption | decide +kernel) (by decide +kernel) ⟨rfl, rfl, rfl, rfl, rfl, by decide +kernel⟩ ?hw ?hc
  case hw => w_witness2
  case hc =>
    refine Dl.walk_G (l := PySem.Challenge.rw_everso_k02_worths_of_anything) (k := 60) (x := "_law_script") rfl (by kernel_rfl) ⟨rfl, by decide, by decide⟩ ?_
    intro w mg fa h Y G hmg0
    obtain ⟨K, KX, c⟩ := Y
    have hmg : mg ("law" : PySem.Str) = some (.ref fa) := by
      have e : (HandSHeadRun.topDef (OpenLaw.row PySem.Challenge.rw_everso_k02_worths_of_anything).prog 43).name = ("law" : PySem.Str) := by kernel_rfl
      rw [← e]
      exact hmg0
    obtain ⟨fd, hb, hF⟩ := Ev.law_ok (P := (PySem.Challenge.rw_everso_k02_worths_of_anything).prog) (w := w) KX G hmg c
    exact ⟨K, fd, KX, hb, hF⟩
