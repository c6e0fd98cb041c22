import PyProof.Rows.All
import Wide.All
import OpenK.AllK
import Wide.FinOn
import HandS.ForMost
import HandS.ForExc
import HandS.Flow
import HandS.IsInst
import HandS.Codes
import HandS.FStr
import HandS.StrMore
import HandS.Wide
import HandS.Conv
import HandS.ExcInit
import HandS.ExcField
import HandS.TryMany
import HandS.AnyAll
import HandS.TupMul
import HandS.TupAny
import HandS.WrittenGet
import PyProof.ReprReads
import PyProof.ReprRoads
import HandS.Deep
import HandS.Style
import HandS.RaiseMore
import HandS.Zip
import PyProof.StrBlock2
import PyProof.NeKinds
import HandS.Dict
import HandS.RevTup
import HandS.Defaults
import HandS.WordsExc
import HandS.HeadEnd
import PyProof.ReprLen
import PyProof.Rows.ReprOcc
import HandS.SortKw
import KE.DataMinMax
import HandS.Head0
import HandS.Head1
import HandS.Head2
import HandS.HeadHook1
import HandS.HeadHook2
import KE.GoesEnumKw
import KE.KRevSl
import HandS.HeadHook3
import PyProof.StrLawsFirst
import KE.KIntText
import KE.IntTextText
import PySem.Challenge.RW_everso_k04_worths_there_and_back
set_option Elab.async false
set_option linter.all false
set_option maxRecDepth 100000
set_option maxHeartbeats 2000000
namespace Dl
open PySem PySem.Spec L2

abbrev Dt := PyData
/-- a key as data -/
def kD : Key → Dt
  | .inl i => .int i
  | .inr x => .str x

mutual
/-- in the frozen part F a value stands for a datum -/
inductive Rp (K : PySem.W.Frag) (F : Hp) : V → Dt → Prop
  | non : Rp K F .non .none
  | bl (b : Bool) : Rp K F (.bl b) (.bool b)
  | int (i : Int) : Rp K F (.int i) (.int i)
  | str (x : Str) : Rp K F (.str x) (.str x)
  | lst {a : Addr} {xs : List V} {ds : List Dt} : F a = some (.lst xs) → RpAll K F xs ds → Rp K F (.ref a) (.list ds)
  | tup {a : Addr} {xs : List V} {ds : List Dt} : SqT K F a xs → RpAll K F xs ds → Rp K F (.ref a) (.tuple ds)
  | dct {a : Addr} {kvs : List (Key × V)} {es : List (Dt × Dt)} : F a = some (.dK kvs) → RpKv K F kvs es → Rp K F (.ref a) (.dict es)
inductive RpAll (K : PySem.W.Frag) (F : Hp) : List V → List Dt → Prop
  | nil : RpAll K F [] []
  | cons {v : V} {vs : List V} {d : Dt} {ds : List Dt} : Rp K F v d → RpAll K F vs ds → RpAll K F (v :: vs) (d :: ds)
inductive RpKv (K : PySem.W.Frag) (F : Hp) : List (Key × V) → List (Dt × Dt) → Prop
  | nil : RpKv K F [] []
  | cons {k : Key} {v : V} {d : Dt} {r : List (Key × V)} {es : List (Dt × Dt)} : Rp K F v d → RpKv K F r es → RpKv K F ((k, v) :: r) ((kD k, d) :: es)
end

theorem sqT_ext {K : PySem.W.Frag} {F F' : Hp} {a : Addr} {xs : List V} (e : Same F F') (h : SqT K F a xs) : SqT K F' a xs := by
  rcases h with (h | ⟨o, h⟩) | h
  · exact .inl (.inl (e _ _ h))
  · exact .inl (.inr ⟨o, e _ _ h⟩)
  · exact .inr h

section
variable {K : PySem.W.Frag} {F F' : Hp}
mutual
theorem Rp.ext (e : Same F F') : ∀ {v : V} (d : Dt), Rp K F v d → Rp K F' v d
  | _, .none, h => by cases h; exact .non
  | _, .bool b, h => by cases h; exact .bl b
  | _, .int i, h => by cases h; exact .int i
  | _, .str x, h => by cases h; exact .str x
  | _, .list ds, h => by
    cases h with
    | lst h1 h2 => exact .lst (e _ _ h1) (RpAll.ext e ds h2)
  | _, .tuple ds, h => by
    cases h with
    | tup h1 h2 => exact .tup (sqT_ext e h1) (RpAll.ext e ds h2)
  | _, .dict es, h => by
    cases h with
    | dct h1 h2 => exact .dct (e _ _ h1) (RpKv.ext e es h2)
theorem RpAll.ext (e : Same F F') : ∀ {vs : List V} (ds : List Dt), RpAll K F vs ds → RpAll K F' vs ds
  | _, [], h => by cases h; exact .nil
  | _, d :: ds, h => by
    cases h with
    | cons h1 h2 => exact .cons (Rp.ext e d h1) (RpAll.ext e ds h2)
theorem RpKv.ext (e : Same F F') : ∀ {kvs : List (Key × V)} (es : List (Dt × Dt)), RpKv K F kvs es → RpKv K F' kvs es
  | _, [], h => by cases h; exact .nil
  | _, (k, d) :: es, h => by
    cases h with
    | cons h1 h2 => exact .cons (Rp.ext e d h1) (RpKv.ext e es h2)
end
theorem Rp.ext' (e : Same F F') {v : V} {d : Dt} (h : Rp K F v d) : Rp K F' v d := Rp.ext e d h
theorem RpAll.ext' (e : Same F F') {v : List V} {d : List Dt} (h : RpAll K F v d) : RpAll K F' v d := RpAll.ext e d h
theorem RpAll.length : ∀ {vs : List V} {ds : List Dt}, RpAll K F vs ds → vs.length = ds.length
  | _, [], h => by cases h; rfl
  | _, d :: ds, h => by
    cases h with
    | cons h1 h2 => rw [List.length_cons, List.length_cons, RpAll.length h2]
theorem RpAll.app : ∀ {vs ws : List V} {ds es : List Dt}, RpAll K F vs ds → RpAll K F ws es → RpAll K F (vs ++ ws) (ds ++ es)
  | _, _, [], _, h, g => by cases h; exact g
  | _, _, d :: ds, _, h, g => by
    cases h with
    | cons h1 h2 => exact .cons h1 (h2.app g)
theorem RpAll.at : ∀ {vs : List V} {ds : List Dt} {i : Nat} {d : Dt}, RpAll K F vs ds → ds[i]? = some d → ∃ v, vs[i]? = some v ∧ Rp K F v d
  | _, [], _, _, _, e => by simp at e
  | _, x :: ds, 0, d, h, e => by
    cases h with
    | cons h1 h2 => simp at e; subst e; exact ⟨_, rfl, h1⟩
  | _, x :: ds, i + 1, d, h, e => by
    cases h with
    | cons h1 h2 =>
      obtain ⟨v, h3, h4⟩ := h2.at (by simpa using e)
      exact ⟨v, by simpa using h3, h4⟩
theorem RpAll.take : ∀ {vs : List V} {ds : List Dt} (n : Nat), RpAll K F vs ds → RpAll K F (vs.take n) (ds.take n)
  | _, _, 0, _ => by simp only [List.take_zero]; exact .nil
  | _, [], n + 1, h => by cases h; exact .nil
  | _, d :: ds, n + 1, h => by
    cases h with
    | cons h1 h2 => exact .cons h1 (h2.take n)
theorem RpAll.drop : ∀ {vs : List V} {ds : List Dt} (n : Nat), RpAll K F vs ds → RpAll K F (vs.drop n) (ds.drop n)
  | _, _, 0, h => h
  | _, [], n + 1, h => by cases h; exact .nil
  | _, d :: ds, n + 1, h => by
    cases h with
    | cons h1 h2 => exact h2.drop n
theorem RpAll.setAt : ∀ {vs : List V} {ds : List Dt} (n : Nat) {v : V} {d : Dt}, RpAll K F vs ds → Rp K F v d → RpAll K F (vs.set n v) (ds.set n d)
  | _, [], n, _, _, h, _ => by cases h; cases n <;> exact .nil
  | _, d :: ds, 0, _, _, h, g => by
    cases h with
    | cons h1 h2 => exact .cons g h2
  | _, d :: ds, n + 1, _, _, h, g => by
    cases h with
    | cons h1 h2 => exact .cons h1 (h2.setAt n g)
theorem RpAll.rev {vs : List V} {ds : List Dt} (h : RpAll K F vs ds) : RpAll K F vs.reverse ds.reverse := by
  induction ds generalizing vs with
  | nil => cases h; exact .nil
  | cons d ds ih =>
    cases h with
    | cons h1 h2 =>
      rw [List.reverse_cons, List.reverse_cons]
      exact (ih h2).app (.cons h1 .nil)
theorem RpAll.rep {vs : List V} {ds : List Dt} (h : RpAll K F vs ds) : ∀ k : Nat, RpAll K F (List.replicate k vs).flatten (List.replicate k ds).flatten
  | 0 => .nil
  | k + 1 => by
    rw [List.replicate_succ, List.replicate_succ, List.flatten_cons, List.flatten_cons]
    exact h.app (h.rep k)
theorem RpAll.ints : ∀ {vs : List V} {ns : List Int}, RpAll K F vs (ns.map PyData.int) → vs = ns.map V.int
  | _, [], h => by cases h; rfl
  | _, n :: ns, h => by
    cases h with
    | cons h1 h2 => cases h1; rw [RpAll.ints h2]; rfl
theorem RpAll.bools : ∀ {vs : List V} {ns : List Bool}, RpAll K F vs (ns.map PyData.bool) → vs = ns.map V.bl
  | _, [], h => by cases h; rfl
  | _, n :: ns, h => by
    cases h with
    | cons h1 h2 => cases h1; rw [RpAll.bools h2]; rfl
theorem RpAll.texts : ∀ {vs : List V} {ns : List Str}, RpAll K F vs (ns.map PyData.str) → vs = ns.map V.str
  | _, [], h => by cases h; rfl
  | _, n :: ns, h => by
    cases h with
    | cons h1 h2 => cases h1; rw [RpAll.texts h2]; rfl
theorem RpAll.ofTexts : ∀ (ns : List Str), RpAll K F (ns.map V.str) (ns.map PyData.str)
  | [] => .nil
  | n :: ns => .cons (.str n) (RpAll.ofTexts ns)
theorem RpAll.ofInts : ∀ (ns : List Int), RpAll K F (ns.map V.int) (ns.map PyData.int)
  | [] => .nil
  | n :: ns => .cons (.int n) (RpAll.ofInts ns)
end

/-! ### to the library's data -/
section
variable {K : PySem.W.Frag} {F H : Hp}
mutual
theorem Rp.dp (e : Same F H) : ∀ {v : V} (d : Dt), d.hasDict = false → Rp K F v d → Dp K H v d
  | _, .none, _, h => by cases h; exact .non
  | _, .bool b, _, h => by cases h; exact .bl b
  | _, .int i, _, h => by cases h; exact .int i
  | _, .str x, _, h => by cases h; exact .str x
  | _, .list ds, n, h => by
    cases h with
    | lst h1 h2 => exact .lst (SqL.of (e _ _ h1)) (RpAll.dp e ds (by simpa [PyData.hasDict] using n) h2)
  | _, .tuple ds, n, h => by
    cases h with
    | tup h1 h2 => exact .tup (sqT_ext e h1) (RpAll.dp e ds (by simpa [PyData.hasDict] using n) h2)
  | _, .dict es, n, h => by simp [PyData.hasDict] at n
theorem RpAll.dp (e : Same F H) : ∀ {vs : List V} (ds : List Dt), PyData.hasDictAll ds = false → RpAll K F vs ds → DpAll K H vs ds
  | _, [], _, h => by cases h; exact .nil
  | _, d :: ds, n, h => by
    have n' : d.hasDict = false ∧ PyData.hasDictAll ds = false := by simpa [PyData.hasDictAll] using n
    cases h with
    | cons h1 h2 => exact .cons (Rp.dp e d n'.1 h1) (RpAll.dp e ds n'.2 h2)
end
end

/-! ### what goes through a going -/
/-- the addresses of the hand's list and of its cells' list -/
abbrev Hd := Option (Addr × Addr)
def InHd : Hd → Addr → Prop
  | none, _ => False
  | some (x, c), a => a = x ∨ a = c
/-- the hand stands, n draws may still be made -/
def HandOk (hd : Hd) (n : Nat) (H : Hp) : Prop := match hd with
  | none => True
  | some (x, c) => x ≠ c ∧ ∃ (cs : List Int) (t k : Int), H x = some (.lst [.ref c, .int t, .int k]) ∧ H c = some (.lst (cs.map V.int)) ∧ cs.length ≤ 1000 ∧ t.natAbs < 2 ^ 62 ∧ 0 ≤ k ∧ k + n ≤ 2 ^ 62
theorem HandOk.mono {hd : Hd} {n m : Nat} {H : Hp} (h : HandOk hd n H) (l : m ≤ n) : HandOk hd m H := by
  cases hd with
  | none => trivial
  | some p =>
    obtain ⟨h1, cs, t, k, h2, h3, h4, h5, h6, h7⟩ := h
    exact ⟨h1, cs, t, k, h2, h3, h4, h5, h6, by omega⟩
theorem HandOk.there {hd : Hd} {n : Nat} {H : Hp} (h : HandOk hd n H) {a : Addr} (i : InHd hd a) : ∃ o, H a = some o := by
  cases hd with
  | none => exact i.elim
  | some p =>
    obtain ⟨h1, cs, t, k, h2, h3, _⟩ := h
    rcases i with rfl | rfl
    · exact ⟨_, h2⟩
    · exact ⟨_, h3⟩

/-- from (F0, H0) the going came to (F, H): F is frozen, what was tracked stays but for the hand -/
structure RelB (hd : Hd) (F0 H0 F H : Hp) (n : Nat) : Prop where
  sub : Same F H
  f0 : Same F0 F
  h0 : ∀ b o, H0 b = some o → ¬ InHd hd b → H b = some o
  fnew : ∀ b o, F b = some o → F0 b = some o ∨ H0 b = none
  hand : HandOk hd n H
  hfree : ∀ b, InHd hd b → F b = none
theorem RelB.refl {hd : Hd} {F0 H0 F H : Hp} {n : Nat} (r : RelB hd F0 H0 F H n) : RelB hd F H F H n :=
  ⟨r.sub, Same.refl _, fun _ _ h _ => h, fun _ _ h => .inl h, r.hand, r.hfree⟩
theorem RelB.trans {hd : Hd} {F0 H0 F H F' H' : Hp} {n n' : Nat} (a : RelB hd F0 H0 F H n) (b : RelB hd F H F' H' n') : RelB hd F0 H0 F' H' n' where
  sub := b.sub
  f0 := a.f0.trans b.f0
  h0 := fun x o h i => b.h0 x o (a.h0 x o h i) i
  fnew := fun x o h => by
    rcases b.fnew x o h with q | q
    · exact a.fnew x o q
    · right
      cases e : H0 x with
      | none => rfl
      | some u =>
        by_cases i : InHd hd x
        · obtain ⟨o', z⟩ := a.hand.there i
          rw [q] at z; cases z
        · have := a.h0 x u e i
          rw [q] at this; cases this
  hand := b.hand
  hfree := b.hfree
theorem RelB.less {hd : Hd} {F0 H0 F H : Hp} {n m : Nat} (r : RelB hd F0 H0 F H n) (l : m ≤ n) : RelB hd F0 H0 F H m := ⟨r.sub, r.f0, r.h0, r.fnew, r.hand.mono l, r.hfree⟩

/-- a new object that is frozen at once -/
theorem RelB.lay {hd : Hd} {F0 H0 F H : Hp} {n : Nat} {p : Addr} {o : HO} (r : RelB hd F0 H0 F H n) (np : H p = none) : RelB hd F0 H0 (upd F p o) (upd H p o) n := by
  have fp : F p = none := by
    cases e : F p with
    | none => rfl
    | some u => rw [r.sub p u e] at np; cases np
  have ni : ∀ b, InHd hd b → b ≠ p := fun b i e => by
    obtain ⟨u, z⟩ := r.hand.there i
    rw [e, np] at z; cases z
  refine ⟨fun b u h => ?_, fun b u h => ?_, fun b u h i => ?_, fun b u h => ?_, ?_, fun b i => ?_⟩
  · by_cases e : b = p
    · subst e; rw [upd_same] at h ⊢; exact h
    · rw [upd_ne e] at h ⊢; exact r.sub b u h
  · have e : b ≠ p := fun e => by
      have := r.f0 b u h
      rw [e, fp] at this; cases this
    rw [upd_ne e]; exact r.f0 b u h
  · have e : b ≠ p := fun e => by
      have := r.h0 b u h i
      rw [e, np] at this; cases this
    rw [upd_ne e]; exact r.h0 b u h i
  · by_cases e : b = p
    · subst e
      right
      cases q : H0 b with
      | none => rfl
      | some u =>
        by_cases i : InHd hd b
        · exact absurd rfl (ni b i)
        · have := r.h0 b u q i
          rw [np] at this; cases this
    · rw [upd_ne e] at h; exact r.fnew b u h
  · cases hd with
    | none => trivial
    | some q =>
      obtain ⟨h1, cs, t, k, h2, h3, h4⟩ := r.hand
      exact ⟨h1, cs, t, k, by rw [upd_ne (ni _ (.inl rfl))]; exact h2, by rw [upd_ne (ni _ (.inr rfl))]; exact h3, h4⟩
  · rw [upd_ne (ni b i)]; exact r.hfree b i
/-- a new object that is not frozen -/
theorem RelB.layH {hd : Hd} {F0 H0 F H : Hp} {n : Nat} {p : Addr} {o : HO} (r : RelB hd F0 H0 F H n) (np : H p = none) : RelB hd F0 H0 F (upd H p o) n := by
  have q := r.lay (o := o) np
  have fp : F p = none := by
    cases e : F p with
    | none => rfl
    | some u => rw [r.sub p u e] at np; cases np
  exact ⟨fun b u h => by rw [upd_ne (fun e => by rw [e, fp] at h; cases h)]; exact r.sub b u h, r.f0, q.h0, r.fnew, q.hand, r.hfree⟩
/-- a list that is ours alone is frozen -/
theorem RelB.freeze {hd : Hd} {F0 H0 F H : Hp} {n : Nat} {p : Addr} {o : HO} (r : RelB hd F0 H0 F H n) (hp : H p = some o) (fp : F p = none) (h0 : H0 p = none) (ni : ¬ InHd hd p) : RelB hd F0 H0 (upd F p o) H n := by
  refine ⟨fun b u h => ?_, fun b u h => ?_, r.h0, fun b u h => ?_, r.hand, fun b i => ?_⟩
  · by_cases e : b = p
    · subst e; rw [upd_same] at h; rw [hp]; exact h
    · rw [upd_ne e] at h; exact r.sub b u h
  · have e : b ≠ p := fun e => by
      have := r.f0 b u h
      rw [e, fp] at this; cases this
    rw [upd_ne e]; exact r.f0 b u h
  · by_cases e : b = p
    · subst e; exact .inr h0
    · rw [upd_ne e] at h; exact r.fnew b u h
  · rw [upd_ne (fun e => ni (by rw [← e]; exact i))]; exact r.hfree b i
/-- a list that is ours alone is changed -/
theorem RelB.change {hd : Hd} {F0 H0 F H : Hp} {n : Nat} {p : Addr} {o : HO} (r : RelB hd F0 H0 F H n) (fp : F p = none) (h0 : H0 p = none) (ni : ¬ InHd hd p) : RelB hd F0 H0 F (upd H p o) n := by
  refine ⟨fun b u h => ?_, r.f0, fun b u h i => ?_, r.fnew, ?_, r.hfree⟩
  · rw [upd_ne (fun e => by rw [e, fp] at h; cases h)]; exact r.sub b u h
  · rw [upd_ne (fun e => by rw [e, h0] at h; cases h)]; exact r.h0 b u h i
  · cases hd with
    | none => trivial
    | some q =>
      obtain ⟨h1, cs, t, k, h2, h3, h4⟩ := r.hand
      exact ⟨h1, cs, t, k, by rw [upd_ne (fun e => ni (.inl e.symm))]; exact h2, by rw [upd_ne (fun e => ni (.inr e.symm))]; exact h3, h4⟩

/-! ### slots -/
/-- what a name holds: nothing that is known, a datum, a list of its own, the hand -/
inductive Ds where
  | no
  | d (x : Dt)
  | own (xs : List Dt)
  | hand
def SlotOk (K : PySem.W.Frag) (hd : Hd) (H0 F H : Hp) (s : Ds) (o : Option (Option V)) : Prop := match s with
  | .no => True
  | .d x => ∃ v, o = some (some v) ∧ Rp K F v x
  | .own xs => ∃ (a : Addr) (vs : List V), o = some (some (.ref a)) ∧ F a = none ∧ H0 a = none ∧ ¬ InHd hd a ∧ H a = some (.lst vs) ∧ RpAll K F vs xs
  | .hand => ∃ x c, hd = some (x, c) ∧ o = some (some (.ref x))
structure Rel (K : PySem.W.Frag) (hd : Hd) (F0 H0 F : Hp) (σ : St) (H : Hp) (δ : List Ds) (n : Nat) : Prop where
  b : RelB hd F0 H0 F H n
  len : σ.length = δ.length
  slot : ∀ (i : Nat) (s : Ds), δ[i]? = some s → SlotOk K hd H0 F H s σ[i]?
  own : ∀ (i j : Nat) (xs ys : List Dt) (a : Addr), δ[i]? = some (.own xs) → δ[j]? = some (.own ys) → σ[i]? = some (some (.ref a)) → σ[j]? = some (some (.ref a)) → i = j
section
variable {K : PySem.W.Frag} {hd : Hd} {F0 H0 F F' H H' : Hp} {σ : St} {δ : List Ds} {n n' : Nat}
theorem SlotOk.ext (r : RelB hd F0 H0 F H n) (e : RelB hd F H F' H' n') {s : Ds} {o : Option (Option V)} (h : SlotOk K hd H0 F H s o) : SlotOk K hd H0 F' H' s o := by
  cases s with
  | no => trivial
  | d x =>
    obtain ⟨v, h1, h2⟩ := h
    exact ⟨v, h1, h2.ext' e.f0⟩
  | own xs =>
    obtain ⟨a, vs, h1, h2, h3, h4, h5, h6⟩ := h
    refine ⟨a, vs, h1, ?_, h3, h4, e.h0 _ _ h5 h4, h6.ext' e.f0⟩
    cases q : F' a with
    | none => rfl
    | some u =>
      rcases e.fnew a u q with z | z
      · rw [h2] at z; cases z
      · rw [h5] at z; cases z
  | hand => exact h
/-- behind an expression -/
theorem Rel.ext (r : Rel K hd F0 H0 F σ H δ n) (e : RelB hd F H F' H' n') : Rel K hd F0 H0 F' σ H' δ n' :=
  ⟨r.b.trans e, r.len, fun i s h => (r.slot i s h).ext r.b e, r.own⟩
theorem Rel.less {m : Nat} (r : Rel K hd F0 H0 F σ H δ n) (l : m ≤ n) : Rel K hd F0 H0 F σ H δ m := ⟨r.b.less l, r.len, r.slot, r.own⟩
/-- a name is a datum -/
theorem Rel.put (r : Rel K hd F0 H0 F σ H δ n) (i : Nat) {v : V} {x : Dt} (h : Rp K F v x) : Rel K hd F0 H0 F (σ.set i (some v)) H (δ.set i (.d x)) n := by
  refine ⟨r.b, by rw [List.length_set, List.length_set]; exact r.len, fun j s e => ?_, fun j k xs ys a h1 h2 h3 h4 => ?_⟩
  · by_cases q : i = j
    · subst q
      have hl : i < δ.length := by
        by_cases z : i < δ.length
        · exact z
        · rw [List.getElem?_eq_none (by simpa using z)] at e; cases e
      rw [List.getElem?_set_self hl] at e
      cases e
      exact ⟨v, by rw [List.getElem?_set_self (by rw [r.len]; exact hl)], h⟩
    · rw [List.getElem?_set_ne q] at e ⊢
      exact r.slot j s e
  · have ne : ∀ (j : Nat) (xs : List Dt), (δ.set i (.d x))[j]? = some (.own xs) → i ≠ j := fun j xs e q => by
      subst q
      by_cases z : i < δ.length
      · rw [List.getElem?_set_self z] at e; cases e
      · rw [List.getElem?_eq_none (by simpa using z)] at e; cases e
    have n1 := ne j xs h1
    have n2 := ne k ys h2
    rw [List.getElem?_set_ne n1] at h1 h3
    rw [List.getElem?_set_ne n2] at h2 h4
    exact r.own j k xs ys a h1 h2 h3 h4
/-- a name is a list of its own -/
theorem Rel.putOwn (r : Rel K hd F0 H0 F σ H δ n) (i : Nat) {a : Addr} {vs : List V} {xs : List Dt} (h1 : F a = none) (h2 : H0 a = none) (h3 : ¬ InHd hd a) (h4 : H a = some (.lst vs)) (h5 : RpAll K F vs xs)
    (nw : ∀ (j : Nat) (ys : List Dt), δ[j]? = some (.own ys) → σ[j]? ≠ some (some (.ref a))) : Rel K hd F0 H0 F (σ.set i (some (.ref a))) H (δ.set i (.own xs)) n := by
  refine ⟨r.b, by rw [List.length_set, List.length_set]; exact r.len, fun j s e => ?_, fun j k ys zs b e1 e2 e3 e4 => ?_⟩
  · by_cases q : i = j
    · subst q
      have hl : i < δ.length := by
        by_cases z : i < δ.length
        · exact z
        · rw [List.getElem?_eq_none (by simpa using z)] at e; cases e
      rw [List.getElem?_set_self hl] at e
      cases e
      exact ⟨a, vs, by rw [List.getElem?_set_self (by rw [r.len]; exact hl)], h1, h2, h3, h4, h5⟩
    · rw [List.getElem?_set_ne q] at e ⊢
      exact r.slot j s e
  · by_cases qj : i = j
    · by_cases qk : i = k
      · rw [← qj, ← qk]
      · subst qj
        rw [List.getElem?_set_ne qk] at e2 e4
        have hl : i < σ.length := by
          by_cases z : i < σ.length
          · exact z
          · rw [List.getElem?_eq_none (by simpa using z)] at e3; cases e3
        rw [List.getElem?_set_self hl] at e3
        cases e3
        exact absurd e4 (nw k zs e2)
    · by_cases qk : i = k
      · subst qk
        rw [List.getElem?_set_ne qj] at e1 e3
        have hl : i < σ.length := by
          by_cases z : i < σ.length
          · exact z
          · rw [List.getElem?_eq_none (by simpa using z)] at e4; cases e4
        rw [List.getElem?_set_self hl] at e4
        cases e4
        exact absurd e3 (nw j ys e1)
      · rw [List.getElem?_set_ne qj] at e1 e3
        rw [List.getElem?_set_ne qk] at e2 e4
        exact r.own j k ys zs b e1 e2 e3 e4
/-- what is new is nobody's own -/
theorem Rel.fresh (r : Rel K hd F0 H0 F σ H δ n) {a : Addr} (na : H a = none) (j : Nat) (ys : List Dt) (e : δ[j]? = some (.own ys)) : σ[j]? ≠ some (some (.ref a)) := fun q => by
  obtain ⟨b, vs, h1, _, _, _, h5, _⟩ := r.slot j _ e
  rw [q] at h1
  cases h1
  rw [na] at h5; cases h5
end
end Dl
namespace Dl
open PySem PySem.Spec L2

/-! ### meanings -/
/-- an exception: its class, its fields -/
abbrev Ex := Value × List (Str × Dt)
abbrev Wx := Ex → Nat → Prop
/-- what is wanted of a result and of the draws that are left -/
abbrev Kd (α : Type) := α → Nat → Prop
/-- a meaning by values alone -/
abbrev Mv (α : Type) := Nat → Kd α → Wx → Prop
/-- a meaning by the names' slots -/
abbrev Me (α : Type) := List Ds → Mv α
def ret {α : Type} (a : α) : Mv α := fun n Q _ => Q a n
def bnd {α β : Type} (m : Mv α) (f : α → Mv β) : Mv β := fun n Q W => m n (fun a n1 => f a n1 Q W) W
/-- under a condition -/
def grd {α : Type} (c : Prop) (m : Mv α) : Mv α := fun n Q W => c ∧ m n Q W
def bad {α : Type} : Mv α := fun _ _ _ => False
theorem bnd_ret {α β : Type} (a : α) (f : α → Mv β) : bnd (ret a) f = f a := rfl
theorem ret_bnd {α : Type} (m : Mv α) : bnd m ret = m := rfl
theorem bnd_bnd {α β γ : Type} (m : Mv α) (f : α → Mv β) (g : β → Mv γ) : bnd (bnd m f) g = bnd m fun a => bnd (f a) g := rfl
theorem grd_true {α : Type} {c : Prop} (h : c) (m : Mv α) : grd c m = m := by
  funext n Q W
  exact propext ⟨fun x => x.2, fun x => ⟨h, x⟩⟩
theorem ite_ret {α : Type} {c : Prop} [Decidable c] (a b : α) : (if c then (ret a : Mv α) else ret b) = ret (if c then a else b) := by
  split <;> rfl

/-! ### the ground of a going -/
structure Gh where
  hd : Hd
  F0 : Hp
  H0 : Hp
  W : Wx
abbrev Gh.B (g : Gh) (F H : Hp) (n : Nat) : Prop := RelB g.hd g.F0 g.H0 F H n
abbrev Gh.R (g : Gh) (K : PySem.W.Frag) (F : Hp) (σ : L2.St) (H : Hp) (δ : List Ds) (n : Nat) : Prop := Rel K g.hd g.F0 g.H0 F σ H δ n
/-- fields of an exception -/
inductive RpF (K : PySem.W.Frag) (F : Hp) : List (Str × V) → List (Str × Dt) → Prop
  | nil : RpF K F [] []
  | cons {x : Str} {v : V} {d : Dt} {r : List (Str × V)} {s : List (Str × Dt)} : Rp K F v d → RpF K F r s → RpF K F ((x, v) :: r) ((x, d) :: s)
def ExAt (K : PySem.W.Frag) (F H : Hp) (d : Option Addr) (fs : List (Str × Dt)) : Prop := match d with
  | none => fs = []
  | some a => ∃ fv, H a = some (.xd fv) ∧ RpF K F fv fs
/-- what is wanted of what is raised -/
def EOf (K : PySem.W.Frag) (g : Gh) : XK := fun cls d H' => ∃ (fs : List (Str × Dt)) (n' : Nat) (F' : Hp), g.B F' H' n' ∧ ExAt K F' H' d fs ∧ g.W (cls, fs) n'
structure XOk (X : Cx) (g : Gh) : Prop where
  calm : X.calm = true
  own : PassesOwn (model X.prog X.w) X.A X.env X.xe
  guards : X.A.guards = some []
  nd : X.N.Nodup
  pass : Passes (L2.CX X.prog X.w) X (EOf X.K g)

/-! ### judgements -/
/-- an expression is a datum -/
def DE (X : Cx) (g : Gh) (e : Expr) (m : Me Dt) : Prop := ∃ t : TE, PE X e t ∧ ∀ (σ : L2.St) (H F : Hp) (δ : List Ds) (n : Nat) (Q : VK) (Qd : Kd Dt), g.R X.K F σ H δ n →
  (∀ v d F' H' n', RelB g.hd F H F' H' n' → Rp X.K F' v d → Qd d n' → Q v H') → m δ n Qd g.W → t σ H Q
/-- .. a list that is to be read at once -/
def DL (X : Cx) (g : Gh) (e : Expr) (m : Me (List Dt)) : Prop := ∃ t : TE, PE X e t ∧ ∀ (σ : L2.St) (H F : Hp) (δ : List Ds) (n : Nat) (Q : VK) (Qd : Kd (List Dt)), g.R X.K F σ H δ n →
  (∀ a vs ds F' H' n', RelB g.hd F H F' H' n' → H' a = some (.lst vs) → ¬ InHd g.hd a → RpAll X.K F' vs ds → Qd ds n' → Q (.ref a) H') → m δ n Qd g.W → t σ H Q
/-- .. a new list -/
def DN (X : Cx) (g : Gh) (e : Expr) (m : Me (List Dt)) : Prop := ∃ t : TE, PE X e t ∧ ∀ (σ : L2.St) (H F : Hp) (δ : List Ds) (n : Nat) (Q : VK) (Qd : Kd (List Dt)), g.R X.K F σ H δ n →
  (∀ a vs ds F' H' n', RelB g.hd F H F' H' n' → H a = none → F' a = none → H' a = some (.lst vs) → RpAll X.K F' vs ds → Qd ds n' → Q (.ref a) H') → m δ n Qd g.W → t σ H Q
/-- a test -/
def DT (X : Cx) (g : Gh) (e : Expr) (m : Me Bool) : Prop := ∃ t : TT, PT X e t ∧ ∀ (σ : L2.St) (H F : Hp) (δ : List Ds) (n : Nat) (Q : Bool → Hp → Prop) (Qd : Kd Bool), g.R X.K F σ H δ n →
  (∀ b F' H' n', RelB g.hd F H F' H' n' → Qd b n' → Q b H') → m δ n Qd g.W → t σ H Q
/-- an argument -/
inductive Da where
  | d (x : Dt)
  | hand
def DaOk (K : PySem.W.Frag) (hd : Hd) (F : Hp) : V → Da → Prop
  | v, .d x => Rp K F v x
  | v, .hand => ∃ x c, hd = some (x, c) ∧ v = .ref x
inductive DasOk (K : PySem.W.Frag) (hd : Hd) (F : Hp) : List V → List Da → Prop
  | nil : DasOk K hd F [] []
  | cons {v : V} {vs : List V} {a : Da} {as : List Da} : DaOk K hd F v a → DasOk K hd F vs as → DasOk K hd F (v :: vs) (a :: as)
theorem DaOk.ext {K : PySem.W.Frag} {hd : Hd} {F F' : Hp} (e : Same F F') {v : V} {a : Da} (h : DaOk K hd F v a) : DaOk K hd F' v a := by
  cases a with
  | d x => exact Rp.ext' e h
  | hand => exact h
theorem DasOk.ext {K : PySem.W.Frag} {hd : Hd} {F F' : Hp} (e : Same F F') : ∀ {vs : List V} {as : List Da}, DasOk K hd F vs as → DasOk K hd F' vs as
  | _, _, .nil => .nil
  | _, _, .cons h t => .cons (h.ext e) (t.ext e)
/-- an expression as an argument -/
def DA1 (X : Cx) (g : Gh) (e : Expr) (m : Me Da) : Prop := ∃ t : TE, PE X e t ∧ ∀ (σ : L2.St) (H F : Hp) (δ : List Ds) (n : Nat) (Q : VK) (Qd : Kd Da), g.R X.K F σ H δ n →
  (∀ v d F' H' n', RelB g.hd F H F' H' n' → DaOk X.K g.hd F' v d → Qd d n' → Q v H') → m δ n Qd g.W → t σ H Q
def DAs (X : Cx) (g : Gh) (es : List Expr) (m : Me (List Da)) : Prop := ∃ t : TA, PA X es t ∧ ∀ (σ : L2.St) (H F : Hp) (δ : List Ds) (n : Nat) (Q : List V → Hp → Prop) (Qd : Kd (List Da)), g.R X.K F σ H δ n →
  (∀ vs ds F' H' n', RelB g.hd F H F' H' n' → DasOk X.K g.hd F' vs ds → Qd ds n' → Q vs H') → m δ n Qd g.W → t σ H Q
/-- a list of expressions that are data -/
def DEs (X : Cx) (g : Gh) (es : List Expr) (m : Me (List Dt)) : Prop := ∃ t : TA, PA X es t ∧ ∀ (σ : L2.St) (H F : Hp) (δ : List Ds) (n : Nat) (Q : List V → Hp → Prop) (Qd : Kd (List Dt)), g.R X.K F σ H δ n →
  (∀ vs ds F' H' n', RelB g.hd F H F' H' n' → RpAll X.K F' vs ds → Qd ds n' → Q vs H') → m δ n Qd g.W → t σ H Q

section
variable {X : Cx} {g : Gh} {a b c e : Expr} {es : List Expr} {pos : Pos} {ma mb : Me Dt}

/-! ### from one to another -/
theorem DN.dat {m : Me (List Dt)} (h : DN X g e m) : DE X g e (fun δ => bnd (m δ) fun ds => ret (.list ds)) := by
  obtain ⟨t, p, h⟩ := h
  refine ⟨t, p, fun σ H F δ n Q Qd r q w => h σ H F δ n Q _ r (fun a vs ds F' H' n' rb na fa ha hd hq => ?_) w⟩
  have z : ¬ InHd g.hd a := fun i => by
    obtain ⟨o, ho⟩ := r.b.hand.there i
    rw [na] at ho; cases ho
  have rb' := rb.freeze ha fa na z
  exact q _ _ _ _ _ rb' (.lst upd_same (hd.ext' fun x o e => by
    rw [upd_ne (fun y => by rw [y, fa] at e; cases e)]; exact e)) hq
theorem DN.lst {m : Me (List Dt)} (h : DN X g e m) : DL X g e m := by
  obtain ⟨t, p, h⟩ := h
  refine ⟨t, p, fun σ H F δ n Q Qd r q w => h σ H F δ n Q _ r (fun a vs ds F' H' n' rb na fa ha hd hq => q a vs ds F' H' n' rb ha (fun i => ?_) hd hq) w⟩
  obtain ⟨o, ho⟩ := r.b.hand.there i
  rw [na] at ho; cases ho
/-- a datum that is a list, read -/
def asL (d : Dt) : Mv (List Dt) := match d with
  | .list ds => ret ds
  | _ => bad
theorem DE.lst {m : Me Dt} (h : DE X g e m) : DL X g e (fun δ => bnd (m δ) asL) := by
  obtain ⟨t, p, h⟩ := h
  refine ⟨t, p, fun σ H F δ n Q Qd r q w => h σ H F δ n Q _ r (fun v d F' H' n' rb rp hq => ?_) w⟩
  cases d with
  | list ds =>
    cases rp with
    | lst h1 h2 =>
      refine q _ _ _ _ _ _ rb (rb.sub _ _ h1) (fun i => ?_) h2 hq
      rw [rb.hfree _ i] at h1; cases h1
  | _ => exact hq.elim
theorem DE.arg (h : DE X g e ma) : DA1 X g e (fun δ => bnd (ma δ) fun d => ret (.d d)) := by
  obtain ⟨t, p, h⟩ := h
  exact ⟨t, p, fun σ H F δ n Q Qd r q w => h σ H F δ n Q _ r (fun v d F' H' n' rb rp hq => q v (.d d) F' H' n' rb rp hq) w⟩

/-! ### names, constants -/
def sl (i : Nat) : Me Dt := fun δ => match δ[i]? with
  | some (.d x) => ret x
  | _ => bad
theorem de_var (i : Nat) {x : Str} (hN : X.N[i]? = some x := by rfl) (hv : Vis X.env.scope x := by first | exact Or.inl rfl | exact Or.inr (Or.inl rfl) | exact Or.inr (Or.inr rfl)) (hd : (x == ("__debug__" : Str)) = false := by decide)
    (hcd : (x == ("__classdict__" : Str)) = false := by decide) : DE X g (.Name x pos) (sl i) := by
  refine ⟨_, pe_var (i := i) hN hv hd hcd, fun σ H F δ n Q Qd r q w => ?_⟩
  unfold sl at w
  cases e : δ[i]? with
  | none => rw [e] at w; exact w.elim
  | some s =>
    rw [e] at w
    cases s with
    | d x =>
      obtain ⟨v, h1, h2⟩ := r.slot i _ e
      exact ⟨v, h1, q v x F H n r.b.refl h2 w⟩
    | _ => exact w.elim
def slO (i : Nat) : Me (List Dt) := fun δ => match δ[i]? with
  | some (.own xs) => ret xs
  | some (.d (.list xs)) => ret xs
  | _ => bad
theorem dl_var (i : Nat) {x : Str} (hN : X.N[i]? = some x := by rfl) (hv : Vis X.env.scope x := by first | exact Or.inl rfl | exact Or.inr (Or.inl rfl) | exact Or.inr (Or.inr rfl)) (hd : (x == ("__debug__" : Str)) = false := by decide)
    (hcd : (x == ("__classdict__" : Str)) = false := by decide) : DL X g (.Name x pos) (slO i) := by
  refine ⟨_, pe_var (i := i) hN hv hd hcd, fun σ H F δ n Q Qd r q w => ?_⟩
  unfold slO at w
  cases e : δ[i]? with
  | none => rw [e] at w; exact w.elim
  | some s =>
    rw [e] at w
    cases s with
    | own xs =>
      obtain ⟨a, vs, h1, h2, h3, h4, h5, h6⟩ := r.slot i _ e
      exact ⟨_, h1, q a vs xs F H n r.b.refl h5 h4 h6 w⟩
    | d x =>
      cases x with
      | list xs =>
        obtain ⟨v, h1, h2⟩ := r.slot i _ e
        cases h2 with
        | lst h3 h4 =>
          refine ⟨_, h1, q _ _ xs F H n r.b.refl (r.b.sub _ _ h3) (fun i => ?_) h4 w⟩
          rw [r.b.hfree _ i] at h3; cases h3
      | _ => exact w.elim
    | _ => exact w.elim
def slH (i : Nat) : Me Da := fun δ => match δ[i]? with
  | some .hand => ret .hand
  | _ => bad
theorem da_hand (i : Nat) {x : Str} (hN : X.N[i]? = some x := by rfl) (hv : Vis X.env.scope x := by first | exact Or.inl rfl | exact Or.inr (Or.inl rfl) | exact Or.inr (Or.inr rfl)) (hd : (x == ("__debug__" : Str)) = false := by decide)
    (hcd : (x == ("__classdict__" : Str)) = false := by decide) : DA1 X g (.Name x pos) (slH i) := by
  refine ⟨_, pe_var (i := i) hN hv hd hcd, fun σ H F δ n Q Qd r q w => ?_⟩
  unfold slH at w
  cases e : δ[i]? with
  | none => rw [e] at w; exact w.elim
  | some s =>
    rw [e] at w
    cases s with
    | hand =>
      obtain ⟨x, c, h1, h2⟩ := r.slot i _ e
      exact ⟨_, h2, q _ .hand F H n r.b.refl ⟨x, c, h1, rfl⟩ w⟩
    | _ => exact w.elim
/-- a constant -/
theorem de_c {v : V} {d : Dt} (h : PE X e (tC v)) (k : ∀ F, Rp X.K F v d) : DE X g e (fun _ => ret d) :=
  ⟨_, h, fun σ H F δ n Q Qd r q w => q v d F H n r.b.refl (k F) w⟩
theorem de_int {i : Int} {j : Nat} : DE X g (.Constant (.int i) j pos) (fun _ => ret (.int i)) := de_c pe_int fun _ => .int i
theorem de_str {x : Str} {j : Nat} : DE X g (.Constant (.str x) j pos) (fun _ => ret (.str x)) := de_c pe_str fun _ => .str x
theorem de_bl {x : Bool} {j : Nat} : DE X g (.Constant (.bool x) j pos) (fun _ => ret (.bool x)) := de_c pe_bl fun _ => .bl x
theorem de_non {j : Nat} : DE X g (.Constant .none j pos) (fun _ => ret .none) := de_c pe_non fun _ => .non
/-- a module's constant -/
theorem de_gl {x : Str} {v : V} {d : Dt} {u : Value} (hg : Gl X x) (hm : X.mg x = some u) (r : RelV v u) (k : ∀ F, Rp X.K F v d) (hd : (x == ("__debug__" : Str)) = false := by decide) : DE X g (.Name x pos) (fun _ => ret d) :=
  de_c (pe_glob hg hm r hd) k

/-! ### arguments, displays -/
theorem das_nil : DAs X g [] (fun _ => ret []) := ⟨_, pa_nil, fun σ H F δ n Q Qd r q w => q [] [] F H n r.b.refl .nil w⟩
theorem das_cons {m : Me Da} {mr : Me (List Da)} (h : DA1 X g e m) (hr : DAs X g es mr) (hs : starEach (e :: es) X.env = (false, eval e X.env) :: starEach es X.env := by rfl) :
    DAs X g (e :: es) (fun δ => bnd (m δ) fun x => bnd (mr δ) fun xs => ret (x :: xs)) := by
  obtain ⟨t, p, h⟩ := h
  obtain ⟨tr, pr, hr⟩ := hr
  refine ⟨_, pa_cons p pr hs, fun σ H F δ n Q Qd r q w => h σ H F δ n _ _ r (fun v d F1 H1 n1 rb rp hq => ?_) w⟩
  refine hr σ H1 F1 δ n1 _ _ (r.ext rb) (fun vs ds F2 H2 n2 rb2 rp2 hq2 => ?_) hq
  exact q _ _ F2 H2 n2 (rb.trans rb2) (.cons (rp.ext rb2.f0) rp2) hq2
theorem des_nil : DEs X g [] (fun _ => ret []) := ⟨_, pa_nil, fun σ H F δ n Q Qd r q w => q [] [] F H n r.b.refl .nil w⟩
theorem des_cons {m : Me Dt} {mr : Me (List Dt)} (h : DE X g e m) (hr : DEs X g es mr) (hs : starEach (e :: es) X.env = (false, eval e X.env) :: starEach es X.env := by rfl) :
    DEs X g (e :: es) (fun δ => bnd (m δ) fun x => bnd (mr δ) fun xs => ret (x :: xs)) := by
  obtain ⟨t, p, h⟩ := h
  obtain ⟨tr, pr, hr⟩ := hr
  refine ⟨_, pa_cons p pr hs, fun σ H F δ n Q Qd r q w => h σ H F δ n _ _ r (fun v d F1 H1 n1 rb rp hq => ?_) w⟩
  refine hr σ H1 F1 δ n1 _ _ (r.ext rb) (fun vs ds F2 H2 n2 rb2 rp2 hq2 => ?_) hq
  exact q _ _ F2 H2 n2 (rb.trans rb2) (.cons (rp.ext' rb2.f0) rp2) hq2
theorem fresh_ext {F H : Hp} {p : Addr} {o : HO} (s : Same F H) (np : H p = none) : Same F (upd F p o) := fun x u e => by
  rw [upd_ne (fun y => by rw [y] at e; have := s _ _ e; rw [np] at this; cases this)]; exact e
theorem free_of {F H : Hp} {p : Addr} (s : Same F H) (np : H p = none) : F p = none := by
  cases e : F p with
  | none => rfl
  | some u => rw [s p u e] at np; cases np
theorem RelB.old {hd : Hd} {F0 H0 F H : Hp} {n : Nat} {p : Addr} (r : RelB hd F0 H0 F H n) (h0 : ∀ b, InHd hd b → ∃ o, H b = some o) (np : H p = none) : H0 p = none := by
  cases e : H0 p with
  | none => rfl
  | some u =>
    by_cases i : InHd hd p
    · obtain ⟨o, z⟩ := h0 p i; rw [np] at z; cases z
    · rw [r.h0 p u e i] at np; cases np
theorem de_tup {m : Me (List Dt)} {k : Nat} (h : DEs X g es m) : DE X g (.Tuple es k pos) (fun δ => bnd (m δ) fun ds => grd (ds.length ≤ sizeLine) (ret (.tuple ds))) := by
  obtain ⟨t, p, h⟩ := h
  refine ⟨_, pe_tup p, fun σ H F δ n Q Qd r q w => h σ H F δ n _ _ r (fun vs ds F1 H1 n1 rb rp hq => ?_) w⟩
  refine ⟨by rw [rp.length]; exact hq.1, fun p np => ?_⟩
  exact q _ _ _ _ n1 (rb.lay np) (.tup (SqT.of upd_same) (rp.ext' (fresh_ext rb.sub np))) hq.2
theorem dn_lst {m : Me (List Dt)} (h : DEs X g es m) : DN X g (.List es pos) (fun δ => bnd (m δ) fun ds => grd (ds.length ≤ sizeLine) (ret ds)) := by
  obtain ⟨t, p, h⟩ := h
  refine ⟨_, pe_lst p, fun σ H F δ n Q Qd r q w => h σ H F δ n _ _ r (fun vs ds F1 H1 n1 rb rp hq => ?_) w⟩
  refine ⟨by rw [rp.length]; exact hq.1, fun p np => ?_⟩
  exact q p vs ds F1 _ n1 (rb.layH np) (rb.old (fun b i => rb.hand.there i) np) (free_of rb.sub np) upd_same rp hq.2

/-! ### operations by values -/
/-- a two-place operation of data over a rule of the layer -/
def D2 (X : Cx) (g : Gh) (r : R2) (o : Dt → Dt → Mv Dt) : Prop := ∀ (F H : Hp) (n : Nat) (x y : V) (d e : Dt) (Q : VK) (Qd : Kd Dt), RelB g.hd F H F H n → Rp X.K F x d → Rp X.K F y e → o d e n Qd g.W →
  (∀ v d' F' H' n', RelB g.hd F H F' H' n' → Rp X.K F' v d' → Qd d' n' → Q v H') → r x y H Q
def D1 (X : Cx) (g : Gh) (r : V → Hp → VK → Prop) (o : Dt → Mv Dt) : Prop := ∀ (F H : Hp) (n : Nat) (x : V) (d : Dt) (Q : VK) (Qd : Kd Dt), RelB g.hd F H F H n → Rp X.K F x d → o d n Qd g.W →
  (∀ v d' F' H' n', RelB g.hd F H F' H' n' → Rp X.K F' v d' → Qd d' n' → Q v H') → r x H Q
/-- .. of a call's values -/
def DC (X : Cx) (g : Gh) (r : List V → Hp → VK → Prop) (o : List Dt → Mv Dt) : Prop := ∀ (F H : Hp) (n : Nat) (xs : List V) (ds : List Dt) (Q : VK) (Qd : Kd Dt), RelB g.hd F H F H n → RpAll X.K F xs ds → o ds n Qd g.W →
  (∀ v d' F' H' n', RelB g.hd F H F' H' n' → Rp X.K F' v d' → Qd d' n' → Q v H') → r xs H Q
theorem bin2 {r : R2} {o : Dt → Dt → Mv Dt} (k : D2 X g r o) {t u : TE} {σ : L2.St} {H F : Hp} {δ : List Ds} {n : Nat} {Q : VK} {Qd : Kd Dt}
    (ha : ∀ (σ : L2.St) (H F : Hp) (δ : List Ds) (n : Nat) (Q : VK) (Qd : Kd Dt), g.R X.K F σ H δ n → (∀ v d F' H' n', RelB g.hd F H F' H' n' → Rp X.K F' v d → Qd d n' → Q v H') → ma δ n Qd g.W → t σ H Q)
    (hb : ∀ (σ : L2.St) (H F : Hp) (δ : List Ds) (n : Nat) (Q : VK) (Qd : Kd Dt), g.R X.K F σ H δ n → (∀ v d F' H' n', RelB g.hd F H F' H' n' → Rp X.K F' v d → Qd d n' → Q v H') → mb δ n Qd g.W → u σ H Q)
    (R : g.R X.K F σ H δ n) (q : ∀ v d F' H' n', RelB g.hd F H F' H' n' → Rp X.K F' v d → Qd d n' → Q v H') (w : bnd (ma δ) (fun x => bnd (mb δ) fun y => o x y) n Qd g.W) :
    t σ H fun x H1 => u σ H1 fun y H2 => r x y H2 Q := by
  refine ha σ H F δ n _ _ R (fun v d F1 H1 n1 rb rp hq => ?_) w
  refine hb σ H1 F1 δ n1 _ _ (R.ext rb) (fun v2 d2 F2 H2 n2 rb2 rp2 hq2 => ?_) hq
  exact k F2 H2 n2 v v2 d d2 Q Qd (rb2.refl) (rp.ext' rb2.f0) rp2 hq2 fun v' d' F' H' n' r3 p3 q3 => q v' d' F' H' n' ((rb.trans rb2).trans r3) p3 q3
theorem de_op {op : Operator} {r : R2} {o : Dt → Dt → Mv Dt} (ho : OpR X (binaryOp op) r) (k : D2 X g r o) (ha : DE X g a ma) (hb : DE X g b mb) :
    DE X g (.BinOp a op b pos) (fun δ => bnd (ma δ) fun x => bnd (mb δ) fun y => o x y) := by
  obtain ⟨t, p, ha⟩ := ha
  obtain ⟨u, p2, hb⟩ := hb
  exact ⟨_, pe_op ho p p2, fun σ H F δ n Q Qd R q w => bin2 k ha hb R q w⟩
theorem de_cmp {op : CmpOp} {r : R2} {o : Dt → Dt → Mv Dt} (ho : OpR X (compareOp op) r) (k : D2 X g r o) (ha : DE X g a ma) (hb : DE X g b mb) (hm : behindInMarks op b = false) :
    DE X g (.Compare a [op] [b] pos) (fun δ => bnd (ma δ) fun x => bnd (mb δ) fun y => o x y) := by
  obtain ⟨t, p, ha⟩ := ha
  obtain ⟨u, p2, hb⟩ := hb
  exact ⟨_, pe_cmpR ho p p2 hm, fun σ H F δ n Q Qd R q w => bin2 k ha hb R q w⟩
/-- a datum that is a truth -/
def asB (d : Dt) : Mv Bool := match d with
  | .bool b => ret b
  | _ => bad
theorem dt_cmp {op : CmpOp} {r : R2} {o : Dt → Dt → Mv Dt} (ho : OpR X (compareOp op) r) (k : D2 X g r o) (ha : DE X g a ma) (hb : DE X g b mb) (hm : behindInMarks op b = false) :
    DT X g (.Compare a [op] [b] pos) (fun δ => bnd (ma δ) fun x => bnd (mb δ) fun y => bnd (o x y) asB) := by
  obtain ⟨t, p, ha⟩ := ha
  obtain ⟨u, p2, hb⟩ := hb
  refine ⟨_, pt_cmpR ho p p2 hm, fun σ H F δ n Q Qd R q w => bin2 (Qd := fun d n => asB d n Qd g.W) k ha hb R (fun v d F' H' n' rb rp hq => ?_) w⟩
  cases d with
  | bool x => cases rp; exact ⟨x, rfl, q x F' H' n' rb hq⟩
  | _ => exact hq.elim
/-- an expression whose value is a truth, as a test -/
theorem DE.tst (h : DE X g e ma) (he : ∀ whole, isTrue e X.env whole = (do let v ← whole; standAt e.pos; holding [v] (truthy v)) := by intro _; rfl) : DT X g e (fun δ => bnd (ma δ) asB) := by
  obtain ⟨t, p, h⟩ := h
  refine ⟨_, pt_val p he, fun σ H F δ n Q Qd R q w => h σ H F δ n _ _ R (fun v d F' H' n' rb rp hq => ?_) w⟩
  cases d with
  | bool x => cases rp; exact ⟨x, rfl, q x F' H' n' rb hq⟩
  | _ => exact hq.elim

/-! ### and, or, not, if -/
variable {mt mu : Me Bool} {rest : List Expr}
theorem dt_not (h : DT X g a mt) : DT X g (.UnaryOp .Not a pos) (fun δ => bnd (mt δ) fun c => ret (!c)) := by
  obtain ⟨t, p, h⟩ := h
  exact ⟨_, pt_not p, fun σ H F δ n Q Qd R q w => h σ H F δ n _ _ R (fun c F' H' n' rb hq => q _ F' H' n' rb hq) w⟩
/-- a chain of and, or as a test -/
def DW (X : Cx) (g : Gh) (e : Expr) (m : Me Bool) : Prop := ∃ t : TT, PW X e t ∧ ∀ (σ : L2.St) (H F : Hp) (δ : List Ds) (n : Nat) (Q : Bool → Hp → Prop) (Qd : Kd Bool), g.R X.K F σ H δ n →
  (∀ b F' H' n', RelB g.hd F H F' H' n' → Qd b n' → Q b H') → m δ n Qd g.W → t σ H Q
theorem DW.tst (h : DW X g e mt) : DT X g e mt := by
  obtain ⟨t, p, h⟩ := h
  exact ⟨t, p.pt, h⟩
theorem dw_and1 (h : DT X g a mt) : DW X g (.BoolOp .And [a] pos) mt := by
  obtain ⟨t, p, h⟩ := h
  exact ⟨_, pw_and1 p, h⟩
theorem dw_or1 (h : DT X g a mt) : DW X g (.BoolOp .Or [a] pos) mt := by
  obtain ⟨t, p, h⟩ := h
  exact ⟨_, pw_or1 p, h⟩
def both (x y : Mv Bool) : Mv Bool := bnd x fun c => if c then y else ret false
def either (x y : Mv Bool) : Mv Bool := bnd x fun c => if c then ret true else y
theorem both_ret (x : Bool) (y : Mv Bool) : both (ret x) y = if x then y else ret false := rfl
theorem either_ret (x : Bool) (y : Mv Bool) : either (ret x) y = if x then ret true else y := rfl
theorem dw_and (ha : DT X g a mt) (hb : DW X g (.BoolOp .And (b :: rest) pos) mu) : DW X g (.BoolOp .And (a :: b :: rest) pos) (fun δ => both (mt δ) (mu δ)) := by
  obtain ⟨t, p, ha⟩ := ha
  obtain ⟨u, p2, hb⟩ := hb
  refine ⟨_, pw_and p p2, fun σ H F δ n Q Qd R q w => ha σ H F δ n _ _ R (fun c F' H' n' rb hq => ?_) w⟩
  cases c with
  | true => exact hb σ H' F' δ n' _ _ (R.ext rb) (fun c2 F2 H2 n2 rb2 hq2 => q c2 F2 H2 n2 (rb.trans rb2) hq2) hq
  | false => exact q false F' H' n' rb hq
theorem dw_or (ha : DT X g a mt) (hb : DW X g (.BoolOp .Or (b :: rest) pos) mu) : DW X g (.BoolOp .Or (a :: b :: rest) pos) (fun δ => either (mt δ) (mu δ)) := by
  obtain ⟨t, p, ha⟩ := ha
  obtain ⟨u, p2, hb⟩ := hb
  refine ⟨_, pw_or p p2, fun σ H F δ n Q Qd R q w => ha σ H F δ n _ _ R (fun c F' H' n' rb hq => ?_) w⟩
  cases c with
  | true => exact q true F' H' n' rb hq
  | false => exact hb σ H' F' δ n' _ _ (R.ext rb) (fun c2 F2 H2 n2 rb2 hq2 => q c2 F2 H2 n2 (rb.trans rb2) hq2) hq
/-- .. as values, all but the last truths -/
def bothD (x y : Mv Dt) : Mv Dt := bnd (bnd x asB) fun c => if c then y else ret (.bool false)
def eitherD (x y : Mv Dt) : Mv Dt := bnd (bnd x asB) fun c => if c then ret (.bool true) else y
theorem de_one {op : BoolOp} (h : DE X g a ma) : DE X g (.BoolOp op [a] pos) ma := by
  obtain ⟨t, p, h⟩ := h
  exact ⟨_, pe_one p, h⟩
theorem de_and (ha : DE X g a ma) (hb : DE X g (.BoolOp .And (b :: rest) pos) mb) : DE X g (.BoolOp .And (a :: b :: rest) pos) (fun δ => bothD (ma δ) (mb δ)) := by
  obtain ⟨t, p, ha⟩ := ha
  obtain ⟨u, p2, hb⟩ := hb
  refine ⟨_, pe_and p p2, fun σ H F δ n Q Qd R q w => ha σ H F δ n _ _ R (fun v d F' H' n' rb rp hq => ?_) w⟩
  cases d with
  | bool c =>
    cases rp
    refine ⟨c, rfl, ?_⟩
    cases c with
    | true => exact hb σ H' F' δ n' _ _ (R.ext rb) (fun v2 d2 F2 H2 n2 rb2 rp2 hq2 => q v2 d2 F2 H2 n2 (rb.trans rb2) rp2 hq2) hq
    | false => exact q _ _ F' H' n' rb (.bl false) hq
  | _ => exact hq.elim
theorem de_or (ha : DE X g a ma) (hb : DE X g (.BoolOp .Or (b :: rest) pos) mb) : DE X g (.BoolOp .Or (a :: b :: rest) pos) (fun δ => eitherD (ma δ) (mb δ)) := by
  obtain ⟨t, p, ha⟩ := ha
  obtain ⟨u, p2, hb⟩ := hb
  refine ⟨_, pe_or p p2, fun σ H F δ n Q Qd R q w => ha σ H F δ n _ _ R (fun v d F' H' n' rb rp hq => ?_) w⟩
  cases d with
  | bool c =>
    cases rp
    refine ⟨c, rfl, ?_⟩
    cases c with
    | true => exact q _ _ F' H' n' rb (.bl true) hq
    | false => exact hb σ H' F' δ n' _ _ (R.ext rb) (fun v2 d2 F2 H2 n2 rb2 rp2 hq2 => q v2 d2 F2 H2 n2 (rb.trans rb2) rp2 hq2) hq
  | _ => exact hq.elim
theorem de_not (ha : DE X g a ma) : DE X g (.UnaryOp .Not a pos) (fun δ => bnd (bnd (ma δ) asB) fun c => ret (.bool (!c))) := by
  obtain ⟨t, p, ha⟩ := ha
  refine ⟨_, pe_not p, fun σ H F δ n Q Qd R q w => ha σ H F δ n _ _ R (fun v d F' H' n' rb rp hq => ?_) w⟩
  cases d with
  | bool c => cases rp; exact ⟨c, rfl, q _ _ F' H' n' rb (.bl _) hq⟩
  | _ => exact hq.elim
def choose {α : Type} (c : Mv Bool) (x y : Mv α) : Mv α := bnd c fun b => if b then x else y
theorem choose_ret {α : Type} (c : Bool) (x y : Mv α) : choose (ret c) x y = if c then x else y := rfl
theorem de_if (hc : DT X g c mt) (ha : DE X g a ma) (hb : DE X g b mb) : DE X g (.IfExp c a b pos) (fun δ => choose (mt δ) (ma δ) (mb δ)) := by
  obtain ⟨t0, p0, hc⟩ := hc
  obtain ⟨t, p, ha⟩ := ha
  obtain ⟨u, p2, hb⟩ := hb
  refine ⟨_, pe_ifExp p0 p p2, fun σ H F δ n Q Qd R q w => hc σ H F δ n _ _ R (fun c F' H' n' rb hq => ?_) w⟩
  cases c with
  | true => exact ha σ H' F' δ n' _ _ (R.ext rb) (fun v2 d2 F2 H2 n2 rb2 rp2 hq2 => q v2 d2 F2 H2 n2 (rb.trans rb2) rp2 hq2) hq
  | false => exact hb σ H' F' δ n' _ _ (R.ext rb) (fun v2 d2 F2 H2 n2 rb2 rp2 hq2 => q v2 d2 F2 H2 n2 (rb.trans rb2) rp2 hq2) hq

/-! ### built-ins by their values -/
theorem de_callB {x : Str} {p : Pos} {id : String} {r : List V → Hp → VK → Prop} {o : List Dt → Mv Dt} {m : Me (List Dt)} (hc : CallR X (.builtin id) r) (k : DC X g r o) (hg : Gl X x) (hm : X.mg x = none) (hv : bootBuiltins x = some (.builtin id)) (ha : DEs X g (e :: es) m)
    (hn : x ≠ "__name__" := by decide) (hdb : (x == ("__debug__" : Str)) = false := by decide) (he : starEach (e :: es) X.env = (false, eval e X.env) :: starEach es X.env := by rfl) (hpl : (backTo pos (starEach es X.env)).any (·.1) = false := by rfl) :
    DE X g (.Call (.Name x p) (e :: es) [] pos) (fun δ => bnd (m δ) o) := by
  obtain ⟨t, pt, ha⟩ := ha
  refine ⟨_, pe_callB hc hg hm hv pt hn hdb he hpl, fun σ H F δ n Q Qd R q w => ha σ H F δ n _ _ R (fun vs ds F1 H1 n1 rb rp hq => ?_) w⟩
  exact k F1 H1 n1 vs ds Q Qd rb.refl rp hq fun v d F' H' n' r3 p3 q3 => q v d F' H' n' (rb.trans r3) p3 q3
theorem de_callT {x : Str} {p : Pos} {T : String} {r : List V → Hp → VK → Prop} {o : List Dt → Mv Dt} {m : Me (List Dt)} (hc : CallR X (.type T) r) (k : DC X g r o) (hg : Gl X x) (hm : X.mg x = none) (hv : bootBuiltins x = some (.type T)) (ha : DEs X g (e :: es) m)
    (hn : x ≠ "__name__" := by decide) (hdb : (x == ("__debug__" : Str)) = false := by decide) (he : starEach (e :: es) X.env = (false, eval e X.env) :: starEach es X.env := by rfl) (hpl : (backTo pos (starEach es X.env)).any (·.1) = false := by rfl) :
    DE X g (.Call (.Name x p) (e :: es) [] pos) (fun δ => bnd (m δ) o) := by
  obtain ⟨t, pt, ha⟩ := ha
  refine ⟨_, pe_callTy hc hg hm hv pt hn hdb he hpl, fun σ H F δ n Q Qd R q w => ha σ H F δ n _ _ R (fun vs ds F1 H1 n1 rb rp hq => ?_) w⟩
  exact k F1 H1 n1 vs ds Q Qd rb.refl rp hq fun v d F' H' n' r3 p3 q3 => q v d F' H' n' (rb.trans r3) p3 q3
end
end Dl
namespace Dl
open PySem PySem.Spec L2

/-! ### a datum that can be read now: frozen, or one list whose items are -/
def RpX (K : PySem.W.Frag) (hd : Hd) (F H : Hp) (v : V) (d : Dt) : Prop :=
  Rp K F v d ∨ ∃ (a : Addr) (vs : List V) (ds : List Dt), v = .ref a ∧ d = .list ds ∧ H a = some (.lst vs) ∧ ¬ InHd hd a ∧ RpAll K F vs ds
inductive RpXs (K : PySem.W.Frag) (hd : Hd) (F H : Hp) : List V → List Dt → Prop
  | nil : RpXs K hd F H [] []
  | cons {v : V} {vs : List V} {d : Dt} {ds : List Dt} : RpX K hd F H v d → RpXs K hd F H vs ds → RpXs K hd F H (v :: vs) (d :: ds)
section
variable {K : PySem.W.Frag} {hd : Hd} {F H F' H' : Hp} {n : Nat}
theorem RpX.ext {v : V} {d : Dt} (h : RpX K hd F H v d) (r : RelB hd F H F' H' n) : RpX K hd F' H' v d := by
  rcases h with h | ⟨a, vs, ds, e1, e2, h1, h2, h3⟩
  · exact .inl (h.ext' r.f0)
  · exact .inr ⟨a, vs, ds, e1, e2, r.h0 _ _ h1 h2, h2, h3.ext' r.f0⟩
theorem RpXs.ext (r : RelB hd F H F' H' n) : ∀ {vs : List V} {ds : List Dt}, RpXs K hd F H vs ds → RpXs K hd F' H' vs ds
  | _, _, .nil => .nil
  | _, _, .cons h t => .cons (h.ext r) (t.ext r)
theorem RpX.now {v : V} {d : Dt} (h : RpX K hd F H v d) (s : Same F H) : Rp K H v d := by
  rcases h with h | ⟨a, vs, ds, rfl, rfl, h1, h2, h3⟩
  · exact h.ext' s
  · exact .lst h1 (h3.ext' s)
theorem RpXs.now (s : Same F H) : ∀ {vs : List V} {ds : List Dt}, RpXs K hd F H vs ds → RpAll K H vs ds
  | _, _, .nil => .nil
  | _, _, .cons h t => .cons (h.now s) (t.now s)
end
def DX (X : Cx) (g : Gh) (e : Expr) (m : Me Dt) : Prop := ∃ t : TE, PE X e t ∧ ∀ (σ : L2.St) (H F : Hp) (δ : List Ds) (n : Nat) (Q : VK) (Qd : Kd Dt), g.R X.K F σ H δ n →
  (∀ v d F' H' n', RelB g.hd F H F' H' n' → RpX X.K g.hd F' H' v d → Qd d n' → Q v H') → m δ n Qd g.W → t σ H Q
def DXs (X : Cx) (g : Gh) (es : List Expr) (m : Me (List Dt)) : Prop := ∃ t : TA, PA X es t ∧ ∀ (σ : L2.St) (H F : Hp) (δ : List Ds) (n : Nat) (Q : List V → Hp → Prop) (Qd : Kd (List Dt)), g.R X.K F σ H δ n →
  (∀ vs ds F' H' n', RelB g.hd F H F' H' n' → RpXs X.K g.hd F' H' vs ds → Qd ds n' → Q vs H') → m δ n Qd g.W → t σ H Q
/-- a scalar: it stands anywhere -/
def Sc (K : PySem.W.Frag) (v : V) (d : Dt) : Prop := ∀ F, Rp K F v d
/-- two-place, one-place, many-place operations that read and hand back a scalar, or a frozen part of what they read -/
def X2 (X : Cx) (r : R2) (o : Dt → Dt → Mv Dt) : Prop := ∀ (H : Hp) (n : Nat) (x y : V) (d e : Dt) (Q : VK) (Qd : Kd Dt) (W : Wx), Rp X.K H x d → Rp X.K H y e → o d e n Qd W → (∀ v d', Sc X.K v d' → Qd d' n → Q v H) → r x y H Q
def XC (X : Cx) (r : List V → Hp → VK → Prop) (o : List Dt → Mv Dt) : Prop := ∀ (H : Hp) (n : Nat) (xs : List V) (ds : List Dt) (Q : VK) (Qd : Kd Dt) (W : Wx), RpAll X.K H xs ds → o ds n Qd W → (∀ v d', Sc X.K v d' → Qd d' n → Q v H) → r xs H Q

section
variable {X : Cx} {g : Gh} {a b c e : Expr} {es : List Expr} {pos : Pos} {ma mb mc : Me Dt}
theorem DE.now (h : DE X g e ma) : DX X g e ma := by
  obtain ⟨t, p, h⟩ := h
  exact ⟨t, p, fun σ H F δ n Q Qd r q w => h σ H F δ n Q _ r (fun v d F' H' n' rb rp hq => q v d F' H' n' rb (.inl rp) hq) w⟩
theorem DL.now {m : Me (List Dt)} (h : DL X g e m) : DX X g e (fun δ => bnd (m δ) fun ds => ret (.list ds)) := by
  obtain ⟨t, p, h⟩ := h
  exact ⟨t, p, fun σ H F δ n Q Qd r q w => h σ H F δ n Q _ r (fun a vs ds F' H' n' rb h1 h2 rp hq => q _ (.list ds) F' H' n' rb (.inr ⟨a, vs, ds, rfl, rfl, h1, h2, rp⟩) hq) w⟩
/-- a name, whatever it holds -/
def slX (i : Nat) : Me Dt := fun δ => match δ[i]? with
  | some (.d x) => ret x
  | some (.own xs) => ret (.list xs)
  | _ => bad
theorem dx_var (i : Nat) {x : Str} (hN : X.N[i]? = some x := by rfl) (hv : Vis X.env.scope x := by first | exact Or.inl rfl | exact Or.inr (Or.inl rfl) | exact Or.inr (Or.inr rfl)) (hd : (x == ("__debug__" : Str)) = false := by decide)
    (hcd : (x == ("__classdict__" : Str)) = false := by decide) : DX X g (.Name x pos) (slX i) := by
  refine ⟨_, pe_var (i := i) hN hv hd hcd, fun σ H F δ n Q Qd r q w => ?_⟩
  unfold slX at w
  cases e : δ[i]? with
  | none => rw [e] at w; exact w.elim
  | some s =>
    rw [e] at w
    cases s with
    | d x =>
      obtain ⟨v, h1, h2⟩ := r.slot i _ e
      exact ⟨v, h1, q v x F H n r.b.refl (.inl h2) w⟩
    | own xs =>
      obtain ⟨a, vs, h1, h2, h3, h4, h5, h6⟩ := r.slot i _ e
      exact ⟨_, h1, q _ (.list xs) F H n r.b.refl (.inr ⟨a, vs, xs, rfl, rfl, h5, h4, h6⟩) w⟩
    | _ => exact w.elim
theorem dxs_nil : DXs X g [] (fun _ => ret []) := ⟨_, pa_nil, fun σ H F δ n Q Qd r q w => q [] [] F H n r.b.refl .nil w⟩
theorem dxs_cons {mr : Me (List Dt)} (h : DX X g e ma) (hr : DXs X g es mr) (hs : starEach (e :: es) X.env = (false, eval e X.env) :: starEach es X.env := by rfl) :
    DXs X g (e :: es) (fun δ => bnd (ma δ) fun x => bnd (mr δ) fun xs => ret (x :: xs)) := by
  obtain ⟨t, p, h⟩ := h
  obtain ⟨tr, pr, hr⟩ := hr
  refine ⟨_, pa_cons p pr hs, fun σ H F δ n Q Qd r q w => h σ H F δ n _ _ r (fun v d F1 H1 n1 rb rp hq => ?_) w⟩
  refine hr σ H1 F1 δ n1 _ _ (r.ext rb) (fun vs ds F2 H2 n2 rb2 rp2 hq2 => ?_) hq
  exact q _ _ F2 H2 n2 (rb.trans rb2) (.cons (rp.ext rb2) rp2) hq2
theorem binX {r : R2} {o : Dt → Dt → Mv Dt} (k : X2 X r o) {t u : TE} {σ : L2.St} {H F : Hp} {δ : List Ds} {n : Nat} {Q : VK} {Qd : Kd Dt}
    (ha : ∀ (σ : L2.St) (H F : Hp) (δ : List Ds) (n : Nat) (Q : VK) (Qd : Kd Dt), g.R X.K F σ H δ n → (∀ v d F' H' n', RelB g.hd F H F' H' n' → RpX X.K g.hd F' H' v d → Qd d n' → Q v H') → ma δ n Qd g.W → t σ H Q)
    (hb : ∀ (σ : L2.St) (H F : Hp) (δ : List Ds) (n : Nat) (Q : VK) (Qd : Kd Dt), g.R X.K F σ H δ n → (∀ v d F' H' n', RelB g.hd F H F' H' n' → RpX X.K g.hd F' H' v d → Qd d n' → Q v H') → mb δ n Qd g.W → u σ H Q)
    (R : g.R X.K F σ H δ n) (q : ∀ v d F' H' n', RelB g.hd F H F' H' n' → Sc X.K v d → Qd d n' → Q v H') (w : bnd (ma δ) (fun x => bnd (mb δ) fun y => o x y) n Qd g.W) :
    t σ H fun x H1 => u σ H1 fun y H2 => r x y H2 Q := by
  refine ha σ H F δ n _ _ R (fun v d F1 H1 n1 rb rp hq => ?_) w
  refine hb σ H1 F1 δ n1 _ _ (R.ext rb) (fun v2 d2 F2 H2 n2 rb2 rp2 hq2 => ?_) hq
  exact k H2 n2 v v2 d d2 Q Qd g.W ((rp.ext rb2).now rb2.sub) (rp2.now rb2.sub) hq2 fun v' d' s3 q3 => q v' d' F2 H2 n2 (rb.trans rb2) s3 q3
theorem de_cmpX {op : CmpOp} {r : R2} {o : Dt → Dt → Mv Dt} (ho : OpR X (compareOp op) r) (k : X2 X r o) (ha : DX X g a ma) (hb : DX X g b mb) (hm : behindInMarks op b = false) :
    DE X g (.Compare a [op] [b] pos) (fun δ => bnd (ma δ) fun x => bnd (mb δ) fun y => o x y) := by
  obtain ⟨t, p, ha⟩ := ha
  obtain ⟨u, p2, hb⟩ := hb
  exact ⟨_, pe_cmpR ho p p2 hm, fun σ H F δ n Q Qd R q w => binX k ha hb R (fun v d F' H' n' rb s hq => q v d F' H' n' rb (s F') hq) w⟩
theorem dt_cmpX {op : CmpOp} {r : R2} {o : Dt → Dt → Mv Dt} (ho : OpR X (compareOp op) r) (k : X2 X r o) (ha : DX X g a ma) (hb : DX X g b mb) (hm : behindInMarks op b = false) :
    DT X g (.Compare a [op] [b] pos) (fun δ => bnd (ma δ) fun x => bnd (mb δ) fun y => bnd (o x y) asB) := by
  obtain ⟨t, p, ha⟩ := ha
  obtain ⟨u, p2, hb⟩ := hb
  refine ⟨_, pt_cmpR ho p p2 hm, fun σ H F δ n Q Qd R q w => binX (Qd := fun d n => asB d n Qd g.W) k ha hb R (fun v d F' H' n' rb s hq => ?_) w⟩
  cases d with
  | bool x =>
    have z := s F'
    cases z
    exact ⟨x, rfl, q x F' H' n' rb hq⟩
  | _ => exact hq.elim
/-- a op1 b op2 c -/
theorem dt_chain {op op' : CmpOp} {r r' : R2} {o o' : Dt → Dt → Mv Dt} (ho : OpR X (compareOp op) r) (ho' : OpR X (compareOp op') r') (k : X2 X r o) (k' : X2 X r' o') (ha : DX X g a ma) (hb : DX X g b mb) (hc : DX X g c mc)
    (hm : lastMarks [op, op'] [b, c] = false := by with_unfolding_all rfl) :
    DT X g (.Compare a [op, op'] [b, c] pos) (fun δ => bnd (ma δ) fun x => bnd (mb δ) fun y => bnd (bnd (o x y) asB) fun t => if t then bnd (mc δ) fun z => bnd (o' y z) asB else ret false) := by
  obtain ⟨t, p, ha⟩ := ha
  obtain ⟨u, p2, hb⟩ := hb
  obtain ⟨v, p3, hc⟩ := hc
  refine ⟨_, pt_chain ho ho' p p2 p3 hm, fun σ H F δ n Q Qd R q w => ?_⟩
  refine ha σ H F δ n _ _ R (fun v1 d1 F1 H1 n1 rb1 rp1 hq => ?_) w
  refine hb σ H1 F1 δ n1 _ _ (R.ext rb1) (fun v2 d2 F2 H2 n2 rb2 rp2 hq2 => ?_) hq
  refine k H2 n2 v1 v2 d1 d2 _ (fun d n => asB d n (fun t n => (if t then bnd (mc δ) fun z => bnd (o' d2 z) asB else ret false : Mv Bool) n Qd g.W) g.W) g.W ((rp1.ext rb2).now rb2.sub) (rp2.now rb2.sub) hq2 fun w' d' s' hq3 => ?_
  cases d' with
  | bool x =>
    have z := s' F2
    cases z
    refine ⟨x, rfl, ?_⟩
    cases x with
    | true =>
      rw [if_pos rfl]
      refine hc σ H2 F2 δ n2 _ _ ((R.ext rb1).ext rb2) (fun v3 d3 F3 H3 n3 rb3 rp3 hq4 => ?_) hq3
      refine k' H3 n3 v2 v3 d2 d3 _ (fun d n => asB d n Qd g.W) g.W ((rp2.ext rb3).now rb3.sub) (rp3.now rb3.sub) hq4 fun w4 d4 s4 hq5 => ?_
      cases d4 with
      | bool y =>
        have z := s4 F3
        cases z
        exact ⟨y, rfl, q y F3 H3 n3 ((rb1.trans rb2).trans rb3) hq5⟩
      | _ => exact hq5.elim
    | false =>
      rw [if_neg Bool.false_ne_true]
      exact ⟨false, rfl, q false F2 H2 n2 (rb1.trans rb2) hq3⟩
  | _ => exact hq3.elim
theorem de_chain {op op' : CmpOp} {r r' : R2} {o o' : Dt → Dt → Mv Dt} (ho : OpR X (compareOp op) r) (ho' : OpR X (compareOp op') r') (k : X2 X r o) (k' : X2 X r' o') (ha : DX X g a ma) (hb : DX X g b mb) (hc : DX X g c mc)
    (hm : lastMarks [op, op'] [b, c] = false := by with_unfolding_all rfl) :
    DE X g (.Compare a [op, op'] [b, c] pos) (fun δ => bnd (ma δ) fun x => bnd (mb δ) fun y => bnd (bnd (o x y) asB) fun t => if t then bnd (mc δ) fun z => o' y z else ret (.bool false)) := by
  obtain ⟨t, p, ha⟩ := ha
  obtain ⟨u, p2, hb⟩ := hb
  obtain ⟨v, p3, hc⟩ := hc
  refine ⟨_, pe_chain ho ho' p p2 p3 hm, fun σ H F δ n Q Qd R q w => ?_⟩
  refine ha σ H F δ n _ _ R (fun v1 d1 F1 H1 n1 rb1 rp1 hq => ?_) w
  refine hb σ H1 F1 δ n1 _ _ (R.ext rb1) (fun v2 d2 F2 H2 n2 rb2 rp2 hq2 => ?_) hq
  refine k H2 n2 v1 v2 d1 d2 _ (fun d n => asB d n (fun t n => (if t then bnd (mc δ) fun z => o' d2 z else ret (.bool false) : Mv Dt) n Qd g.W) g.W) g.W ((rp1.ext rb2).now rb2.sub) (rp2.now rb2.sub) hq2 fun w' d' s' hq3 => ?_
  cases d' with
  | bool x =>
    have z := s' F2
    cases z
    refine ⟨x, rfl, ?_⟩
    cases x with
    | true =>
      rw [if_pos rfl]
      refine hc σ H2 F2 δ n2 _ _ ((R.ext rb1).ext rb2) (fun v3 d3 F3 H3 n3 rb3 rp3 hq4 => ?_) hq3
      exact k' H3 n3 v2 v3 d2 d3 _ Qd g.W ((rp2.ext rb3).now rb3.sub) (rp3.now rb3.sub) hq4 fun w4 d4 s4 hq5 => q w4 d4 F3 H3 n3 ((rb1.trans rb2).trans rb3) (s4 F3) hq5
    | false =>
      rw [if_neg Bool.false_ne_true]
      exact q _ _ F2 H2 n2 (rb1.trans rb2) (.bl false) hq3
  | _ => exact hq3.elim
theorem de_callX {x : Str} {p : Pos} {id : String} {r : List V → Hp → VK → Prop} {o : List Dt → Mv Dt} {m : Me (List Dt)} (hc : CallR X (.builtin id) r) (k : XC X r o) (hg : Gl X x) (hm : X.mg x = none) (hv : bootBuiltins x = some (.builtin id)) (ha : DXs X g (e :: es) m)
    (hn : x ≠ "__name__" := by decide) (hdb : (x == ("__debug__" : Str)) = false := by decide) (he : starEach (e :: es) X.env = (false, eval e X.env) :: starEach es X.env := by rfl) (hpl : (backTo pos (starEach es X.env)).any (·.1) = false := by rfl) :
    DE X g (.Call (.Name x p) (e :: es) [] pos) (fun δ => bnd (m δ) o) := by
  obtain ⟨t, pt, ha⟩ := ha
  refine ⟨_, pe_callB hc hg hm hv pt hn hdb he hpl, fun σ H F δ n Q Qd R q w => ha σ H F δ n _ _ R (fun vs ds F1 H1 n1 rb rp hq => ?_) w⟩
  exact k H1 n1 vs ds Q Qd g.W (rp.now rb.sub) hq fun v d s q3 => q v d F1 H1 n1 rb (s F1) q3
theorem de_callXT {x : Str} {p : Pos} {T : String} {r : List V → Hp → VK → Prop} {o : List Dt → Mv Dt} {m : Me (List Dt)} (hc : CallR X (.type T) r) (k : XC X r o) (hg : Gl X x) (hm : X.mg x = none) (hv : bootBuiltins x = some (.type T)) (ha : DXs X g (e :: es) m)
    (hn : x ≠ "__name__" := by decide) (hdb : (x == ("__debug__" : Str)) = false := by decide) (he : starEach (e :: es) X.env = (false, eval e X.env) :: starEach es X.env := by rfl) (hpl : (backTo pos (starEach es X.env)).any (·.1) = false := by rfl) :
    DE X g (.Call (.Name x p) (e :: es) [] pos) (fun δ => bnd (m δ) o) := by
  obtain ⟨t, pt, ha⟩ := ha
  refine ⟨_, pe_callTy hc hg hm hv pt hn hdb he hpl, fun σ H F δ n Q Qd R q w => ha σ H F δ n _ _ R (fun vs ds F1 H1 n1 rb rp hq => ?_) w⟩
  exact k H1 n1 vs ds Q Qd g.W (rp.now rb.sub) hq fun v d s q3 => q v d F1 H1 n1 rb (s F1) q3
end

/-! ### the operations -/
section
variable {X : Cx} {g : Gh}
/-- whole numbers -/
def oI (C : Int → Int → Prop) (f : Int → Int → Int) (d e : Dt) : Mv Dt := match d, e with
  | .int i, .int j => grd (C i j) (ret (.int (f i j)))
  | _, _ => bad
def oC (f : Int → Int → Bool) (d e : Dt) : Mv Dt := match d, e with
  | .int i, .int j => ret (.bool (f i j))
  | _, _ => bad
theorem x2_int {C : Int → Int → Prop} {f : Int → Int → Int} : X2 X (rI C fun i j => .int (f i j)) (oI C f) := by
  intro H n x y d e Q Qd W hx hy w q
  cases d <;> cases e <;> first | exact w.elim | skip
  cases hx; cases hy
  exact ⟨_, _, rfl, rfl, w.1, q _ _ (fun _ => .int _) w.2⟩
theorem x2_int0 {f : Int → Int → Int} : X2 X (rI0 fun i j => .int (f i j)) (oI (fun _ _ => True) f) := by
  intro H n x y d e Q Qd W hx hy w q
  cases d <;> cases e <;> first | exact w.elim | skip
  cases hx; cases hy
  exact ⟨_, _, rfl, rfl, q _ _ (fun _ => .int _) w.2⟩
theorem x2_cmp {f : Int → Int → Bool} : X2 X (rI0 fun i j => .bl (f i j)) (oC f) := by
  intro H n x y d e Q Qd W hx hy w q
  cases d <;> cases e <;> first | exact w.elim | skip
  cases hx; cases hy
  exact ⟨_, _, rfl, rfl, q _ _ (fun _ => .bl _) w⟩
theorem D2.of {r : R2} {o : Dt → Dt → Mv Dt} (k : X2 X r o) : D2 X g r o := fun F H n x y d e Q Qd rb hx hy w q =>
  k H n x y d e Q Qd g.W (hx.ext' rb.sub) (hy.ext' rb.sub) w fun v d' s hq => q v d' F H n rb (s F) hq
theorem DC.of {r : List V → Hp → VK → Prop} {o : List Dt → Mv Dt} (k : XC X r o) : DC X g r o := fun F H n xs ds Q Qd rb hx w q =>
  k H n xs ds Q Qd g.W (hx.ext' rb.sub) w fun v d' s hq => q v d' F H n rb (s F) hq
theorem D2.or {r r' : R2} {o o' : Dt → Dt → Mv Dt} (k : D2 X g r o) (k' : D2 X g r' o') : D2 X g (fun x y H Q => r x y H Q ∨ r' x y H Q) (fun d e n Q W => o d e n Q W ∨ o' d e n Q W) := fun F H n x y d e Q Qd rb hx hy w q => by
  rcases w with w | w
  · exact .inl (k F H n x y d e Q Qd rb hx hy w q)
  · exact .inr (k' F H n x y d e Q Qd rb hx hy w q)

/-- x + y: numbers, texts, tuples -/
def oAdd (d e : Dt) : Mv Dt := match d, e with
  | .int i, .int j => ret (.int (i + j))
  | .str x, .str y => grd (x.length + y.length ≤ sizeLine) (ret (.str (x ++ y)))
  | .tuple xs, .tuple ys => grd (xs.length + ys.length ≤ sizeLine) (ret (.tuple (xs ++ ys)))
  | _, _ => bad
def rAddA (K : PySem.W.Frag) : R2 := fun x y H Q => rI0 (fun i j => .int (i + j)) x y H Q ∨ (∃ i j, x = .str i ∧ y = .str j ∧ i.length + j.length ≤ sizeLine ∧ Q (.str (i ++ j)) H) ∨ rCatA K x y H Q
theorem op_addA : OpR X (binaryOp .Add) (rAddA X.K) := op_add.or (op_add_str.or op_catA)
theorem d2_add : D2 X g (rAddA X.K) oAdd := by
  intro F H n x y d e Q Qd rb hx hy w q
  cases d <;> cases e <;> first | exact w.elim | skip
  · cases hx; cases hy
    exact .inl ⟨_, _, rfl, rfl, q _ _ F H n rb (.int _) w⟩
  · cases hx; cases hy
    exact .inr (.inl ⟨_, _, rfl, rfl, w.1, q _ _ F H n rb (.str _) w.2⟩)
  · cases hx with
    | tup h1 h2 =>
      cases hy with
      | tup h3 h4 =>
        refine .inr (.inr ⟨_, _, _, _, rfl, rfl, sqT_ext rb.sub h1, sqT_ext rb.sub h3, by rw [h2.length, h4.length]; exact w.1, fun z => ?_, fun z z2 => ?_, fun z z2 p np => ?_⟩)
        · subst z
          cases h2
          exact q _ _ F H n rb (.tup h3 h4) w.2
        · subst z2
          cases h4
          exact q _ _ F H n rb (.tup h1 (by rw [List.append_nil]; exact h2)) w.2
        · exact q _ _ _ _ n (rb.lay np) (.tup (SqT.of upd_same) ((h2.app h4).ext' (fresh_ext rb.sub np))) w.2
theorem de_add {a b : Expr} {pos : Pos} {ma mb : Me Dt} (ha : DE X g a ma) (hb : DE X g b mb) : DE X g (.BinOp a .Add b pos) (fun δ => bnd (ma δ) fun x => bnd (mb δ) fun y => oAdd x y) := de_op op_addA d2_add ha hb
theorem de_sub {a b : Expr} {pos : Pos} {ma mb : Me Dt} (ha : DE X g a ma) (hb : DE X g b mb) : DE X g (.BinOp a .Sub b pos) (fun δ => bnd (ma δ) fun x => bnd (mb δ) fun y => oI (fun _ _ => True) (fun i j => i - j) x y) := de_op op_sub (.of x2_int0) ha hb
/-- x * y: numbers, a text or a tuple by a number -/
def repT (xs : List Dt) (k : Int) : List Dt := (List.replicate k.toNat xs).flatten
def oMul (d e : Dt) : Mv Dt := match d, e with
  | .int i, .int j => grd (CMul i j) (ret (.int (i * j)))
  | .str x, .int k => grd (MulOk x k) (ret (.str (Txt.mul x k)))
  | .tuple xs, .int k => grd (xs ≠ [] ∧ 2 ≤ k ∧ k ≤ 1000 ∧ xs.length ≤ 1000) (ret (.tuple (repT xs k)))
  | _, _ => bad
def rMulS : R2 := fun x y H Q => ∃ z k, x = .str z ∧ y = .int k ∧ MulOk z k ∧ Q (.str (Txt.mul z k)) H
theorem op_mulS : OpR X (binaryOp .Mult) rMulS := by
  intro pins s σ H x y v u Q I rx ry h
  obtain ⟨z, k, rfl, rfl, hk, q⟩ := h
  obtain ⟨t, rfl⟩ := rx
  obtain ⟨t', rfl⟩ := ry
  exact SB.mul hk fun t2 k2 => ⟨.str _, H, I.tok _, ⟨_, rfl⟩, q⟩
def rMulA (K : PySem.W.Frag) : R2 := fun x y H Q => rI CMul (fun i j => .int (i * j)) x y H Q ∨ rMulS x y H Q ∨ rRepT K x y H Q
theorem op_mulA : OpR X (binaryOp .Mult) (rMulA X.K) := op_mul.or (op_mulS.or op_repT)
theorem d2_mul : D2 X g (rMulA X.K) oMul := by
  intro F H n x y d e Q Qd rb hx hy w q
  cases d <;> cases e <;> first | exact w.elim | skip
  · cases hx; cases hy
    exact .inl ⟨_, _, rfl, rfl, w.1, q _ _ F H n rb (.int _) w.2⟩
  · cases hx; cases hy
    exact .inr (.inl ⟨_, _, rfl, rfl, w.1, q _ _ F H n rb (.str _) w.2⟩)
  · cases hy
    cases hx with
    | tup h1 h2 =>
      obtain ⟨⟨w1, w2, w3, w4⟩, w5⟩ := w
      refine .inr (.inr ⟨_, _, _, rfl, rfl, sqT_ext rb.sub h1, fun z => ?_, w2, w3, by rw [h2.length]; exact w4, fun p np => ?_⟩)
      · subst z
        cases h2
        exact w1 rfl
      · exact q _ _ _ _ n (rb.lay np) (.tup (SqT.of upd_same) ((h2.rep _).ext' (fresh_ext rb.sub np))) w5
theorem de_mul {a b : Expr} {pos : Pos} {ma mb : Me Dt} (ha : DE X g a ma) (hb : DE X g b mb) : DE X g (.BinOp a .Mult b pos) (fun δ => bnd (ma δ) fun x => bnd (mb δ) fun y => oMul x y) := de_op op_mulA d2_mul ha hb
theorem de_fdiv {a b : Expr} {pos : Pos} {ma mb : Me Dt} (ha : DE X g a ma) (hb : DE X g b mb) : DE X g (.BinOp a .FloorDiv b pos) (fun δ => bnd (ma δ) fun x => bnd (mb δ) fun y => oI CDiv (fun i j => i / j) x y) := de_op op_fdiv (.of x2_int) ha hb
theorem de_fdivW {a b : Expr} {pos : Pos} {ma mb : Me Dt} (ha : DE X g a ma) (hb : DE X g b mb) : DE X g (.BinOp a .FloorDiv b pos) (fun δ => bnd (ma δ) fun x => bnd (mb δ) fun y => oI CDivW (fun i j => i / j) x y) := de_op op_fdivW (.of x2_int) ha hb
theorem de_mod {a b : Expr} {pos : Pos} {ma mb : Me Dt} (ha : DE X g a ma) (hb : DE X g b mb) : DE X g (.BinOp a .Mod b pos) (fun δ => bnd (ma δ) fun x => bnd (mb δ) fun y => oI (fun _ j => 0 < j) (fun i j => i % j) x y) := de_op op_mod (.of x2_int) ha hb
theorem de_pow {a b : Expr} {pos : Pos} {ma mb : Me Dt} (ha : DE X g a ma) (hb : DE X g b mb) : DE X g (.BinOp a .Pow b pos) (fun δ => bnd (ma δ) fun x => bnd (mb δ) fun y => oI CPow (fun i j => i ^ j.toNat) x y) := de_op op_pow (.of x2_int) ha hb
theorem de_neg {a : Expr} {pos : Pos} {ma : Me Dt} (ha : DE X g a ma) : DE X g (.UnaryOp .USub a pos) (fun δ => bnd (ma δ) fun x => match x with | .int i => ret (.int (-i)) | _ => bad) := by
  obtain ⟨t, p, ha⟩ := ha
  refine ⟨_, pe_un un_neg p, fun σ H F δ n Q Qd R q w => ha σ H F δ n _ _ R (fun v d F' H' n' rb rp hq => ?_) w⟩
  cases d with
  | int i => cases rp; exact ⟨i, rfl, q _ _ F' H' n' rb (.int _) hq⟩
  | _ => exact hq.elim

/-! ### comparisons -/
/-- two data that == tells apart here -/
def eqOk : Dt → Dt → Prop
  | .none, .none => True | .none, .int _ => True | .int _, .none => True | .none, .bool _ => True | .bool _, .none => True | .none, .str _ => True | .str _, .none => True
  | .int _, .int _ => True | .bool _, .bool _ => True | .str _, .str _ => True
  | .int _, .str _ => True | .str _, .int _ => True | .bool _, .str _ => True | .str _, .bool _ => True
  | .list xs, .list ys => (xs = [] ∨ ys = []) ∨ (SeqAt.shaped (.list xs) = true ∧ SeqAt.shaped (.list ys) = true)
  | .tuple xs, .tuple ys => (xs = [] ∨ ys = []) ∨ (SeqAt.shaped (.tuple xs) = true ∧ SeqAt.shaped (.tuple ys) = true)
  | d, e => SeqAt.shaped d = true ∧ SeqAt.shaped e = true
def oEq (d e : Dt) : Mv Dt := grd (eqOk d e) (ret (.bool (PyData.eqv d e)))
def oNe (d e : Dt) : Mv Dt := grd (eqOk d e) (ret (.bool (!PyData.eqv d e)))
mutual
theorem noDict_of : ∀ d : Dt, d.canLay0 = true → d.hasDict = false
  | .none, _ => by simp only [PyData.hasDict]
  | .bool _, _ => by simp only [PyData.hasDict]
  | .int _, _ => by simp only [PyData.hasDict]
  | .str _, _ => by simp only [PyData.hasDict]
  | .list xs, h => by simp only [PyData.hasDict]; exact noDicts_of xs (by simpa [PyData.canLay0] using h)
  | .tuple xs, h => by simp only [PyData.hasDict]; exact noDicts_of xs (by simpa [PyData.canLay0] using h)
  | .dict _, h => by simp [PyData.canLay0] at h
theorem noDicts_of : ∀ ds : List Dt, PyData.canLayAll0 ds = true → PyData.hasDictAll ds = false
  | [], _ => by simp only [PyData.hasDictAll]
  | d :: ds, h => by
    have h' : d.canLay0 = true ∧ PyData.canLayAll0 ds = true := by simpa [PyData.canLayAll0] using h
    simp only [PyData.hasDictAll, noDict_of d h'.1, noDicts_of ds h'.2, Bool.or_self]
end
theorem Rp.shp {K : PySem.W.Frag} {H : Hp} {v : V} {d : Dt} (h : Rp K H v d) (s : SeqAt.shaped d = true) : Dp K H v d := Rp.dp (Same.refl H) d (noDict_of d (SeqAt.canLay_of_shaped s)) h
/-- two lists, or two tuples, of which one is empty -/
def rEqE (ne : Bool) (K : PySem.W.Frag) : R2 := fun x y H Q => ∃ (a b : Addr) (xs ys : List V), x = .ref a ∧ y = .ref b ∧ ((SqL K H a xs ∧ SqL K H b ys) ∨ (SqT K H a xs ∧ SqT K H b ys)) ∧ (xs = [] ∨ ys = []) ∧ Q (.bl (xor ne (decide (xs.length = ys.length)))) H
theorem op_eqE (hu : X.A.units < cLine) : OpR X (compareOp .Eq) (rEqE false X.K) := by
  intro pins s σ H x y v u Q I rx ry h
  obtain ⟨a, b, xs, ys, rfl, rfl, hs, he, q⟩ := h
  cases rx
  cases ry
  rcases hs with ⟨h1, h2⟩ | ⟨h1, h2⟩
  · obtain ⟨i1, r1, l1, _⟩ := I.list h1
    obtain ⟨i2, r2, l2, _⟩ := I.list h2
    have e1 := r1.length
    have e2 := r2.length
    by_cases z : xs.length = ys.length
    · have z0 : i1.toArray.size = 0 := by
        have y : xs.length = 0 := by
          rcases he with e | e
          · rw [e]; rfl
          · rw [z, e]; rfl
        rw [List.size_toArray]
        omega
      refine SeqAt.eq_listAt (e := fun _ => true) l1.isList l2.isList (by rw [List.size_toArray, List.size_toArray]; omega) hu (fun j k _ => by omega) ?_
      refine ⟨.bl _, H, I, ?_, q⟩
      show Value.bool _ = Value.bool _
      rw [z0, decide_eq_true z]
      rfl
    · refine SeqAt.eq_list_lengthsAt l1.isList l2.isList (by simp only [List.size_toArray, bne_iff_ne]; omega) hu ?_
      refine ⟨.bl _, H, I, ?_, q⟩
      show Value.bool _ = Value.bool _
      rw [decide_eq_false z]
      rfl
  · obtain ⟨i1, r1, l1, _⟩ := I.tuple h1
    obtain ⟨i2, r2, l2, _⟩ := I.tuple h2
    have e1 := r1.length
    have e2 := r2.length
    have z0 : min i1.toArray.size i2.toArray.size = 0 := by
      rw [List.size_toArray, List.size_toArray]
      rcases he with rfl | rfl <;> simp at e1 e2 <;> omega
    refine SeqAt.eq_tupleAt (e := fun _ => true) l1 l2 hu (fun j k1 k2 => by omega) ?_
    refine ⟨.bl _, H, I, ?_, q⟩
    show Value.bool _ = Value.bool _
    rw [z0]
    have e3 : (i1.toArray.size == i2.toArray.size) = decide (xs.length = ys.length) := by
      rw [List.size_toArray, List.size_toArray, ← e1, ← e2]
      rfl
    rw [e3]
    simp
theorem op_neE (hu : X.A.units < cLine) : OpR X (compareOp .NotEq) (rEqE true X.K) := by
  intro pins s σ H x y v u Q I rx ry h
  obtain ⟨a, b, xs, ys, rfl, rfl, hs, he, q⟩ := h
  cases rx
  cases ry
  rcases hs with ⟨h1, h2⟩ | ⟨h1, h2⟩
  · obtain ⟨i1, r1, l1, _⟩ := I.list h1
    obtain ⟨i2, r2, l2, _⟩ := I.list h2
    have e1 := r1.length
    have e2 := r2.length
    by_cases z : xs.length = ys.length
    · have z0 : i1.toArray.size = 0 := by
        have y : xs.length = 0 := by
          rcases he with e | e
          · rw [e]; rfl
          · rw [z, e]; rfl
        rw [List.size_toArray]
        omega
      refine SeqAt.RcNeAt.lists (e := fun _ => true) l1.isList l2.isList (by rw [List.size_toArray, List.size_toArray]; omega) hu (fun j k _ => by omega) X.prog X.w X.xe _ ?_
      refine ⟨.bl _, H, I, ?_, q⟩
      show Value.bool _ = Value.bool _
      rw [z0, decide_eq_true z]
      rfl
    · refine SeqAt.RcNeAt.lists_lengths l1.isList l2.isList (by simp only [List.size_toArray, bne_iff_ne]; omega) hu X.prog X.w X.xe _ ?_
      refine ⟨.bl _, H, I, ?_, q⟩
      show Value.bool _ = Value.bool _
      rw [decide_eq_false z]
      rfl
  · obtain ⟨i1, r1, l1, _⟩ := I.tuple h1
    obtain ⟨i2, r2, l2, _⟩ := I.tuple h2
    have e1 := r1.length
    have e2 := r2.length
    have z0 : min i1.toArray.size i2.toArray.size = 0 := by
      rw [List.size_toArray, List.size_toArray]
      rcases he with rfl | rfl <;> simp at e1 e2 <;> omega
    refine SeqAt.RcNeAt.tuples (e := fun _ => true) l1 l2 hu (fun j k1 k2 => by omega) X.prog X.w X.xe _ ?_
    refine ⟨.bl _, H, I, ?_, q⟩
    show Value.bool _ = Value.bool _
    rw [z0]
    have e3 : (i1.toArray.size == i2.toArray.size) = decide (xs.length = ys.length) := by
      rw [List.size_toArray, List.size_toArray, ← e1, ← e2]
      rfl
    rw [e3]
    simp
def rEqA (K : PySem.W.Frag) : R2 := fun x y H Q => rEq x y H Q ∨ rEqD K x y H Q ∨ rEqE false K x y H Q
def rNeA (K : PySem.W.Frag) : R2 := fun x y H Q => rNe x y H Q ∨ rNeD K x y H Q ∨ rEqE true K x y H Q
theorem eqv_empty {xs ys : List Dt} (h : xs = [] ∨ ys = []) : PyData.eqvAll xs ys = decide (xs.length = ys.length) := by
  rcases h with rfl | rfl
  · cases ys <;> simp [PyData.eqvAll]
  · cases xs <;> simp [PyData.eqvAll]
theorem rnil {K : PySem.W.Frag} {H : Hp} {vs : List V} {ds : List Dt} (h : RpAll K H vs ds) (e : ds = []) : vs = [] := by
  subst e
  cases h
  rfl
theorem scal_eq {K : PySem.W.Frag} {H : Hp} {x y : V} {d e : Dt} (hx : Rp K H x d) (hy : Rp K H y e) (ok : eqOk d e) : (scal x y = true ∧ decide (x = y) = PyData.eqv d e) ∨ (SeqAt.shaped d = true ∧ SeqAt.shaped e = true) ∨
    ∃ (a b : Addr) (xs ys : List V), x = .ref a ∧ y = .ref b ∧ ((SqL K H a xs ∧ SqL K H b ys) ∨ (SqT K H a xs ∧ SqT K H b ys)) ∧ (xs = [] ∨ ys = []) ∧ decide (xs.length = ys.length) = PyData.eqv d e := by
  cases d with
  | list ds =>
    cases e with
    | list es =>
      rcases ok with ok | ok
      · cases hx with
        | lst h1 h2 =>
          cases hy with
          | lst h3 h4 =>
            refine .inr (.inr ⟨_, _, _, _, rfl, rfl, .inl ⟨SqL.of h1, SqL.of h3⟩, ok.imp (rnil h2) (rnil h4), ?_⟩)
            rw [h2.length, h4.length, PyData.eqv, eqv_empty ok]
      · exact .inr (.inl ok)
    | _ => exact .inr (.inl ok)
  | tuple ds =>
    cases e with
    | tuple es =>
      rcases ok with ok | ok
      · cases hx with
        | tup h1 h2 =>
          cases hy with
          | tup h3 h4 =>
            refine .inr (.inr ⟨_, _, _, _, rfl, rfl, .inr ⟨h1, h3⟩, ok.imp (rnil h2) (rnil h4), ?_⟩)
            rw [h2.length, h4.length, PyData.eqv, eqv_empty ok]
      · exact .inr (.inl ok)
    | _ => exact .inr (.inl ok)
  | _ => cases e <;> first
    | exact .inr (.inl ok)
    | (cases hx; cases hy; left; refine ⟨rfl, ?_⟩; simp only [PyData.eqv]; first | rfl | exact dec_int | exact dec_bl | exact dec_str | simp)
theorem x2_eq : X2 X (rEqA X.K) oEq := by
  intro H n x y d e Q Qd W hx hy w q
  rcases scal_eq hx hy w.1 with ⟨h1, h2⟩ | ⟨h1, h2⟩ | ⟨a, b, xs, ys, e1, e2, e3, e4, e5⟩
  · exact .inl ⟨h1, by rw [h2]; exact q _ _ (fun _ => .bl _) w.2⟩
  · exact .inr (.inl ⟨d, e, hx.shp h1, hy.shp h2, h1, h2, q _ _ (fun _ => .bl _) w.2⟩)
  · exact .inr (.inr ⟨a, b, xs, ys, e1, e2, e3, e4, by rw [e5, Bool.false_xor]; exact q _ _ (fun _ => .bl _) w.2⟩)
theorem x2_ne : X2 X (rNeA X.K) oNe := by
  intro H n x y d e Q Qd W hx hy w q
  rcases scal_eq hx hy w.1 with ⟨h1, h2⟩ | ⟨h1, h2⟩ | ⟨a, b, xs, ys, e1, e2, e3, e4, e5⟩
  · exact .inl ⟨h1, by rw [h2]; exact q _ _ (fun _ => .bl _) w.2⟩
  · exact .inr (.inl ⟨d, e, hx.shp h1, hy.shp h2, h1, h2, q _ _ (fun _ => .bl _) w.2⟩)
  · exact .inr (.inr ⟨a, b, xs, ys, e1, e2, e3, e4, by rw [e5, Bool.true_xor]; exact q _ _ (fun _ => .bl _) w.2⟩)
theorem op_eqA (hu : X.A.units + 64 < cLine) : OpR X (compareOp .Eq) (rEqA X.K) := op_eq.or ((op_eqD hu).or (op_eqE (by omega)))
theorem op_neA (hu : X.A.units + 64 < cLine) : OpR X (compareOp .NotEq) (rNeA X.K) := op_ne.or ((op_neD hu).or (op_neE (by omega)))
/-- < of numbers, of texts -/
def oLt (d e : Dt) : Mv Dt := match d, e with
  | .int i, .int j => ret (.bool (decide (i < j)))
  | .str x, .str y => ret (.bool (decide (x.cps.toList < y.cps.toList)))
  | _, _ => bad
def rLtA : R2 := fun x y H Q => rI0 (fun i j => .bl (decide (i < j))) x y H Q ∨ (∃ i j, x = .str i ∧ y = .str j ∧ Q (.bl (decide (i.cps.toList < j.cps.toList))) H)
theorem op_ltA : OpR X (compareOp .Lt) rLtA := op_lt.or op_lt_str
theorem x2_lt : X2 X rLtA oLt := by
  intro H n x y d e Q Qd W hx hy w q
  cases d <;> cases e <;> first | exact w.elim | skip
  · cases hx; cases hy; exact .inl ⟨_, _, rfl, rfl, q _ _ (fun _ => .bl _) w⟩
  · cases hx; cases hy; exact .inr ⟨_, _, rfl, rfl, q _ _ (fun _ => .bl _) w⟩
abbrev oLe : Dt → Dt → Mv Dt := oC fun i j => decide (i ≤ j)
abbrev oGt : Dt → Dt → Mv Dt := oC fun i j => decide (j < i)
abbrev oGe : Dt → Dt → Mv Dt := oC fun i j => decide (j ≤ i)
/-- is None -/
def isNone : Dt → Bool
  | .none => true
  | _ => false
def oIsN (d e : Dt) : Mv Dt := match e with
  | .none => ret (.bool (isNone d))
  | _ => bad
def oNotN (d e : Dt) : Mv Dt := match e with
  | .none => ret (.bool (!isNone d))
  | _ => bad
theorem isN_eq {K : PySem.W.Frag} {H : Hp} {x : V} {d : Dt} (h : Rp K H x d) : decide (x = V.non) = isNone d := by
  cases h <;> rfl
theorem x2_isN : X2 X (fun x y H Q => y = .non ∧ Q (.bl (decide (x = .non))) H) oIsN := by
  intro H n x y d e Q Qd W hx hy w q
  cases e <;> first | exact w.elim | skip
  cases hy
  exact ⟨rfl, by rw [isN_eq hx]; exact q _ _ (fun _ => .bl _) w⟩
theorem x2_notN : X2 X (fun x y H Q => y = .non ∧ Q (.bl (!decide (x = .non))) H) oNotN := by
  intro H n x y d e Q Qd W hx hy w q
  cases e <;> first | exact w.elim | skip
  cases hy
  exact ⟨rfl, by rw [isN_eq hx]; exact q _ _ (fun _ => .bl _) w⟩
/-- is, is not of truths -/
def oIsB (d e : Dt) : Mv Dt := match d, e with
  | .bool a, .bool b => ret (.bool (decide (a = b)))
  | _, _ => bad
def oNotB (d e : Dt) : Mv Dt := match d, e with
  | .bool a, .bool b => ret (.bool (!decide (a = b)))
  | _, _ => bad
theorem x2_isB : X2 X rIsB oIsB := by
  intro H n x y d e Q Qd W hx hy w q
  cases d <;> cases e <;> first | exact w.elim | skip
  cases hx; cases hy
  exact ⟨_, _, rfl, rfl, q _ _ (fun _ => .bl _) w⟩
theorem x2_notB : X2 X rNotB oNotB := by
  intro H n x y d e Q Qd W hx hy w q
  cases d <;> cases e <;> first | exact w.elim | skip
  cases hx; cases hy
  exact ⟨_, _, rfl, rfl, q _ _ (fun _ => .bl _) w⟩
/-- in: a text in a text, flat data in a tuple or a list, data in a list -/
def hasT (z x : Str) : Bool := !(Builtin.Str.occurrences z x 0 z.length 1).isEmpty
def flatD : Dt → Bool
  | .none => true | .bool _ => true | .int _ => true | .str _ => true
  | _ => false
def inD (x : Dt) (ds : List Dt) : Bool := ds.any fun y => PyData.eqv y x
def inOk (x : Dt) : Dt → Prop
  | .str _ => ∃ y, x = .str y
  | .tuple ds => flatD x = true ∧ ds.all flatD = true
  | .list ds => SeqAt.shaped (.list ds) = true ∧ SeqAt.shaped x = true
  | _ => False
def inV' (x : Dt) : Dt → Bool
  | .str j => (match x with | .str i => hasT j i | _ => false)
  | .tuple ds => inD x ds
  | .list ds => inD x ds
  | _ => false
def oIn (x y : Dt) : Mv Dt := grd (inOk x y) (ret (.bool (inV' x y)))
def oNotIn (x y : Dt) : Mv Dt := grd (inOk x y) (ret (.bool (!inV' x y)))
theorem flat_of {K : PySem.W.Frag} {H : Hp} {x : V} {d : Dt} (h : Rp K H x d) (f : flatD d = true) : flatV x = true := by
  cases h <;> first | rfl | exact absurd f Bool.false_ne_true
theorem flats_of {K : PySem.W.Frag} {H : Hp} : ∀ {xs : List V} {ds : List Dt}, RpAll K H xs ds → ds.all flatD = true → xs.all flatV = true
  | _, [], h, _ => by cases h; rfl
  | _, d :: ds, h, f => by
    cases h with
    | cons h1 h2 =>
      rw [List.all_cons, Bool.and_eq_true] at f ⊢
      exact ⟨flat_of h1 f.1, flats_of h2 f.2⟩
theorem eqV_eq {K : PySem.W.Frag} {H : Hp} {x y : V} {d e : Dt} (hx : Rp K H x d) (hy : Rp K H y e) (fx : flatD d = true) (fy : flatD e = true) : eqV x y = PyData.eqv d e := by
  cases hx <;> cases hy <;> first
    | exact absurd fx Bool.false_ne_true
    | exact absurd fy Bool.false_ne_true
    | (simp only [eqV, PyData.eqv])
theorem inV_eq {K : PySem.W.Frag} {H : Hp} {x : V} {d : Dt} (hx : Rp K H x d) (fx : flatD d = true) : ∀ {xs : List V} {ds : List Dt}, RpAll K H xs ds → ds.all flatD = true → inV x xs = inD d ds
  | _, [], h, _ => by cases h; rfl
  | _, e :: ds, h, f => by
    cases h with
    | cons h1 h2 =>
      rw [List.all_cons, Bool.and_eq_true] at f
      have ih := inV_eq hx fx h2 f.2
      unfold inV inD at ih ⊢
      rw [List.any_cons, List.any_cons, ih, eqV_eq h1 hx f.1 fx]
def rInA (K : PySem.W.Frag) : R2 := fun x y H Q => (∃ i j, x = .str i ∧ y = .str j ∧ Q (.bl (!(Builtin.Str.occurrences j i 0 j.length 1).isEmpty)) H) ∨ rIn K false x y H Q ∨ rInD K x y H Q
def rNotInA (K : PySem.W.Frag) : R2 := fun x y H Q => (∃ i j, x = .str i ∧ y = .str j ∧ Q (.bl (!(!(Builtin.Str.occurrences j i 0 j.length 1).isEmpty))) H) ∨ rIn K true x y H Q ∨ rNotInD K x y H Q
theorem op_inA (hu : X.A.units + 65 < cLine) : OpR X (compareOp .In) (rInA X.K) := op_in_str.or (op_in_seq.or (op_inD hu))
theorem op_notInA (hu : X.A.units + 65 < cLine) : OpR X (compareOp .NotIn) (rNotInA X.K) := op_notin_str.or (op_notIn_seq.or (op_notInD hu))
theorem x2_in : X2 X (rInA X.K) oIn := by
  intro H n x y d e Q Qd W hx hy w q
  obtain ⟨ok, w⟩ := w
  cases e with
  | str j =>
    obtain ⟨i, rfl⟩ := ok
    cases hx; cases hy
    exact .inl ⟨_, _, rfl, rfl, q _ _ (fun _ => .bl _) w⟩
  | tuple ds =>
    cases hy with
    | tup h1 h2 =>
      exact .inr (.inl ⟨_, _, rfl, .inr h1, flat_of hx ok.1, flats_of h2 ok.2, by rw [if_neg Bool.false_ne_true, inV_eq hx ok.1 h2 ok.2]; exact q _ _ (fun _ => .bl _) w⟩)
  | list ds => exact .inr (.inr ⟨d, ds, hx.shp ok.2, hy.shp ok.1, ok.2, ok.1, q _ _ (fun _ => .bl _) w⟩)
  | _ => exact ok.elim
theorem x2_notIn : X2 X (rNotInA X.K) oNotIn := by
  intro H n x y d e Q Qd W hx hy w q
  obtain ⟨ok, w⟩ := w
  cases e with
  | str j =>
    obtain ⟨i, rfl⟩ := ok
    cases hx; cases hy
    exact .inl ⟨_, _, rfl, rfl, q _ _ (fun _ => .bl _) w⟩
  | tuple ds =>
    cases hy with
    | tup h1 h2 =>
      exact .inr (.inl ⟨_, _, rfl, .inr h1, flat_of hx ok.1, flats_of h2 ok.2, by rw [if_pos rfl, inV_eq hx ok.1 h2 ok.2]; exact q _ _ (fun _ => .bl _) w⟩)
  | list ds => exact .inr (.inr ⟨d, ds, hx.shp ok.2, hy.shp ok.1, ok.2, ok.1, q _ _ (fun _ => .bl _) w⟩)
  | _ => exact ok.elim
end
end Dl
namespace Dl
open PySem PySem.Spec L2

/-! ### repr of data: what the heap holds of a datum is read, and shown -/
section
variable {X : Cx} {pins : List (Addr × Obj)} {σ : L2.St} {H : Hp} {s : Shared}
theorem KV.keysVals {kvs : List (Key × V)} {vs : List (Key × Value)} (r : KV kvs vs) : ∀ {es : List DictEntry}, Pairs (mixKind X.prog X.w) es vs → Vals (kvs.map fun p => kV p.1) (es.map (·.key)) ∧ Vals (kvs.map (·.2)) (es.map (·.val)) := by
  induction r with
  | nil => intro es p; cases p; exact ⟨.nil, .nil⟩
  | @cons p q ps qs h t ih =>
    intro es pp
    cases pp with
    | cons h1 h2 h3 =>
      obtain ⟨i1, i2⟩ := ih h3
      refine ⟨.cons ?_ i1, .cons ?_ i2⟩
      · have e : p.1 = q.1 := h.1
        have g := keyIs_rel h1
        rw [← e] at g
        exact g
      · have g : RelV p.2 q.2 := h.2
        rw [← h2] at g
        exact g
mutual
theorem Rp.reads (I : Inv X pins σ H s) : ∀ (d : Dt) (v : V) (u : Value), Rp X.K H v d → RelV v u → ∃ as, Reads s.heap u d as
  | .none, _, _, h, r => by cases h; cases r; exact ⟨_, Reads.none⟩
  | .bool b, _, _, h, r => by cases h; cases r; exact ⟨_, Reads.bool b⟩
  | .int i, _, _, h, r => by cases h; obtain ⟨t, rfl⟩ := r; exact ⟨_, Reads.int i t⟩
  | .str x, _, _, h, r => by cases h; obtain ⟨t, rfl⟩ := r; exact ⟨_, Reads.str x t⟩
  | .list ds, _, _, h, r => by
    cases h with
    | lst hs ha =>
      cases r
      obtain ⟨its, rv, ⟨o, n, ho, hc, _, hd⟩, _⟩ := I.list (SqL.of hs)
      obtain ⟨as, hr⟩ := RpAll.reads I ds _ its ha rv
      exact ⟨_, Reads.list ho hc hd hr⟩
  | .tuple ds, _, _, h, r => by
    cases h with
    | tup hs ha =>
      cases r
      obtain ⟨its, rv, ⟨o, ho, hc, n, hd⟩, _⟩ := I.tuple hs
      obtain ⟨as, hr⟩ := RpAll.reads I ds _ its ha rv
      exact ⟨_, Reads.tuple ho hc hd hr⟩
  | .dict es, _, _, h, r => by
    cases h with
    | dct hs ha =>
      cases r
      obtain ⟨_, _, vs, rk, o, ee, ep, ho, hx, hd, _, hp, _⟩ := I.hok _ _ hs
      obtain ⟨r1, r2⟩ := KV.keysVals (X := X) rk hp
      obtain ⟨as, hr⟩ := RpKv.readsK I es _ _ ha r1
      obtain ⟨bs, hr2⟩ := RpKv.readsV I es _ _ ha r2
      exact ⟨_, Reads.dict ho hx.1 hd hr hr2⟩
theorem RpAll.reads (I : Inv X pins σ H s) : ∀ (ds : List Dt) (vs : List V) (us : List Value), RpAll X.K H vs ds → Vals vs us → ∃ as, ReadsAll s.heap us ds as
  | [], _, _, h, r => by cases h; cases r; exact ⟨_, ReadsAll.nil⟩
  | d :: ds, _, _, h, r => by
    cases h with
    | cons h1 h2 =>
      cases r with
      | cons r1 r2 =>
        obtain ⟨as, q1⟩ := Rp.reads I d _ _ h1 r1
        obtain ⟨bs, q2⟩ := RpAll.reads I ds _ _ h2 r2
        exact ⟨_, ReadsAll.cons q1 q2⟩
theorem RpKv.readsK (I : Inv X pins σ H s) : ∀ (es : List (Dt × Dt)) (kvs : List (Key × V)) (us : List Value), RpKv X.K H kvs es → Vals (kvs.map fun p => kV p.1) us → ∃ as, ReadsAll s.heap us (es.map (·.1)) as
  | [], _, _, h, r => by cases h; cases r; exact ⟨_, ReadsAll.nil⟩
  | (k, d) :: es, _, _, h, r => by
    cases h with
    | @cons k' v _ rr _ h1 h2 =>
      cases r with
      | cons r1 r2 =>
        obtain ⟨bs, q2⟩ := RpKv.readsK I es _ _ h2 r2
        cases k' with
        | inl i => obtain ⟨t, rfl⟩ := r1; exact ⟨_, ReadsAll.cons (Reads.int i t) q2⟩
        | inr x => obtain ⟨t, rfl⟩ := r1; exact ⟨_, ReadsAll.cons (Reads.str x t) q2⟩
theorem RpKv.readsV (I : Inv X pins σ H s) : ∀ (es : List (Dt × Dt)) (kvs : List (Key × V)) (us : List Value), RpKv X.K H kvs es → Vals (kvs.map (·.2)) us → ∃ as, ReadsAll s.heap us (es.map (·.2)) as
  | [], _, _, h, r => by cases h; cases r; exact ⟨_, ReadsAll.nil⟩
  | (k, d) :: es, _, _, h, r => by
    cases h with
    | @cons k' v _ rr _ h1 h2 =>
      cases r with
      | cons r1 r2 =>
        obtain ⟨as, q1⟩ := Rp.reads I d _ _ h1 r1
        obtain ⟨bs, q2⟩ := RpKv.readsV I es _ _ h2 r2
        exact ⟨_, ReadsAll.cons q1 q2⟩
end

/-- what stands below a datum, and that it is shown -/
abbrev Shows (X : Cx) (h : Heap) (d : Dt) (u : Value) : Prop := ∃ bs, ReadAtMost h d.depth bs ∧ ReprK X.prog X.w bs h d.depth u d.shown
abbrev ShowsAll (X : Cx) (h : Heap) (ds : List Dt) (us : List Value) : Prop := ∃ bs, ReadAtMost h (PyData.depthAll ds) bs ∧ ReprAllK X.prog X.w bs h (PyData.depthAll ds) us (PyData.shownAll ds)
theorem shows_cons {h : Heap} {d : Dt} {ds : List Dt} {u : Value} {us : List Value} (a : Shows X h d u) (b : ShowsAll X h ds us) : ShowsAll X h (d :: ds) (u :: us) := by
  obtain ⟨b1, h1, k1⟩ := a
  obtain ⟨b2, h2, k2⟩ := b
  refine ⟨b1 ++ b2, ?_, ?_⟩
  · simp only [PyData.depthAll]
    exact (h1.mono (Nat.le_max_left _ _)).append (h2.mono (Nat.le_max_right _ _))
  · simp only [PyData.depthAll, PyData.shownAll]
    exact .cons ((k1.more fun x hx => List.mem_append_left _ hx).level_le (Nat.le_max_left _ _)) (k2.more_le (fun x hx => List.mem_append_right _ hx) (Nat.le_max_right _ _))
theorem dict_shows {h : Heap} {es : List (Dt × Dt)} {ee : List DictEntry} (a : ShowsAll X h (es.map (·.1)) (ee.map (·.key))) (b : ShowsAll X h (es.map (·.2)) (ee.map (·.val))) :
    ∃ bs, ReadAtMost h (PyData.depthKv es) bs ∧ ReprEntriesK X.prog X.w bs h (PyData.depthKv es) ee (PyData.shownKv es) := by
  obtain ⟨b1, h1, k1⟩ := a
  obtain ⟨b2, h2, k2⟩ := b
  refine ⟨b1 ++ b2, (h1.mono (PyData.depthAll_keys_le es)).append (h2.mono (PyData.depthAll_vals_le es)), ?_⟩
  rw [PyData.shownKv_eq]
  exact ReprEntriesK.of_two ee _ _ (k1.more_le (fun x hx => List.mem_append_left _ hx) (PyData.depthAll_keys_le es)) (k2.more_le (fun x hx => List.mem_append_right _ hx) (PyData.depthAll_vals_le es))
mutual
theorem Rp.shows (I : Inv X pins σ H s) : ∀ (d : Dt) (v : V) (u : Value), Rp X.K H v d → RelV v u → d.showable = true → d.shown.length ≤ sizeLine → Shows X s.heap d u
  | .none, _, _, h, r, _, _ => by
    cases h; cases r
    exact ⟨[], (fun _ m => nomatch m), by simp only [PyData.shown]; exact .of_is ReprIs.none _ _ _⟩
  | .bool b, _, _, h, r, _, _ => by
    cases h; cases r
    exact ⟨[], (fun _ m => nomatch m), by simp only [PyData.shown]; exact .of_is (ReprIs.bool b) _ _ _⟩
  | .int i, _, _, h, r, sh, _ => by
    cases h; obtain ⟨t, rfl⟩ := r
    exact ⟨[], (fun _ m => nomatch m), by simp only [PyData.shown]; exact .of_is (ReprIs.int t (by simpa [PyData.showable] using sh)) _ _ _⟩
  | .str x, _, _, h, r, _, z => by
    cases h; obtain ⟨t, rfl⟩ := r
    exact ⟨[], (fun _ m => nomatch m), by simp only [PyData.shown]; exact .of_is (ReprIs.str x t (by simpa only [PyData.shown] using z)) _ _ _⟩
  | .list ds, v, u, h, r, sh, z => by
    obtain ⟨as, rd⟩ := Rp.reads I (.list ds) v u h r
    cases h with
    | lst hs ha =>
      cases r
      have z' : (listText (PyData.shownAll ds)).length ≤ sizeLine := by simpa only [PyData.shown] using z
      obtain ⟨its, rv, ⟨o, n, ho, hc, _, hd⟩, _⟩ := I.list (SqL.of hs)
      obtain ⟨bs, hb, hk⟩ := RpAll.shows I ds _ its ha rv (by simpa [PyData.showable] using sh) fun t ht => Nat.le_trans (listText_mem_le ht) z'
      have hna := not_mem_of_deeper rd (by simp only [PyData.depth]; omega) hb
      refine ⟨_ :: bs, ReadAtMost.cons rd (by simp only [PyData.depth]; omega) hb, ?_⟩
      simp only [PyData.depth, PyData.shown]
      cases its with
      | nil =>
        cases rv
        cases ds with
        | nil => simp only [PyData.shownAll, listText_nil]; exact ReprK.listEmpty ho hc hd
        | cons x y => cases ha
      | cons x l => exact ReprK.list ho hc hd hna (by simpa using hk.length_eq) fun i y e => hk.item i y (by simpa using e)
  | .tuple ds, v, u, h, r, sh, z => by
    obtain ⟨as, rd⟩ := Rp.reads I (.tuple ds) v u h r
    cases h with
    | tup hs ha =>
      cases r
      have z' : (tupleText (PyData.shownAll ds)).length ≤ sizeLine := by simpa only [PyData.shown] using z
      obtain ⟨its, rv, ⟨o, ho, hc, n, hd⟩, _⟩ := I.tuple hs
      obtain ⟨bs, hb, hk⟩ := RpAll.shows I ds _ its ha rv (by simpa [PyData.showable] using sh) fun t ht => Nat.le_trans (tupleText_mem_le ht) z'
      have hna := not_mem_of_deeper rd (by simp only [PyData.depth]; omega) hb
      refine ⟨_ :: bs, ReadAtMost.cons rd (by simp only [PyData.depth]; omega) hb, ?_⟩
      simp only [PyData.depth, PyData.shown]
      exact ReprK.tuple ho hc hd hna (by simpa using hk)
  | .dict es, v, u, h, r, sh, z => by
    obtain ⟨as, rd⟩ := Rp.reads I (.dict es) v u h r
    cases h with
    | dct hs ha =>
      cases r
      have z' : (dictText (PyData.shownKv es)).length ≤ sizeLine := by simpa only [PyData.shown] using z
      obtain ⟨_, sys, vs, rk, o, ee, ep, ho, hx, hd, _, hp, _⟩ := I.hok _ _ hs
      obtain ⟨r1, r2⟩ := KV.keysVals (X := X) rk hp
      obtain ⟨s1, s2⟩ := PyData.showableKv_split es (by simpa [PyData.showable] using sh)
      obtain ⟨bs, hb, hk⟩ := dict_shows (RpKv.showsK I es _ _ ha r1 s1 fun t ht => let ⟨p, hp, hl⟩ := PyData.shownKv_key_le es t ht; Nat.le_trans hl (Nat.le_trans (dictText_mem_le hp) z'))
        (RpKv.showsV I es _ _ ha r2 s2 fun t ht => let ⟨p, hp, hl⟩ := PyData.shownKv_val_le es t ht; Nat.le_trans hl (Nat.le_trans (dictText_mem_le hp) z'))
      have hna := not_mem_of_deeper rd (by simp only [PyData.depth]; omega) hb
      refine ⟨_ :: bs, ReadAtMost.cons rd (by simp only [PyData.depth]; omega) hb, ?_⟩
      simp only [PyData.depth, PyData.shown]
      exact ReprK.dict ho hx.1 hd sys hna hk
theorem RpAll.shows (I : Inv X pins σ H s) : ∀ (ds : List Dt) (vs : List V) (us : List Value), RpAll X.K H vs ds → Vals vs us → PyData.showableAll ds = true → (∀ t ∈ PyData.shownAll ds, t.length ≤ sizeLine) → ShowsAll X s.heap ds us
  | [], _, _, h, r, _, _ => by cases h; cases r; exact ⟨[], (fun _ m => nomatch m), by simp only [PyData.shownAll]; exact .nil⟩
  | d :: ds, _, _, h, r, sh, z => by
    cases h with
    | cons h1 h2 =>
      cases r with
      | cons r1 r2 =>
        have sh' : d.showable = true ∧ PyData.showableAll ds = true := by simpa [PyData.showableAll] using sh
        exact shows_cons (Rp.shows I d _ _ h1 r1 sh'.1 (z _ (by simp only [PyData.shownAll]; exact List.mem_cons_self))) (RpAll.shows I ds _ _ h2 r2 sh'.2 fun t ht => z t (by simp only [PyData.shownAll]; exact List.mem_cons_of_mem _ ht))
theorem RpKv.showsK (I : Inv X pins σ H s) : ∀ (es : List (Dt × Dt)) (kvs : List (Key × V)) (us : List Value), RpKv X.K H kvs es → Vals (kvs.map fun p => kV p.1) us → PyData.showableAll (es.map (·.1)) = true → (∀ t ∈ PyData.shownAll (es.map (·.1)), t.length ≤ sizeLine) → ShowsAll X s.heap (es.map (·.1)) us
  | [], _, _, h, r, _, _ => by cases h; cases r; exact ⟨[], (fun _ m => nomatch m), by simp only [List.map_nil, PyData.shownAll]; exact .nil⟩
  | (k, d) :: es, _, _, h, r, sh, z => by
    cases h with
    | @cons k' v _ rr _ h1 h2 =>
      cases r with
      | cons r1 r2 =>
        have sh' : (kD k').showable = true ∧ PyData.showableAll (es.map (·.1)) = true := by simpa [PyData.showableAll] using sh
        have z1 : (kD k').shown.length ≤ sizeLine := z _ (by simp only [List.map_cons, PyData.shownAll]; exact List.mem_cons_self)
        refine shows_cons ?_ (RpKv.showsK I es _ _ h2 r2 sh'.2 fun t ht => z t (by simp only [List.map_cons, PyData.shownAll]; exact List.mem_cons_of_mem _ ht))
        cases k' with
        | inl i =>
          obtain ⟨t, rfl⟩ := r1
          exact ⟨[], (fun _ m => nomatch m), by simp only [kD, PyData.shown]; exact .of_is (ReprIs.int t (by simpa [kD, PyData.showable] using sh'.1)) _ _ _⟩
        | inr x =>
          obtain ⟨t, rfl⟩ := r1
          exact ⟨[], (fun _ m => nomatch m), by simp only [kD, PyData.shown]; exact .of_is (ReprIs.str x t (by simpa only [kD, PyData.shown] using z1)) _ _ _⟩
theorem RpKv.showsV (I : Inv X pins σ H s) : ∀ (es : List (Dt × Dt)) (kvs : List (Key × V)) (us : List Value), RpKv X.K H kvs es → Vals (kvs.map (·.2)) us → PyData.showableAll (es.map (·.2)) = true → (∀ t ∈ PyData.shownAll (es.map (·.2)), t.length ≤ sizeLine) → ShowsAll X s.heap (es.map (·.2)) us
  | [], _, _, h, r, _, _ => by cases h; cases r; exact ⟨[], (fun _ m => nomatch m), by simp only [List.map_nil, PyData.shownAll]; exact .nil⟩
  | (k, d) :: es, _, _, h, r, sh, z => by
    cases h with
    | @cons k' v _ rr _ h1 h2 =>
      cases r with
      | cons r1 r2 =>
        have sh' : d.showable = true ∧ PyData.showableAll (es.map (·.2)) = true := by simpa [PyData.showableAll] using sh
        exact shows_cons (Rp.shows I d _ _ h1 r1 sh'.1 (z _ (by simp only [List.map_cons, PyData.shownAll]; exact List.mem_cons_self))) (RpKv.showsV I es _ _ h2 r2 sh'.2 fun t ht => z t (by simp only [List.map_cons, PyData.shownAll]; exact List.mem_cons_of_mem _ ht))
end
end

/-- repr: data of moderate depth -/
def shOk (d : Dt) : Prop := d.showable = true ∧ d.shown.length ≤ sizeLine ∧ d.depth ≤ 60
def oRepr : List Dt → Mv Dt
  | [d] => grd (shOk d) (ret (.str d.shown))
  | _ => bad
def rRepr (K : PySem.W.Frag) : List V → Hp → VK → Prop := fun xs H Q => ∃ x d, xs = [x] ∧ Rp K H x d ∧ shOk d ∧ Q (.str d.shown) H
section
variable {X : Cx} {g : Gh}
theorem call_repr (hg : X.A.guards = some []) (hu : X.A.units + 64 < cLine) : CallR X (.builtin "repr") (rRepr X.K) := by
  intro pins s σ H xs us Q I r h
  obtain ⟨x, d, rfl, rp, ⟨sh, z, dp⟩, q⟩ := h
  obtain ⟨u, rfl, rx⟩ := vals1 r
  have fin : ∀ (h' : Heap) (t tk : Nat), (∀ b o, s.heap.get? b = some o → h'.get? b = some o) → EP X pins σ Q (.str d.shown t) { s with heap := h', toks := tk } := fun h' t tk k => ⟨.str d.shown, H, I.kept k, ⟨_, rfl⟩, q⟩
  have same : ∀ t : Nat, EP X pins σ Q (.str d.shown s.toks) { s with toks := t } := fun t => fin s.heap s.toks t fun _ _ e => e
  cases d with
  | none =>
    cases rp; cases rx
    exact P.repr_of_none (same _)
  | bool b =>
    cases rp; cases rx
    exact P.repr_of_bool (by simpa only [PyData.shown] using same _)
  | int i =>
    cases rp; obtain ⟨t, rfl⟩ := rx
    exact P.repr_of_int (by simpa [PyData.showable] using sh) (by simpa only [PyData.shown] using same _)
  | str y =>
    cases rp; obtain ⟨t, rfl⟩ := rx
    exact P.repr_of_str (by simpa only [PyData.shown] using same _) (by simpa only [PyData.shown] using z)
  | list ds =>
    obtain ⟨bs, hb, hk⟩ := Rp.shows I _ _ _ rp rx sh z
    obtain ⟨as, rd⟩ := Rp.reads I _ _ _ rp rx
    cases rp with
    | lst hs ha =>
      cases rx
      have z' : (listText (PyData.shownAll ds)).length ≤ sizeLine := by simpa only [PyData.shown] using z
      have dp' : PyData.depthAll ds + 1 ≤ 60 := by simp only [PyData.depth] at dp; omega
      obtain ⟨its, rv, ⟨o, n, ho, hc, _, hd⟩, _⟩ := I.list (SqL.of hs)
      obtain ⟨bs, hb, hk⟩ := RpAll.shows I ds _ its ha rv (by simpa [PyData.showable] using sh) fun t ht => Nat.le_trans (listText_mem_le ht) z'
      have hna := not_mem_of_deeper rd (by simp only [PyData.depth]; omega) hb
      refine call_repr_slot (by omega) ⟨o, ho, hc⟩ F.slot_list_repr.toG ?_
      cases its with
      | nil =>
        cases rv
        cases ds with
        | nil => exact call_list_repr_empty ⟨o, ho, hc⟩ ho hd ⟨_, _, rfl, by have := same (s.toks + 1); simpa only [PyData.shown, PyData.shownAll, listText_nil] using this⟩
        | cons x y => cases ha
      | cons x l => exact call_list_reprK ho hc hd hna (by simpa using hk.length_eq) (fun i y e => hk.item i y (by simpa using e)) hg (fun b _ => Clear.nil b) (by show X.A.units + 1 + _ < cLine; omega) (fun _ _ e => e) (fun h' t tk k => ⟨_, _, rfl, by have := fin h' t tk k; simpa only [PyData.shown] using this⟩) z'
  | tuple ds =>
    obtain ⟨as, rd⟩ := Rp.reads I _ _ _ rp rx
    cases rp with
    | tup hs ha =>
      cases rx
      have z' : (tupleText (PyData.shownAll ds)).length ≤ sizeLine := by simpa only [PyData.shown] using z
      have dp' : PyData.depthAll ds + 1 ≤ 60 := by simp only [PyData.depth] at dp; omega
      obtain ⟨its, rv, ⟨o, ho, hc, n, hd⟩, _⟩ := I.tuple hs
      obtain ⟨bs, hb, hk⟩ := RpAll.shows I ds _ its ha rv (by simpa [PyData.showable] using sh) fun t ht => Nat.le_trans (tupleText_mem_le ht) z'
      have hna := not_mem_of_deeper rd (by simp only [PyData.depth]; omega) hb
      refine call_repr_slot (by omega) ⟨o, ho, hc⟩ F.slot_tuple_repr ?_
      exact call_tuple_reprK ho hc hd hna (by simpa using hk) hg (fun b _ => Clear.nil b) (by show X.A.units + 1 + _ < cLine; omega) (fun _ _ e => e) (fun h' t tk k => ⟨_, _, rfl, by have := fin h' t tk k; simpa only [PyData.shown] using this⟩) z'
  | dict es =>
    obtain ⟨as, rd⟩ := Rp.reads I _ _ _ rp rx
    cases rp with
    | dct hs ha =>
      cases rx
      have z' : (dictText (PyData.shownKv es)).length ≤ sizeLine := by simpa only [PyData.shown] using z
      have dp' : PyData.depthKv es + 1 ≤ 60 := by simp only [PyData.depth] at dp; omega
      obtain ⟨_, sys, vs, rk, o, ee, ep, ho, hx, hd, _, hp, _⟩ := I.hok _ _ hs
      obtain ⟨r1, r2⟩ := KV.keysVals (X := X) rk hp
      obtain ⟨s1, s2⟩ := PyData.showableKv_split es (by simpa [PyData.showable] using sh)
      obtain ⟨bs, hb, hk⟩ := dict_shows (RpKv.showsK I es _ _ ha r1 s1 fun t ht => let ⟨p, hp, hl⟩ := PyData.shownKv_key_le es t ht; Nat.le_trans hl (Nat.le_trans (dictText_mem_le hp) z'))
        (RpKv.showsV I es _ _ ha r2 s2 fun t ht => let ⟨p, hp, hl⟩ := PyData.shownKv_val_le es t ht; Nat.le_trans hl (Nat.le_trans (dictText_mem_le hp) z'))
      have hna := not_mem_of_deeper rd (by simp only [PyData.depth]; omega) hb
      refine call_repr_slot (by omega) ⟨o, ho, hx.1⟩ F.slot_dict_repr ?_
      exact call_dict_reprK ho hx.1 hd sys hna hk hg (fun b _ => Clear.nil b) (by show X.A.units + 1 + _ < cLine; omega) (fun _ _ e => e) (fun h' t tk k => ⟨_, _, rfl, by have := fin h' t tk k; simpa only [PyData.shown] using this⟩) z'
theorem xc_repr : XC X (rRepr X.K) oRepr := by
  intro H n xs ds Q Qd W h w q
  match ds, w with
  | [d], w =>
    cases h with
    | cons h1 h2 =>
      cases h2
      exact ⟨_, d, rfl, h1, w.1, q _ _ (fun _ => .str _) w.2⟩
end
end Dl
namespace Dl
open PySem PySem.Spec L2

section
variable {X : Cx}
theorem rp1 {K : PySem.W.Frag} {F : Hp} {xs : List V} {d : Dt} (h : RpAll K F xs [d]) : ∃ x, xs = [x] ∧ Rp K F x d := by
  cases h with
  | cons h1 h2 => cases h2; exact ⟨_, rfl, h1⟩
theorem rp2 {K : PySem.W.Frag} {F : Hp} {xs : List V} {d e : Dt} (h : RpAll K F xs [d, e]) : ∃ x y, xs = [x, y] ∧ Rp K F x d ∧ Rp K F y e := by
  cases h with
  | cons h1 h2 =>
    obtain ⟨y, rfl, h3⟩ := rp1 h2
    exact ⟨_, y, rfl, h1, h3⟩
def oLen : List Dt → Mv Dt
  | [.str x] => grd (x.length ≤ sizeLine) (ret (.int x.length))
  | [.list xs] => ret (.int xs.length)
  | [.tuple xs] => ret (.int xs.length)
  | _ => bad
theorem xc_len : XC X (fun xs H Q => ∃ x n, xs = [x] ∧ LenV X.K x H n ∧ Q (.int n) H) oLen := by
  intro H n xs ds Q Qd W h w q
  match ds, w with
  | [.str x], w =>
    obtain ⟨v, rfl, r⟩ := rp1 h
    cases r
    exact ⟨_, _, rfl, ⟨w.1, rfl⟩, q _ _ (fun _ => .int _) w.2⟩
  | [.list ys], w =>
    obtain ⟨v, rfl, r⟩ := rp1 h
    cases r with
    | lst h1 h2 => exact ⟨_, _, rfl, .inl ⟨_, SqL.of h1, rfl⟩, by rw [h2.length]; exact q _ _ (fun _ => .int _) w⟩
  | [.tuple ys], w =>
    obtain ⟨v, rfl, r⟩ := rp1 h
    cases r with
    | tup h1 h2 => exact ⟨_, _, rfl, .inr ⟨_, h1, rfl⟩, by rw [h2.length]; exact q _ _ (fun _ => .int _) w⟩
end
/-! ### one list that can be read -/
section
variable {K : PySem.W.Frag} {hd : Hd} {F H : Hp} {n : Nat}
theorem RpX.lst {v : V} {ds : List Dt} (h : RpX K hd F H v (.list ds)) (s : Same F H) : ∃ a vs, v = .ref a ∧ H a = some (.lst vs) ∧ RpAll K F vs ds := by
  rcases h with h | ⟨a, vs, ds', e1, e2, h1, h2, h3⟩
  · cases h with
    | lst h1 h2 => exact ⟨_, _, rfl, s _ _ h1, h2⟩
  · cases e2
    exact ⟨a, vs, e1, h1, h3⟩
theorem RpX.dat {v : V} {d : Dt} (h : RpX K hd F H v d) (n : ∀ ds, d ≠ .list ds) : Rp K F v d := by
  rcases h with h | ⟨a, vs, ds', e1, e2, h1, h2, h3⟩
  · exact h
  · exact absurd e2 (n ds')
theorem RpX.tup {v : V} {ds : List Dt} (h : RpX K hd F H v (.tuple ds)) : ∃ a vs, v = .ref a ∧ SqT K F a vs ∧ RpAll K F vs ds := by
  have q := h.dat (fun _ e => nomatch e)
  cases q with
  | tup h1 h2 => exact ⟨_, _, rfl, h1, h2⟩
theorem RpX.str {v : V} {x : Str} (h : RpX K hd F H v (.str x)) : v = .str x := by
  have q := h.dat (fun _ e => nomatch e)
  cases q; rfl
theorem RpX.int {v : V} {x : Int} (h : RpX K hd F H v (.int x)) : v = .int x := by
  have q := h.dat (fun _ e => nomatch e)
  cases q; rfl
/-- a list that was just laid, frozen at once -/
theorem laid_lst {F0 H0 : Hp} {p : Addr} {vs : List V} {ds : List Dt} (rb : RelB hd F0 H0 F H n) (np : H p = none) (ra : RpAll K F vs ds) : RelB hd F0 H0 (upd F p (.lst vs)) (upd H p (.lst vs)) n ∧ Rp K (upd F p (.lst vs)) (.ref p) (.list ds) :=
  ⟨rb.lay np, .lst upd_same (ra.ext' (fresh_ext rb.sub np))⟩
theorem laid_tup {F0 H0 : Hp} {p : Addr} {vs : List V} {ds : List Dt} (rb : RelB hd F0 H0 F H n) (np : H p = none) (ra : RpAll K F vs ds) : RelB hd F0 H0 (upd F p (.tup vs)) (upd H p (.tup vs)) n ∧ Rp K (upd F p (.tup vs)) (.ref p) (.tuple ds) :=
  ⟨rb.lay np, .tup (SqT.of upd_same) (ra.ext' (fresh_ext rb.sub np))⟩
theorem ixN_len {m n : Nat} (e : m = n) (i : Int) : ixN m i = ixN n i := by rw [e]
theorem RpAll.atI {vs : List V} {ds : List Dt} {i : Int} {d : Dt} (h : RpAll K F vs ds) (e : L2.atI ds i = some d) : ∃ v, L2.atI vs i = some v ∧ Rp K F v d := by
  unfold L2.atI at e ⊢
  rw [h.length]
  cases q : ixN ds.length i with
  | none => rw [q] at e; cases e
  | some j =>
    rw [q] at e
    exact h.at e
def cutD (xs : List Dt) (lo hi : Option Int) : List Dt := (xs.drop (HT.sIx xs.length 0 lo)).take (HT.sIx xs.length xs.length hi - HT.sIx xs.length 0 lo)
theorem RpAll.cut {vs : List V} {ds : List Dt} (h : RpAll K F vs ds) (lo hi : Option Int) : RpAll K F (cutV vs lo hi) (cutD ds lo hi) := by
  unfold cutV cutD
  rw [h.length]
  exact (h.drop _).take _
theorem cutD_whole {ds : List Dt} {lo hi : Option Int} (h : HT.sIx ds.length 0 lo = 0 ∧ HT.sIx ds.length ds.length hi = ds.length) : cutD ds lo hi = ds := by
  unfold cutD
  rw [h.1, h.2]
  simp
end

/-- two-place operations whose operands can be read now and whose result is frozen -/
def D2X (X : Cx) (g : Gh) (r : R2) (o : Dt → Dt → Mv Dt) : Prop := ∀ (F H : Hp) (n : Nat) (x y : V) (d e : Dt) (Q : VK) (Qd : Kd Dt), RelB g.hd F H F H n → RpX X.K g.hd F H x d → RpX X.K g.hd F H y e → o d e n Qd g.W →
  (∀ v d' F' H' n', RelB g.hd F H F' H' n' → Rp X.K F' v d' → Qd d' n' → Q v H') → r x y H Q

section
variable {X : Cx} {g : Gh} {a b c e : Expr} {es : List Expr} {pos : Pos} {ma mb mc : Me Dt}
theorem de_opX {op : Operator} {r : R2} {o : Dt → Dt → Mv Dt} (ho : OpR X (binaryOp op) r) (k : D2X X g r o) (ha : DX X g a ma) (hb : DX X g b mb) :
    DE X g (.BinOp a op b pos) (fun δ => bnd (ma δ) fun x => bnd (mb δ) fun y => o x y) := by
  obtain ⟨t, p, ha⟩ := ha
  obtain ⟨u, p2, hb⟩ := hb
  refine ⟨_, pe_op ho p p2, fun σ H F δ n Q Qd R q w => ?_⟩
  refine ha σ H F δ n _ _ R (fun v d F1 H1 n1 rb rp hq => ?_) w
  refine hb σ H1 F1 δ n1 _ _ (R.ext rb) (fun v2 d2 F2 H2 n2 rb2 rp2 hq2 => ?_) hq
  exact k F2 H2 n2 v v2 d d2 Q Qd rb2.refl (rp.ext rb2) rp2 hq2 fun v' d' F' H' n' r3 p3 q3 => q v' d' F' H' n' ((rb.trans rb2).trans r3) p3 q3
/-- x + y: numbers, texts, tuples, lists -/
def oPlus (d e : Dt) : Mv Dt := match d, e with
  | .int i, .int j => ret (.int (i + j))
  | .str x, .str y => grd (x.length + y.length ≤ sizeLine) (ret (.str (x ++ y)))
  | .tuple xs, .tuple ys => grd (xs.length + ys.length ≤ sizeLine) (ret (.tuple (xs ++ ys)))
  | .list xs, .list ys => grd (xs.length + ys.length ≤ sizeLine) (ret (.list (xs ++ ys)))
  | _, _ => bad
theorem d2x_plus : D2X X g (fun x y H Q => rAddA X.K x y H Q ∨ rCat x y H Q) oPlus := by
  intro F H n x y d e Q Qd rb hx hy w q
  cases d <;> cases e <;> first | exact w.elim | skip
  · exact .inl (d2_add F H n x y _ _ Q Qd rb (hx.dat fun _ e => nomatch e) (hy.dat fun _ e => nomatch e) w q)
  · exact .inl (d2_add F H n x y _ _ Q Qd rb (hx.dat fun _ e => nomatch e) (hy.dat fun _ e => nomatch e) w q)
  · obtain ⟨a, vs, rfl, h1, r1⟩ := hx.lst rb.sub
    obtain ⟨b, us, rfl, h2, r2⟩ := hy.lst rb.sub
    refine .inr ⟨a, b, vs, us, rfl, rfl, h1, h2, by rw [r1.length, r2.length]; exact w.1, fun p np => ?_⟩
    obtain ⟨l1, l2⟩ := laid_lst rb np (r1.app r2)
    exact q _ _ _ _ n l1 l2 w.2
  · exact .inl (d2_add F H n x y _ _ Q Qd rb (hx.dat fun _ e => nomatch e) (hy.dat fun _ e => nomatch e) w q)
theorem de_plus (ha : DX X g a ma) (hb : DX X g b mb) : DE X g (.BinOp a .Add b pos) (fun δ => bnd (ma δ) fun x => bnd (mb δ) fun y => oPlus x y) := de_opX (op_addA.or op_cat) d2x_plus ha hb
/-- x * y -/
def oTimes (d e : Dt) : Mv Dt := match d, e with
  | .int i, .int j => grd (CMul i j) (ret (.int (i * j)))
  | .str x, .int k => grd (MulOk x k) (ret (.str (Txt.mul x k)))
  | .tuple xs, .int k => grd (xs ≠ [] ∧ 2 ≤ k ∧ k ≤ 1000 ∧ xs.length ≤ 1000) (ret (.tuple (repT xs k)))
  | .list xs, .int k => grd (k ≤ 1000 ∧ 0 ≤ k ∧ xs.length ≤ 1000) (ret (.list (repT xs k)))
  | _, _ => bad
theorem d2x_times : D2X X g (fun x y H Q => rMulA X.K x y H Q ∨ rRep x y H Q) oTimes := by
  intro F H n x y d e Q Qd rb hx hy w q
  cases d <;> cases e <;> first | exact w.elim | skip
  · exact .inl (d2_mul F H n x y _ _ Q Qd rb (hx.dat fun _ e => nomatch e) (hy.dat fun _ e => nomatch e) w q)
  · exact .inl (d2_mul F H n x y _ _ Q Qd rb (hx.dat fun _ e => nomatch e) (hy.dat fun _ e => nomatch e) w q)
  · obtain ⟨a, vs, rfl, h1, r1⟩ := hx.lst rb.sub
    obtain rfl := hy.int
    obtain ⟨⟨w1, w2, w3⟩, w4⟩ := w
    rename_i ds k
    refine .inr ⟨a, k, vs, rfl, rfl, h1, by omega, by omega, ?_, fun p np => ?_⟩
    · rw [r1.length]
      have h2 : k.toNat ≤ 1000 := by omega
      have h3 := Nat.mul_le_mul w3 h2
      exact Nat.le_trans h3 (by decide)
    · obtain ⟨l1, l2⟩ := laid_lst rb np (r1.rep k.toNat)
      exact q _ _ _ _ n l1 l2 w4
  · exact .inl (d2_mul F H n x y _ _ Q Qd rb (hx.dat fun _ e => nomatch e) (hy.dat fun _ e => nomatch e) w q)
theorem de_times (ha : DX X g a ma) (hb : DX X g b mb) : DE X g (.BinOp a .Mult b pos) (fun δ => bnd (ma δ) fun x => bnd (mb δ) fun y => oTimes x y) := de_opX (op_mulA.or op_rep) d2x_times ha hb

/-! ### subscripts -/
def oAt (d i : Dt) : Mv Dt := match d, i with
  | .list xs, .int k => (match L2.atI xs k with | some y => ret y | none => bad)
  | .tuple xs, .int k => (match L2.atI xs k with | some y => ret y | none => bad)
  | .str z, .int k => grd (z.length ≤ sizeLine) (match L2.atI z.cps.toList k with | some c => ret (.str ⟨#[c]⟩) | none => bad)
  | _, _ => bad
theorem d2x_at : D2X X g (rIx X.K) oAt := by
  intro F H n x y d e Q Qd rb hx hy w q
  cases d <;> cases e <;> first | exact w.elim | skip
  · obtain rfl := hx.str
    obtain rfl := hy.int
    obtain ⟨w1, w⟩ := w
    rename_i z k
    cases h : L2.atI z.cps.toList k with
    | none => rw [h] at w; exact w.elim
    | some y =>
      rw [h] at w
      exact .inr (.inr ⟨z, k, y, rfl, rfl, w1, h, q _ _ F H n rb (.str _) w⟩)
  · obtain ⟨a, vs, rfl, h1, r1⟩ := hx.lst rb.sub
    obtain rfl := hy.int
    rename_i ds k
    have w : (match L2.atI ds k with | some y => ret y | none => bad : Mv Dt) n Qd g.W := w
    cases h : L2.atI ds k with
    | none => rw [h] at w; exact w.elim
    | some y =>
      rw [h] at w
      obtain ⟨v, h2, h3⟩ := r1.atI h
      exact .inl ⟨a, vs, k, v, rfl, rfl, SqL.of h1, h2, q _ _ F H n rb h3 w⟩
  · obtain ⟨a, vs, rfl, h1, r1⟩ := hx.tup
    obtain rfl := hy.int
    rename_i ds k
    have w : (match L2.atI ds k with | some y => ret y | none => bad : Mv Dt) n Qd g.W := w
    cases h : L2.atI ds k with
    | none => rw [h] at w; exact w.elim
    | some y =>
      rw [h] at w
      obtain ⟨v, h2, h3⟩ := r1.atI h
      exact .inr (.inl ⟨a, vs, k, v, rfl, rfl, sqT_ext rb.sub h1, h2, q _ _ F H n rb h3 w⟩)
theorem de_at (ha : DX X g a ma) (hb : DX X g b mb) (hs : PlainIx b) : DE X g (.Subscript a b pos) (fun δ => bnd (ma δ) fun x => bnd (mb δ) fun y => oAt x y) := by
  obtain ⟨t, p, ha⟩ := ha
  obtain ⟨u, p2, hb⟩ := hb
  refine ⟨_, pe_ix ix_seq p p2 hs, fun σ H F δ n Q Qd R q w => ?_⟩
  refine ha σ H F δ n _ _ R (fun v d F1 H1 n1 rb rp hq => ?_) w
  refine hb σ H1 F1 δ n1 _ _ (R.ext rb) (fun v2 d2 F2 H2 n2 rb2 rp2 hq2 => ?_) hq
  exact d2x_at F2 H2 n2 v v2 d d2 Q Qd rb2.refl (rp.ext rb2) rp2 hq2 fun v' d' F' H' n' r3 p3 q3 => q v' d' F' H' n' ((rb.trans rb2).trans r3) p3 q3
/-- a slice's bound -/
def DO (X : Cx) (g : Gh) (e : Option Expr) (m : Me (Option Int)) : Prop := ∃ t : TO, PO X e t ∧ ∀ (σ : L2.St) (H F : Hp) (δ : List Ds) (n : Nat) (Q : Option Int → Hp → Prop) (Qd : Kd (Option Int)), g.R X.K F σ H δ n →
  (∀ o F' H' n', RelB g.hd F H F' H' n' → Qd o n' → Q o H') → m δ n Qd g.W → t σ H Q
theorem do_none : DO X g none (fun _ => ret none) := ⟨_, po_none, fun σ H F δ n Q Qd r q w => q none F H n r.b.refl w⟩
def asI (d : Dt) : Mv (Option Int) := match d with
  | .int i => ret (some i)
  | _ => bad
theorem do_some (h : DE X g e ma) : DO X g (some e) (fun δ => bnd (ma δ) asI) := by
  obtain ⟨t, p, h⟩ := h
  refine ⟨_, po_some p, fun σ H F δ n Q Qd r q w => h σ H F δ n _ _ r (fun v d F' H' n' rb rp hq => ?_) w⟩
  cases d with
  | int i => cases rp; exact ⟨i, rfl, q _ F' H' n' rb hq⟩
  | _ => exact hq.elim
def oCut (d : Dt) (lo hi : Option Int) : Mv Dt := match d with
  | .str z => grd (z.length ≤ sizeLine) (ret (.str (Txt.slice z lo hi)))
  | .tuple xs => ret (.tuple (cutD xs lo hi))
  | .list xs => ret (.list (cutD xs lo hi))
  | _ => bad
theorem de_cut {lo hi : Option Expr} {p2 : Pos} {ml mh : Me (Option Int)} (ha : DX X g a ma) (hl : DO X g lo ml) (hh : DO X g hi mh) :
    DE X g (.Subscript a (.Slice lo hi none p2) pos) (fun δ => bnd (ma δ) fun x => bnd (ml δ) fun l => bnd (mh δ) fun h => oCut x l h) := by
  obtain ⟨t, p, ha⟩ := ha
  obtain ⟨u, p3, hl⟩ := hl
  obtain ⟨u2, p4, hh⟩ := hh
  refine ⟨_, pe_slice (C8.sl_txt.or (sl_tupA.or sl_list)) p p3 p4, fun σ H F δ n Q Qd R q w => ?_⟩
  refine ha σ H F δ n _ _ R (fun v d F1 H1 n1 rb rp hq => ?_) w
  refine hl σ H1 F1 δ n1 _ _ (R.ext rb) (fun l F2 H2 n2 rb2 hq2 => ?_) hq
  refine hh σ H2 F2 δ n2 _ _ ((R.ext rb).ext rb2) (fun h F3 H3 n3 rb3 hq3 => ?_) hq2
  have rp3 := (rp.ext rb2).ext rb3
  have RB := (rb.trans rb2).trans rb3
  cases d with
  | str z =>
    obtain rfl := rp3.str
    exact .inl ⟨z, rfl, hq3.1, q _ _ F3 H3 n3 RB (.str _) hq3.2⟩
  | tuple xs =>
    obtain ⟨a, vs, rfl, h1, r1⟩ := rp3.tup
    refine .inr (.inl ⟨a, vs, rfl, sqT_ext rb3.sub h1, fun z => ?_, fun z p np => ?_⟩)
    · rw [r1.length] at z
      have e : Qd (.tuple (cutD xs l h)) n3 := hq3
      rw [cutD_whole z] at e
      exact q _ _ F3 H3 n3 RB (.tup h1 r1) e
    · obtain ⟨l1, l2⟩ := laid_tup RB np (r1.cut l h)
      exact q _ _ _ _ n3 l1 l2 hq3
  | list xs =>
    obtain ⟨a, vs, rfl, h1, r1⟩ := rp3.lst rb3.sub
    refine .inr (.inr ⟨a, vs, rfl, SqL.of h1, fun p np => ?_⟩)
    obtain ⟨l1, l2⟩ := laid_lst RB np (r1.cut l h)
    exact q _ _ _ _ n3 l1 l2 hq3
  | _ => exact hq3.elim
/-- xs[::-1] of a list -/
def oRevL (d : Dt) : Mv Dt := match d with
  | .list xs => ret (.list xs.reverse)
  | _ => bad
theorem de_revL {k : Nat} {p1 p2 p3 : Pos} (ha : DX X g a ma) : DE X g (.Subscript a (.Slice none none (some (.UnaryOp .USub (.Constant (.int 1) k p1) p2)) p3) pos) (fun δ => bnd (ma δ) oRevL) := by
  obtain ⟨t, p, ha⟩ := ha
  refine ⟨_, pe_revL p, fun σ H F δ n Q Qd R q w => ha σ H F δ n _ _ R (fun v d F1 H1 n1 rb rp hq => ?_) w⟩
  cases d with
  | list xs =>
    obtain ⟨a, vs, rfl, h1, r1⟩ := rp.lst rb.sub
    refine ⟨a, vs, rfl, SqL.of h1, fun p np => ?_⟩
    obtain ⟨l1, l2⟩ := laid_lst rb np r1.rev
    exact q _ _ _ _ n1 l1 l2 hq
  | _ => exact hq.elim

/-! ### isinstance -/
def tyOf : Dt → String
  | .none => "NoneType" | .bool _ => "bool" | .int _ => "int" | .str _ => "str" | .list _ => "list" | .tuple _ => "tuple" | .dict _ => "dict"
theorem tyx_of {K : PySem.W.Frag} {H : Hp} {v : V} {d : Dt} (h : Rp K H v d) : TyX K H v (.type (tyOf d)) := by
  cases h with
  | non => exact .base .non
  | bl b => exact .base (.bl b)
  | int i => exact .base (.int i)
  | str x => exact .base (.str x)
  | lst h1 h2 => exact .base (.lst h1)
  | tup h1 h2 =>
    rcases h1 with (h1 | ⟨o, h1⟩) | ⟨o, its, n, h1, h2, h3, h4⟩
    · exact .base (.tup h1)
    · exact .fTuple h1
    · exact .kTuple h1 h2
  | dct h1 h2 => exact .base (.dK h1)
/-- the data of a type -/
def isBool : Dt → Bool
  | .none => false
  | .bool _ => true
  | .int _ => false
  | .str _ => false
  | .list _ => false
  | .tuple _ => false
  | .dict _ => false
def isInt : Dt → Bool
  | .none => false
  | .bool _ => true
  | .int _ => true
  | .str _ => false
  | .list _ => false
  | .tuple _ => false
  | .dict _ => false
def isStr : Dt → Bool
  | .none => false
  | .bool _ => false
  | .int _ => false
  | .str _ => true
  | .list _ => false
  | .tuple _ => false
  | .dict _ => false
def isList : Dt → Bool
  | .none => false
  | .bool _ => false
  | .int _ => false
  | .str _ => false
  | .list _ => true
  | .tuple _ => false
  | .dict _ => false
def isTup : Dt → Bool
  | .none => false
  | .bool _ => false
  | .int _ => false
  | .str _ => false
  | .list _ => false
  | .tuple _ => true
  | .dict _ => false
def isDct : Dt → Bool
  | .none => false
  | .bool _ => false
  | .int _ => false
  | .str _ => false
  | .list _ => false
  | .tuple _ => false
  | .dict _ => true
def isTS (T : String) (f : Dt → Bool) : Prop := ∀ d : Dt, kitB (tyOf d) T = some (f d)
theorem ts_bool : isTS "bool" isBool := fun d => by
  cases d with
  | none => exact (by decide +kernel : kitB "NoneType" "bool" = some false)
  | bool _ => exact (by decide +kernel : kitB "bool" "bool" = some true)
  | int _ => exact (by decide +kernel : kitB "int" "bool" = some false)
  | str _ => exact (by decide +kernel : kitB "str" "bool" = some false)
  | list _ => exact (by decide +kernel : kitB "list" "bool" = some false)
  | tuple _ => exact (by decide +kernel : kitB "tuple" "bool" = some false)
  | dict _ => exact (by decide +kernel : kitB "dict" "bool" = some false)
theorem ts_int : isTS "int" isInt := fun d => by
  cases d with
  | none => exact (by decide +kernel : kitB "NoneType" "int" = some false)
  | bool _ => exact (by decide +kernel : kitB "bool" "int" = some true)
  | int _ => exact (by decide +kernel : kitB "int" "int" = some true)
  | str _ => exact (by decide +kernel : kitB "str" "int" = some false)
  | list _ => exact (by decide +kernel : kitB "list" "int" = some false)
  | tuple _ => exact (by decide +kernel : kitB "tuple" "int" = some false)
  | dict _ => exact (by decide +kernel : kitB "dict" "int" = some false)
theorem ts_str : isTS "str" isStr := fun d => by
  cases d with
  | none => exact (by decide +kernel : kitB "NoneType" "str" = some false)
  | bool _ => exact (by decide +kernel : kitB "bool" "str" = some false)
  | int _ => exact (by decide +kernel : kitB "int" "str" = some false)
  | str _ => exact (by decide +kernel : kitB "str" "str" = some true)
  | list _ => exact (by decide +kernel : kitB "list" "str" = some false)
  | tuple _ => exact (by decide +kernel : kitB "tuple" "str" = some false)
  | dict _ => exact (by decide +kernel : kitB "dict" "str" = some false)
theorem ts_list : isTS "list" isList := fun d => by
  cases d with
  | none => exact (by decide +kernel : kitB "NoneType" "list" = some false)
  | bool _ => exact (by decide +kernel : kitB "bool" "list" = some false)
  | int _ => exact (by decide +kernel : kitB "int" "list" = some false)
  | str _ => exact (by decide +kernel : kitB "str" "list" = some false)
  | list _ => exact (by decide +kernel : kitB "list" "list" = some true)
  | tuple _ => exact (by decide +kernel : kitB "tuple" "list" = some false)
  | dict _ => exact (by decide +kernel : kitB "dict" "list" = some false)
theorem ts_tuple : isTS "tuple" isTup := fun d => by
  cases d with
  | none => exact (by decide +kernel : kitB "NoneType" "tuple" = some false)
  | bool _ => exact (by decide +kernel : kitB "bool" "tuple" = some false)
  | int _ => exact (by decide +kernel : kitB "int" "tuple" = some false)
  | str _ => exact (by decide +kernel : kitB "str" "tuple" = some false)
  | list _ => exact (by decide +kernel : kitB "list" "tuple" = some false)
  | tuple _ => exact (by decide +kernel : kitB "tuple" "tuple" = some true)
  | dict _ => exact (by decide +kernel : kitB "dict" "tuple" = some false)
theorem ts_dict : isTS "dict" isDct := fun d => by
  cases d with
  | none => exact (by decide +kernel : kitB "NoneType" "dict" = some false)
  | bool _ => exact (by decide +kernel : kitB "bool" "dict" = some false)
  | int _ => exact (by decide +kernel : kitB "int" "dict" = some false)
  | str _ => exact (by decide +kernel : kitB "str" "dict" = some false)
  | list _ => exact (by decide +kernel : kitB "list" "dict" = some false)
  | tuple _ => exact (by decide +kernel : kitB "tuple" "dict" = some false)
  | dict _ => exact (by decide +kernel : kitB "dict" "dict" = some true)
theorem de_isi {T : String} {f : Dt → Bool} {Tn : Str} {p pT : Pos} (hk : isTS T f) (hg : Gl X "isinstance") (hm : X.mg "isinstance" = none) (hgT : Gl X Tn) (hmT : X.mg Tn = none) (hvT : bootBuiltins Tn = some (.type T)) (ha : DX X g a ma)
    (hnT : Tn ≠ "__name__" := by decide) (hdT : (Tn == ("__debug__" : Str)) = false := by decide)
    (h1 : starEach [a, .Name Tn pT] X.env = (false, eval a X.env) :: starEach [.Name Tn pT] X.env := by rfl) (h2 : starEach [.Name Tn pT] X.env = (false, eval (.Name Tn pT) X.env) :: starEach [] X.env := by rfl)
    (hpl : (backTo pos (starEach [.Name Tn pT] X.env)).any (·.1) = false := by rfl) :
    DE X g (.Call (.Name "isinstance" p) [a, .Name Tn pT] [] pos) (fun δ => bnd (ma δ) fun d => ret (.bool (f d))) := by
  obtain ⟨t, pt, ha⟩ := ha
  refine ⟨_, pe_callB call_isi hg hm rfl (pa_cons pt (pa_cons (pe_bltn (v := .ty T) hgT hmT hvT rfl hnT hdT) pa_nil h2) h1) (by decide) (by decide) h1 hpl, fun σ H F δ n Q Qd R q w => ha σ H F δ n _ _ R (fun v d F1 H1 n1 rb rp hq => ?_) w⟩
  exact ⟨v, .ty T, _, _, f d, rfl, .ty T, tyx_of (rp.now rb.sub), kit_ty (hk d), q _ _ F1 H1 n1 rb (.bl _) hq⟩

/-! ### all, any, sum, abs, ord, str, int -/
def boolsOf : List Dt → Option (List Bool)
  | [] => some []
  | .bool b :: r => (boolsOf r).map (b :: ·)
  | _ :: _ => none
theorem boolsOf_eq : ∀ {ds : List Dt} {bs : List Bool}, boolsOf ds = some bs → ds = bs.map .bool
  | [], bs, h => by cases h; rfl
  | d :: ds, bs, h => by
    cases d with
    | bool b =>
      have h : (boolsOf ds).map (b :: ·) = some bs := h
      cases e : boolsOf ds with
      | none => rw [e] at h; cases h
      | some r => rw [e] at h; cases h; rw [boolsOf_eq e]; rfl
    | _ => cases h
theorem boolsOf_map : ∀ bs : List Bool, boolsOf (bs.map PyData.bool) = some bs
  | [] => rfl
  | b :: bs => by
    show (boolsOf (bs.map PyData.bool)).map (b :: ·) = _
    rw [boolsOf_map bs]; rfl
def intsOf : List Dt → Option (List Int)
  | [] => some []
  | .int b :: r => (intsOf r).map (b :: ·)
  | _ :: _ => none
theorem intsOf_eq : ∀ {ds : List Dt} {bs : List Int}, intsOf ds = some bs → ds = bs.map .int
  | [], bs, h => by cases h; rfl
  | d :: ds, bs, h => by
    cases d with
    | int b =>
      have h : (intsOf ds).map (b :: ·) = some bs := h
      cases e : intsOf ds with
      | none => rw [e] at h; cases h
      | some r => rw [e] at h; cases h; rw [intsOf_eq e]; rfl
    | _ => cases h
theorem intsOf_map : ∀ bs : List Int, intsOf (bs.map PyData.int) = some bs
  | [] => rfl
  | b :: bs => by
    show (intsOf (bs.map PyData.int)).map (b :: ·) = _
    rw [intsOf_map bs]; rfl
def textsOf : List Dt → Option (List Str)
  | [] => some []
  | .str b :: r => (textsOf r).map (b :: ·)
  | _ :: _ => none
theorem textsOf_eq : ∀ {ds : List Dt} {bs : List Str}, textsOf ds = some bs → ds = bs.map .str
  | [], bs, h => by cases h; rfl
  | d :: ds, bs, h => by
    cases d with
    | str b =>
      have h : (textsOf ds).map (b :: ·) = some bs := h
      cases e : textsOf ds with
      | none => rw [e] at h; cases h
      | some r => rw [e] at h; cases h; rw [textsOf_eq e]; rfl
    | _ => cases h
theorem textsOf_map : ∀ bs : List Str, textsOf (bs.map PyData.str) = some bs
  | [] => rfl
  | b :: bs => by
    show (textsOf (bs.map PyData.str)).map (b :: ·) = _
    rw [textsOf_map bs]; rfl
def oAll : List Dt → Mv Dt
  | [.list ds] => (match boolsOf ds with | some bs => ret (.bool (bs.all id)) | none => bad)
  | _ => bad
def oAny : List Dt → Mv Dt
  | [.list ds] => (match boolsOf ds with | some bs => ret (.bool (bs.any id)) | none => bad)
  | _ => bad
def oSum : List Dt → Mv Dt
  | [.list ds] => (match intsOf ds with | some bs => ret (.int bs.sum) | none => bad)
  | _ => bad
theorem xc_all : XC X (rAll X.K) oAll := by
  intro H n xs ds Q Qd W h w q
  match ds, w with
  | [.list ys], w =>
    obtain ⟨v, rfl, r⟩ := rp1 h
    have w : (match boolsOf ys with | some bs => ret (.bool (bs.all id)) | none => bad : Mv Dt) n Qd W := w
    cases e : boolsOf ys with
    | none => rw [e] at w; exact w.elim
    | some bs =>
      rw [e] at w
      cases r with
      | lst h1 h2 =>
        rw [boolsOf_eq e] at h2
        rw [h2.bools] at h1
        exact ⟨_, bs, rfl, SqL.of h1, q _ _ (fun _ => .bl _) w⟩
theorem xc_any : XC X (rAny X.K) oAny := by
  intro H n xs ds Q Qd W h w q
  match ds, w with
  | [.list ys], w =>
    obtain ⟨v, rfl, r⟩ := rp1 h
    have w : (match boolsOf ys with | some bs => ret (.bool (bs.any id)) | none => bad : Mv Dt) n Qd W := w
    cases e : boolsOf ys with
    | none => rw [e] at w; exact w.elim
    | some bs =>
      rw [e] at w
      cases r with
      | lst h1 h2 =>
        rw [boolsOf_eq e] at h2
        rw [h2.bools] at h1
        exact ⟨_, bs, rfl, SqL.of h1, q _ _ (fun _ => .bl _) w⟩
theorem xc_sum : XC X (rSum X.K) oSum := by
  intro H n xs ds Q Qd W h w q
  match ds, w with
  | [.list ys], w =>
    obtain ⟨v, rfl, r⟩ := rp1 h
    have w : (match intsOf ys with | some bs => ret (.int bs.sum) | none => bad : Mv Dt) n Qd W := w
    cases e : intsOf ys with
    | none => rw [e] at w; exact w.elim
    | some bs =>
      rw [e] at w
      cases r with
      | lst h1 h2 =>
        rw [intsOf_eq e] at h2
        rw [h2.ints] at h1
        exact ⟨_, bs, rfl, SqL.of h1, q _ _ (fun _ => .int _) w⟩
def oAbs : List Dt → Mv Dt
  | [.int i] => ret (.int (if i < 0 then -i else i))
  | _ => bad
theorem xc_abs : XC X (fun xs H Q => ∃ i, xs = [.int i] ∧ Q (.int (if i < 0 then -i else i)) H) oAbs := by
  intro H n xs ds Q Qd W h w q
  match ds, w with
  | [.int i], w =>
    obtain ⟨v, rfl, r⟩ := rp1 h
    cases r
    exact ⟨i, rfl, q _ _ (fun _ => .int _) w⟩
def oOrd : List Dt → Mv Dt
  | [.str x] => grd (x.length = 1) (ret (.int (x.cps.getD 0 0 : Nat)))
  | _ => bad
theorem xc_ord : XC X (fun xs H Q => ∃ x, xs = [.str x] ∧ x.length = 1 ∧ Q (.int (x.cps.getD 0 0 : Nat)) H) oOrd := by
  intro H n xs ds Q Qd W h w q
  match ds, w with
  | [.str x], w =>
    obtain ⟨v, rfl, r⟩ := rp1 h
    cases r
    exact ⟨x, rfl, w.1, q _ _ (fun _ => .int _) w.2⟩
def oStr : List Dt → Mv Dt
  | [.int i] => grd (i.natAbs.log2 < 1920) (ret (.str (toString i)))
  | _ => bad
theorem xc_str : XC X (fun xs H Q => ∃ i, xs = [.int i] ∧ i.natAbs.log2 < 1920 ∧ Q (.str (toString i)) H) oStr := by
  intro H n xs ds Q Qd W h w q
  match ds, w with
  | [.int i], w =>
    obtain ⟨v, rfl, r⟩ := rp1 h
    cases r
    exact ⟨i, rfl, w.1, q _ _ (fun _ => .str _) w.2⟩
def oIntC : List Dt → Mv Dt
  | [.int i] => ret (.int i)
  | [.bool b] => ret (.int (if b then 1 else 0))
  | [.str a] => (match PySem.intText? a with | some k => grd (a.length ≤ 640) (ret (.int k)) | none => bad)
  | _ => bad
def rIntC : List V → Hp → VK → Prop := fun xs H Q => ((∃ i, xs = [.int i] ∧ Q (.int i) H) ∨ ∃ k, xs = [.bl k] ∧ Q (.int (if k then 1 else 0)) H) ∨ (∃ a n, xs = [.str a] ∧ PySem.intText? a = some n ∧ a.length ≤ 640 ∧ Q (.int n) H)
theorem call_intC : CallR X (.type "int") rIntC := call_int1.or call_int_str
theorem xc_intC : XC X rIntC oIntC := by
  intro H n xs ds Q Qd W h w q
  match ds, w with
  | [.int i], w =>
    obtain ⟨v, rfl, r⟩ := rp1 h
    cases r
    exact .inl (.inl ⟨i, rfl, q _ _ (fun _ => .int _) w⟩)
  | [.bool b], w =>
    obtain ⟨v, rfl, r⟩ := rp1 h
    cases r
    exact .inl (.inr ⟨b, rfl, q _ _ (fun _ => .int _) w⟩)
  | [.str a], w =>
    obtain ⟨v, rfl, r⟩ := rp1 h
    cases r
    have w : (match PySem.intText? a with | some k => grd (a.length ≤ 640) (ret (.int k)) | none => bad : Mv Dt) n Qd W := w
    cases e : PySem.intText? a with
    | none => rw [e] at w; exact w.elim
    | some k => rw [e] at w; exact .inr ⟨a, k, rfl, e, w.1, q _ _ (fun _ => .int _) w.2⟩
/-- tuple(xs) -/
def oTupleC (d : Dt) : Mv Dt := match d with
  | .list xs => ret (.tuple xs)
  | .tuple xs => ret (.tuple xs)
  | _ => bad
theorem de_tupleC {p : Pos} (hg : Gl X "tuple") (hm : X.mg "tuple" = none) (ha : DX X g a ma)
    (he : starEach [a] X.env = (false, eval a X.env) :: starEach [] X.env := by rfl) (hpl : (backTo pos (starEach [] X.env)).any (·.1) = false := by rfl) :
    DE X g (.Call (.Name "tuple" p) [a] [] pos) (fun δ => bnd (ma δ) oTupleC) := by
  obtain ⟨t, pt, ha⟩ := ha
  refine ⟨_, pe_callTy call_tuple_of hg hm rfl (pa_cons pt pa_nil he) (by decide) (by decide) he hpl, fun σ H F δ n Q Qd R q w => ha σ H F δ n _ _ R (fun v d F1 H1 n1 rb rp hq => ?_) w⟩
  cases d with
  | list xs =>
    obtain ⟨a, vs, rfl, h1, r1⟩ := rp.lst rb.sub
    refine ⟨a, vs, rfl, .inl ⟨SqL.of h1, fun p np => ?_⟩⟩
    obtain ⟨l1, l2⟩ := laid_tup rb np r1
    exact q _ _ _ _ n1 l1 l2 hq
  | tuple xs =>
    obtain ⟨a, vs, rfl, h1, r1⟩ := rp.tup
    exact ⟨a, vs, rfl, .inr ⟨sqT_ext rb.sub h1, q _ _ F1 H1 n1 rb (.tup h1 r1) hq⟩⟩
  | _ => exact hq.elim

/-! ### methods of texts -/
def XM (X : Cx) (r : V → List V → Hp → VK → Prop) (o : Dt → List Dt → Mv Dt) : Prop := ∀ (H : Hp) (n : Nat) (x : V) (xs : List V) (d : Dt) (ds : List Dt) (Q : VK) (Qd : Kd Dt) (W : Wx), Rp X.K H x d → RpAll X.K H xs ds → o d ds n Qd W → (∀ v d', Sc X.K v d' → Qd d' n → Q v H) → r x xs H Q
/-- the receiver is a text -/
def onStr (d : Dt) (m : Mv Dt) : Mv Dt := match d with
  | .str _ => m
  | _ => bad
theorem de_m0 {id : String} {name : Str} {apos : Pos} {r : V → List V → Hp → VK → Prop} {o : Dt → List Dt → Mv Dt} (slot : Slot "str" name id) (ty : typeOf (.builtin id) = pure (.type "method_descriptor")) (rule : MtR X id r) (k : XM X r o) (ha : DX X g a ma)
    (hbase : attributeBase a name X.env (eval a X.env) = eval a X.env := by rfl) (hline : (apos.endLine == pos.line) = true := by rfl) : DE X g (.Call (.Attribute a name apos) [] [] pos) (fun δ => bnd (ma δ) fun d => onStr d (o d [])) := by
  obtain ⟨t, pt, ha⟩ := ha
  refine ⟨_, pe_m0 slot ty rule pt hbase hline, fun σ H F δ n Q Qd R q w => ha σ H F δ n _ _ R (fun v d F1 H1 n1 rb rp hq => ?_) w⟩
  cases d with
  | str x =>
    have hv := rp.str
    exact ⟨⟨x, hv⟩, k H1 n1 v [] (.str x) [] Q Qd g.W (rp.now rb.sub) .nil hq fun v' d' s hq => q v' d' F1 H1 n1 rb (s F1) hq⟩
  | _ => exact hq.elim
theorem de_m1 {id : String} {name : Str} {apos : Pos} {r : V → List V → Hp → VK → Prop} {o : Dt → List Dt → Mv Dt} (slot : Slot "str" name id) (ty : typeOf (.builtin id) = pure (.type "method_descriptor")) (rule : MtR X id r) (k : XM X r o) (ha : DX X g a ma) (hb : DX X g b mb)
    (hs : starEach [b] X.env = [(false, eval b X.env)] := by rfl) (hbase : attributeBase a name X.env (eval a X.env) = eval a X.env := by rfl) (hline : (apos.endLine == pos.line) = true := by rfl) :
    DE X g (.Call (.Attribute a name apos) [b] [] pos) (fun δ => bnd (ma δ) fun d => onStr d (bnd (mb δ) fun e => o d [e])) := by
  obtain ⟨t, pt, ha⟩ := ha
  obtain ⟨u, pu, hb⟩ := hb
  refine ⟨_, pe_m1 slot ty rule pt pu hs hbase hline, fun σ H F δ n Q Qd R q w => ha σ H F δ n _ _ R (fun v d F1 H1 n1 rb rp hq => ?_) w⟩
  cases d with
  | str x =>
    have hv := rp.str
    refine ⟨⟨x, hv⟩, hb σ H1 F1 δ n1 _ _ (R.ext rb) (fun v2 d2 F2 H2 n2 rb2 rp2 hq2 => ?_) hq⟩
    exact k H2 n2 v [v2] (.str x) [d2] Q Qd g.W ((rp.ext rb2).now rb2.sub) (.cons (rp2.now rb2.sub) .nil) hq2 fun v' d' s hq => q v' d' F2 H2 n2 (rb.trans rb2) (s F2) hq
  | _ => exact hq.elim
/-- o(text, text) without a condition -/
def o11 (f : Str → Str → Dt) : Dt → List Dt → Mv Dt
  | .str x, [.str y] => ret (f x y)
  | _, _ => bad
theorem xm_i {f : Str → Str → Int} : XM X (fun x xs H Q => ∃ a b, x = .str a ∧ xs = [.str b] ∧ Q (.int (f a b)) H) (o11 fun a b => .int (f a b)) := by
  intro H n x xs d ds Q Qd W hx h w q
  match d, ds, w with
  | .str x, [.str y], w =>
    obtain ⟨v, rfl, r⟩ := rp1 h
    cases hx
    cases r
    exact ⟨x, y, rfl, rfl, q _ _ (fun _ => .int _) w⟩
theorem xm_b {f : Str → Str → Bool} : XM X (fun x xs H Q => ∃ a b, x = .str a ∧ xs = [.str b] ∧ Q (.bl (f a b)) H) (o11 fun a b => .bool (f a b)) := by
  intro H n x xs d ds Q Qd W hx h w q
  match d, ds, w with
  | .str x, [.str y], w =>
    obtain ⟨v, rfl, r⟩ := rp1 h
    cases hx
    cases r
    exact ⟨x, y, rfl, rfl, q _ _ (fun _ => .bl _) w⟩
/-- o(text) -/
def o10 (C : Str → Prop) (f : Str → Dt) : Dt → List Dt → Mv Dt
  | .str x, [] => grd (C x) (ret (f x))
  | _, _ => bad
theorem xm_b0 {C : Str → Prop} {f : Str → Bool} : XM X (fun x xs H Q => ∃ a, x = .str a ∧ xs = [] ∧ C a ∧ Q (.bl (f a)) H) (o10 C fun a => .bool (f a)) := by
  intro H n x xs d ds Q Qd W hx h w q
  match d, ds, w with
  | .str x, [], w =>
    cases h
    cases hx
    exact ⟨x, rfl, rfl, w.1, q _ _ (fun _ => .bl _) w.2⟩
theorem xm_s0 {C : Str → Prop} {f : Str → Str} : XM X (fun x xs H Q => ∃ a, x = .str a ∧ xs = [] ∧ C a ∧ Q (.str (f a)) H) (o10 C fun a => .str (f a)) := by
  intro H n x xs d ds Q Qd W hx h w q
  match d, ds, w with
  | .str x, [], w =>
    cases h
    cases hx
    exact ⟨x, rfl, rfl, w.1, q _ _ (fun _ => .str _) w.2⟩
def oFind : Dt → List Dt → Mv Dt := o11 fun a b => .int (Txt.find a b)
theorem de_find {apos : Pos} (ha : DX X g a ma) (hb : DX X g b mb)
    (hs : starEach [b] X.env = [(false, eval b X.env)] := by rfl) (hbase : attributeBase a "find" X.env (eval a X.env) = eval a X.env := by rfl) (hline : (apos.endLine == pos.line) = true := by rfl) :
    DE X g (.Call (.Attribute a "find" apos) [b] [] pos) (fun δ => bnd (ma δ) fun d => onStr d (bnd (mb δ) fun e => oFind d [e])) := de_m1 F.slot_str_find F.type_str_find mt_find xm_i ha hb hs hbase hline
def oJoin (d : Dt) (ds : List Dt) : Mv Dt := match d, ds with
  | .str x, [.list ys] => (match textsOf ys with | some zs => grd ((zs.map (·.length)).sum + zs.length * x.length ≤ 16777216) (ret (.str (Txt.join x zs))) | none => bad)
  | .str x, [.tuple ys] => (match textsOf ys with | some zs => grd ((zs.map (·.length)).sum + zs.length * x.length ≤ 16777216) (ret (.str (Txt.join x zs))) | none => bad)
  | _, _ => bad
theorem xm_join : XM X (fun x xs H Q => ∃ a p, ∃ ys : List Str, x = .str a ∧ xs = [.ref p] ∧ (SqL X.K H p (ys.map V.str) ∨ SqT X.K H p (ys.map V.str)) ∧ (ys.map (·.length)).sum + ys.length * a.length ≤ 16777216 ∧ Q (.str (Txt.join a ys)) H) oJoin := by
  intro H n x xs d ds Q Qd W hx h w q
  match d, ds, w with
  | .str x, [.list ys], w =>
    obtain ⟨v, rfl, r⟩ := rp1 h
    cases hx
    have w : (match textsOf ys with | some zs => grd ((zs.map (·.length)).sum + zs.length * x.length ≤ 16777216) (ret (.str (Txt.join x zs))) | none => bad : Mv Dt) n Qd W := w
    cases e : textsOf ys with
    | none => rw [e] at w; exact w.elim
    | some zs =>
      rw [e] at w
      cases r with
      | lst h1 h2 =>
        rw [textsOf_eq e] at h2
        rw [h2.texts] at h1
        exact ⟨x, _, zs, rfl, rfl, .inl (SqL.of h1), w.1, q _ _ (fun _ => .str _) w.2⟩
  | .str x, [.tuple ys], w =>
    obtain ⟨v, rfl, r⟩ := rp1 h
    cases hx
    have w : (match textsOf ys with | some zs => grd ((zs.map (·.length)).sum + zs.length * x.length ≤ 16777216) (ret (.str (Txt.join x zs))) | none => bad : Mv Dt) n Qd W := w
    cases e : textsOf ys with
    | none => rw [e] at w; exact w.elim
    | some zs =>
      rw [e] at w
      cases r with
      | tup h1 h2 =>
        rw [textsOf_eq e] at h2
        rw [h2.texts] at h1
        exact ⟨x, _, zs, rfl, rfl, .inr h1, w.1, q _ _ (fun _ => .str _) w.2⟩
theorem de_join {apos : Pos} (ha : DX X g a ma) (hb : DX X g b mb)
    (hs : starEach [b] X.env = [(false, eval b X.env)] := by rfl) (hbase : attributeBase a "join" X.env (eval a X.env) = eval a X.env := by rfl) (hline : (apos.endLine == pos.line) = true := by rfl) :
    DE X g (.Call (.Attribute a "join" apos) [b] [] pos) (fun δ => bnd (ma δ) fun d => onStr d (bnd (mb δ) fun e => oJoin d [e])) := de_m1 F.slot_str_join F.type_str_join mt_join xm_join ha hb hs hbase hline

/-! ### a dict's display -/
/-- keys and values of a display -/
def DPs (X : Cx) (g : Gh) (pos : Pos) (ks : List (Option Expr)) (vs : List Expr) (m : Me (List (Dt × Dt))) : Prop := ∃ trs : List (TE × TE), PPs X pos ks vs trs ∧ ∀ (σ : L2.St) (H F : Hp) (δ : List Ds) (n : Nat) (Q : List (V × V) → Hp → Prop) (Qd : Kd (List (Dt × Dt))), g.R X.K F σ H δ n →
  (∀ ps ds F' H' n', RelB g.hd F H F' H' n' → RpAll X.K F' (ps.map (·.1)) (ds.map (·.1)) → RpAll X.K F' (ps.map (·.2)) (ds.map (·.2)) → Qd ds n' → Q ps H') → m δ n Qd g.W → tPairs trs σ H Q
theorem dps_nil : DPs X g pos [] [] (fun _ => ret []) := ⟨[], pps_nil, fun σ H F δ n Q Qd r q w => q [] [] F H n r.b.refl .nil .nil w⟩
theorem dps_cons {ks : List (Option Expr)} {vs : List Expr} {mr : Me (List (Dt × Dt))} (ha : DE X g a ma) (hb : DE X g b mb) (hr : DPs X g pos ks vs mr) :
    DPs X g pos (some a :: ks) (b :: vs) (fun δ => bnd (ma δ) fun x => bnd (mb δ) fun y => bnd (mr δ) fun r => ret ((x, y) :: r)) := by
  obtain ⟨t, p, ha⟩ := ha
  obtain ⟨u, p2, hb⟩ := hb
  obtain ⟨trs, p3, hr⟩ := hr
  refine ⟨_, pps_cons p p2 p3, fun σ H F δ n Q Qd R q w => ?_⟩
  refine ha σ H F δ n _ _ R (fun v d F1 H1 n1 rb rp hq => ?_) w
  refine hb σ H1 F1 δ n1 _ _ (R.ext rb) (fun v2 d2 F2 H2 n2 rb2 rp2 hq2 => ?_) hq
  refine hr σ H2 F2 δ n2 _ _ ((R.ext rb).ext rb2) (fun ps ds F3 H3 n3 rb3 r1 r2 hq3 => ?_) hq2
  exact q ((v, v2) :: ps) ((d, d2) :: ds) F3 H3 n3 ((rb.trans rb2).trans rb3) (.cons ((rp.ext' rb2.f0).ext' rb3.f0) r1) (.cons (rp2.ext' rb3.f0) r2) hq3
def keyOf : Dt → Option Key
  | .int i => some (.inl i)
  | .str x => some (.inr x)
  | _ => none
/-- the entries by keys, where all are ints and texts -/
def keysOf : List (Dt × Dt) → Option (List Key)
  | [] => some []
  | (k, _) :: r => match keyOf k, keysOf r with
    | some k, some ks => some (k :: ks)
    | _, _ => none
theorem mergeK_nodup : ∀ (more kvs : List (Key × V)), (∀ p ∈ more, ∀ q ∈ kvs, q.1 ≠ p.1) → (more.map (·.1)).Nodup → mergeK kvs more = kvs ++ more
  | [], kvs, _, _ => by simp [mergeK]
  | p :: r, kvs, h, nd => by
    have e : putK kvs p.1 p.2 = kvs ++ [p] := by
      unfold putK
      rw [if_neg]
      simp only [List.any_eq_true, decide_eq_true_eq, not_exists, not_and]
      exact fun q hq => h p List.mem_cons_self q hq
    have nd' : p.1 ∉ r.map (·.1) ∧ (r.map (·.1)).Nodup := by simpa using nd
    show mergeK (putK kvs p.1 p.2) r = _
    rw [e, mergeK_nodup r (kvs ++ [p]) ?_ nd'.2]
    · simp
    · intro x hx q hq
      rcases List.mem_append.mp hq with hq | hq
      · exact h x (List.mem_cons_of_mem _ hx) q hq
      · have : q = p := by simpa using hq
        subst this
        exact fun e => nd'.1 (List.mem_map.mpr ⟨x, hx, e.symm⟩)
theorem keyed {K : PySem.W.Frag} {F : Hp} : ∀ {ps : List (V × V)} {ds : List (Dt × Dt)} {ks : List Key}, keysOf ds = some ks → RpAll K F (ps.map (·.1)) (ds.map (·.1)) → RpAll K F (ps.map (·.2)) (ds.map (·.2)) →
    ∃ kvs : List (Key × V), ps = kvs.map (fun kv => (kV kv.1, kv.2)) ∧ kvs.map (·.1) = ks ∧ RpKv K F kvs ds
  | ps, [], ks, e, h, _ => by
    cases ps with
    | nil => cases e; exact ⟨[], rfl, rfl, .nil⟩
    | cons p r => cases h
  | ps, (k, d) :: ds, ks, e, h, h' => by
    cases ps with
    | nil => cases h
    | cons p r =>
      obtain ⟨pk, pv⟩ := p
      cases h with
      | cons h1 h2 =>
        cases h' with
        | cons h3 h4 =>
          cases ek : keyOf k with
          | none => simp only [keysOf, ek] at e; cases e
          | some k0 =>
            cases er : keysOf ds with
            | none => simp only [keysOf, ek, er] at e; cases e
            | some ks0 =>
              simp only [keysOf, ek, er] at e
              cases e
              obtain ⟨kvs, e1, e2, e3⟩ := keyed er h2 h4
              have hk : k = kD k0 ∧ pk = kV k0 := by
                cases k <;> first | cases ek
                · cases h1; exact ⟨rfl, rfl⟩
                · cases h1; exact ⟨rfl, rfl⟩
              obtain ⟨hk1, hk2⟩ := hk
              have hpk : pk = kV k0 := hk2
              refine ⟨(k0, pv) :: kvs, by rw [e1, hpk]; rfl, by rw [← e2]; rfl, ?_⟩
              rw [hk1]
              exact .cons h3 e3
instance (ks : List Key) : Decidable ks.Nodup := inferInstance
def oDisp (ds : List (Dt × Dt)) : Mv Dt := match keysOf ds with
  | some ks => grd (ks.Nodup ∧ ds.length ≤ 15) (ret (.dict ds))
  | none => bad
theorem RpKv.length {K : PySem.W.Frag} {F : Hp} : ∀ {kvs : List (Key × V)} {es : List (Dt × Dt)}, RpKv K F kvs es → kvs.length = es.length
  | _, [], h => by cases h; rfl
  | _, e :: es, h => by
    cases h with
    | cons h1 h2 => rw [List.length_cons, List.length_cons, RpKv.length h2]
theorem de_disp {ks : List (Option Expr)} {vs : List Expr} {m : Me (List (Dt × Dt))} (h : DPs X g pos ks vs m) (hall : ks.all (·.isSome) = true := by rfl) (hl : ks.length = vs.length := by rfl) (h0 : ks ≠ [] := by exact fun z => nomatch z) (h15 : ks.length ≤ 15 := by decide) :
    DE X g (.Dict ks vs pos) (fun δ => bnd (m δ) oDisp) := by
  obtain ⟨trs, p, h⟩ := h
  refine ⟨_, pe_disp p hall hl h0 h15, fun σ H F δ n Q Qd R q w p np => ?_⟩
  -- the empty dict is there while the pairs are made: it is not frozen
  have R1 : g.R X.K F σ (upd H p (.dK [])) δ n := R.ext (R.b.refl.layH np)
  refine h σ (upd H p (.dK [])) F δ n _ _ R1 (fun ps ds F1 H1 n1 rb r1 r2 hq => ?_) w
  unfold oDisp at hq
  cases e : keysOf ds with
  | none => rw [e] at hq; exact hq.elim
  | some ks0 =>
    rw [e] at hq
    obtain ⟨⟨nd, h15'⟩, hq⟩ := hq
    obtain ⟨kvs, e1, e2, e3⟩ := keyed e r1 r2
    have ni : ¬ InHd g.hd p := fun i => by
      obtain ⟨o, z⟩ := R.b.hand.there i
      rw [np] at z; cases z
    have hp1 : H1 p = some (.dK []) := rb.h0 p _ upd_same ni
    have em : mergeK [] kvs = kvs := by
      rw [mergeK_nodup kvs [] (fun _ _ _ z => nomatch z) (by rw [e2]; exact nd)]
      rfl
    refine ⟨hp1, kvs, e1, by rw [e3.length]; exact h15', ?_⟩
    rw [em]
    have fp1 : F1 p = none := by
      cases z : F1 p with
      | none => rfl
      | some u =>
        rcases rb.fnew p u z with y | y
        · rw [free_of R.b.sub np] at y; cases y
        · rw [upd_same] at y; cases y
    -- from the heap before the display
    have RB : RelB g.hd F H F1 H1 n1 := ⟨rb.sub, rb.f0, fun b o hb i => rb.h0 b o (by rw [upd_ne (fun z => by rw [z, np] at hb; cases hb)]; exact hb) i, fun b o hb => by
      rcases rb.fnew b o hb with z | z
      · exact .inl z
      · right
        by_cases y : b = p
        · rw [y]; exact np
        · rw [upd_ne y] at z; exact z, rb.hand, rb.hfree⟩
    have RB2 := RB.change (o := .dK kvs) fp1 np ni
    have RB3 := RB2.freeze (p := p) (o := .dK kvs) upd_same fp1 np ni
    have ex : Same F1 (upd F1 p (.dK kvs)) := fun b o hb => by
      rw [upd_ne (fun z => by rw [z, fp1] at hb; cases hb)]; exact hb
    exact q _ _ _ _ n1 RB3 (.dct upd_same (RpKv.ext ex _ e3)) hq

/-! ### f-strings -/
def oFmt (d : Dt) : Mv Dt := match d with
  | .str y => grd (y.length ≤ sizeLine) (ret (.str y))
  | .int i => grd (i.natAbs.log2 < 1920) (ret (.str (toString i)))
  | _ => bad
theorem de_fmt (ha : DE X g a ma) : DE X g (.FormattedValue a (-1) none pos) (fun δ => bnd (ma δ) oFmt) := by
  obtain ⟨t, p, ha⟩ := ha
  refine ⟨_, pe_fmt p, fun σ H F δ n Q Qd R q w => ha σ H F δ n _ _ R (fun v d F' H' n' rb rp hq => ?_) w⟩
  cases d with
  | str y => cases rp; exact .inl ⟨y, rfl, hq.1, q _ _ F' H' n' rb (.str _) hq.2⟩
  | int i => cases rp; exact .inr ⟨i, rfl, hq.1, q _ _ F' H' n' rb (.str _) hq.2⟩
  | _ => exact hq.elim
def DJ (X : Cx) (g : Gh) (es : List Expr) (m : Me (List Dt)) : Prop := ∃ ts : List TE, PJ X es ts ∧ ∀ (σ : L2.St) (H F : Hp) (δ : List Ds) (n : Nat) (acc : Str) (Q : Str → Hp → Prop) (Qd : Kd Str), g.R X.K F σ H δ n →
  (∀ out F' H' n', RelB g.hd F H F' H' n' → Qd out n' → Q out H') → (bnd (m δ) fun ds => (match textsOf ds with | some xs => grd ((xs.foldl (· ++ ·) acc).length ≤ sizeLine) (ret (xs.foldl (· ++ ·) acc)) | none => bad)) n Qd g.W → tJs ts acc σ H Q
end
end Dl
namespace Dl
open PySem PySem.Spec L2

/-! ### what is walked -/
def LimH (K : PySem.W.Frag) (H : Hp) : Prop := ∀ a xs, SqL K H a xs ∨ SqT K H a xs → xs.length ≤ sizeLine
theorem lim_of {X : Cx} {pins : List (Addr × Obj)} {σ : L2.St} {H : Hp} {s : Shared} (I : Inv X pins σ H s) : LimH X.K H := fun a xs h => by
  rcases h with h | h
  · obtain ⟨_, _, _, z⟩ := I.list h; exact z
  · obtain ⟨_, _, _, z⟩ := I.tuple h; exact z
theorem PI.lim {X : Cx} {tg it : Expr} {wi : TI} (h : PI X tg it wi) : PI X tg it (fun σ H R => wi σ H fun J H' => LimH X.K H' → R J H') :=
  ⟨fun pins s σ H R I w => thn (h.run pins s σ H _ I w) fun v s1 h1 => thn h1 fun itv s2 ⟨a, fp, tn, J, H', e, I', T, st, f, r⟩ => ⟨a, fp, tn, J, H', e, I', T, st, f, r (lim_of I')⟩⟩
/-- the walk yields these data, whatever else is laid meanwhile -/
def ItX (K : PySem.W.Frag) (hd : Hd) (J : It) (items : List Dt) (F H : Hp) : Prop := ∀ (i : Nat) (F2 H2 : Hp) (n : Nat), RelB hd F H F2 H2 n → i ≤ items.length →
  (i = items.length → J.stop i H2) ∧ (∀ d, items[i]? = some d → J.go i H2 ∧ ∀ x H3, J.yld i H2 x H3 → ∃ F3, RelB hd F2 H2 F3 H3 n ∧ Rp K F3 x d)
/-- .. as long as what was frozen stays -/
def ItF (K : PySem.W.Frag) (hd : Hd) (J : It) (items : List Dt) (F : Hp) : Prop := ∀ (i : Nat) (F2 H2 : Hp) (n : Nat), Same F F2 → RelB hd F2 H2 F2 H2 n → i ≤ items.length →
  (i = items.length → J.stop i H2) ∧ (∀ d, items[i]? = some d → J.go i H2 ∧ ∀ x H3, J.yld i H2 x H3 → ∃ F3, RelB hd F2 H2 F3 H3 n ∧ Rp K F3 x d)
def DI (X : Cx) (g : Gh) (tg it : Expr) (m : Me (List Dt)) : Prop := ∃ wi : TI, PI X tg it wi ∧ ∀ (σ : L2.St) (H F : Hp) (δ : List Ds) (n : Nat) (R : It → Hp → Prop) (Qd : Kd (List Dt)), g.R X.K F σ H δ n →
  (∀ J items F' H' n', RelB g.hd F H F' H' n' → ItX X.K g.hd J items F' H' → items.length ≤ sizeLine → Qd items n' → R J H') → m δ n Qd g.W → wi σ H R
def DF (X : Cx) (g : Gh) (tg it : Expr) (m : Me (List Dt)) : Prop := ∃ wi : TI, PI X tg it wi ∧ ∀ (σ : L2.St) (H F : Hp) (δ : List Ds) (n : Nat) (R : It → Hp → Prop) (Qd : Kd (List Dt)), g.R X.K F σ H δ n →
  (∀ J items F' H' n', RelB g.hd F H F' H' n' → ItF X.K g.hd J items F' → items.length ≤ sizeLine → Qd items n' → R J H') → m δ n Qd g.W → wi σ H R
section
variable {X : Cx} {g : Gh} {tg a b c e it : Expr} {es : List Expr} {pos : Pos} {ma mb mc : Me Dt}
theorem DF.di {m : Me (List Dt)} (h : DF X g tg it m) : DI X g tg it m := by
  obtain ⟨wi, p, h⟩ := h
  exact ⟨wi, p, fun σ H F δ n R Qd r q w => h σ H F δ n R Qd r (fun J items F' H' n' rb i z hq => q J items F' H' n' rb (fun i' F2 H2 n2 rb2 => i i' F2 H2 n2 rb2.f0 rb2.refl) z hq) w⟩
def itL (d : Dt) : Mv (List Dt) := match d with
  | .list xs => ret xs
  | _ => bad
def itT (d : Dt) : Mv (List Dt) := match d with
  | .tuple xs => ret xs
  | _ => bad
def charsD (x : Str) : List Dt := x.cps.toList.map fun c => PyData.str ⟨#[c]⟩
def itS (d : Dt) : Mv (List Dt) := match d with
  | .str x => grd (x.length ≤ sizeLine) (ret (charsD x))
  | _ => bad
theorem at_list {K : PySem.W.Frag} {hd : Hd} {F H : Hp} {n : Nat} {a : Addr} {vs : List V} {ds : List Dt} (sq : SqL K H a vs) (uq : ∀ xs, SqL K H a xs → xs = vs) (ra : RpAll K F vs ds) (rb : RelB hd F H F H n) (i : Nat) (hi : i ≤ ds.length) :
    (i = ds.length → (Itl K a).stop i H) ∧ (∀ d, ds[i]? = some d → (Itl K a).go i H ∧ ∀ x H3, (Itl K a).yld i H x H3 → ∃ F3, RelB hd F H F3 H3 n ∧ Rp K F3 x d) := by
  refine ⟨fun e => ⟨vs, sq, by rw [ra.length]; omega⟩, fun d hd' => ?_⟩
  obtain ⟨v, h1, h2⟩ := ra.at hd'
  refine ⟨⟨vs, v, sq, h1⟩, fun x H3 y => ?_⟩
  obtain ⟨rfl, y⟩ := y
  have e := y vs sq
  rw [h1] at e
  cases e
  exact ⟨F, rb, h2⟩
theorem sqL_inj {K : PySem.W.Frag} {H : Hp} {a : Addr} {vs xs : List V} (h : H a = some (.lst vs)) (hK : K.lookup a = none) (q : SqL K H a xs) : xs = vs := by
  rcases q with (q | ⟨o, q⟩) | ⟨o, its, n, q, _⟩
  · rw [h] at q; cases q; rfl
  · rw [h] at q; cases q
  · rw [hK] at q; cases q
/-- what is tracked is none of the written part -/
def ApK (K : PySem.W.Frag) (H : Hp) : Prop := ∀ a o, H a = some o → K.lookup a = none
theorem apK_of {X : Cx} {pins : List (Addr × Obj)} {σ : L2.St} {H : Hp} {s : Shared} (I : Inv X pins σ H s) : ApK X.K H := fun a o h => by
  cases e : X.K.lookup a with
  | none => rfl
  | some u =>
    obtain ⟨_, z⟩ := I.bs a u (I.ok.mod.kin a u e)
    rw [h] at z; cases z
theorem PI.ap {X : Cx} {tg it : Expr} {wi : TI} (h : PI X tg it wi) : PI X tg it (fun σ H R => wi σ H fun J H' => ApK X.K H' → LimH X.K H' → R J H') :=
  ⟨fun pins s σ H R I w => thn (h.run pins s σ H _ I w) fun v s1 h1 => thn h1 fun itv s2 ⟨a, fp, tn, J, H', e, I', T, st, f, r⟩ => ⟨a, fp, tn, J, H', e, I', T, st, f, r (apK_of I') (lim_of I')⟩⟩
theorem di_list (ha : DX X g a ma) : DI X g tg a (fun δ => bnd (ma δ) itL) := by
  obtain ⟨t, p, ha⟩ := ha
  refine ⟨_, PI.ap (pi_list p), fun σ H F δ n R Qd r q w => ha σ H F δ n _ _ r (fun v d F1 H1 n1 rb rp hq => ?_) w⟩
  cases d with
  | list ds =>
    obtain ⟨a, vs, rfl, h1, r1⟩ := rp.lst rb.sub
    refine ⟨a, rfl, ⟨vs, SqL.of h1⟩, fun ak lim => q _ ds F1 H1 n1 rb (fun i F2 H2 n2 rb2 hi => ?_) (by rw [← r1.length]; exact lim a vs (.inl (SqL.of h1))) hq⟩
    have h2 : H2 a = some (.lst vs) := by
      rcases rp with rp | ⟨a', vs', ds', e1, e2, h3, h4, h5⟩
      · cases rp with
        | lst h3 h4 =>
          have z := rb2.sub _ _ (rb2.f0 _ _ h3)
          have z2 := rb.sub _ _ h3
          rw [h1] at z2; cases z2
          exact z
      · cases e1
        exact rb2.h0 _ _ h1 h4
    exact at_list (SqL.of h2) (fun xs sx => sqL_inj h2 (ak a _ h1) sx) (r1.ext' rb2.f0) rb2.refl i hi
  | _ => exact hq.elim
theorem df_list (ha : DE X g a ma) : DF X g tg a (fun δ => bnd (ma δ) itL) := by
  obtain ⟨t, p, ha⟩ := ha
  refine ⟨_, PI.ap (pi_list p), fun σ H F δ n R Qd r q w => ha σ H F δ n _ _ r (fun v d F1 H1 n1 rb rp hq => ?_) w⟩
  cases d with
  | list ds =>
    cases rp with
    | @lst a vs _ h1 r1 =>
      have h1' := rb.sub _ _ h1
      refine ⟨a, rfl, ⟨vs, SqL.of h1'⟩, fun ak lim => q _ ds F1 H1 n1 rb (fun i F2 H2 n2 sm rb2 hi => ?_) (by rw [← r1.length]; exact lim a vs (.inl (SqL.of h1'))) hq⟩
      have h2 : H2 a = some (.lst vs) := rb2.sub _ _ (sm _ _ h1)
      exact at_list (SqL.of h2) (fun xs sx => sqL_inj h2 (ak a _ h1') sx) (r1.ext' sm) rb2 i hi
  | _ => exact hq.elim
theorem df_tup (ha : DE X g a ma) : DF X g tg a (fun δ => bnd (ma δ) itT) := by
  obtain ⟨t, p, ha⟩ := ha
  refine ⟨_, PI.ap (pi_tup p), fun σ H F δ n R Qd r q w => ha σ H F δ n _ _ r (fun v d F1 H1 n1 rb rp hq => ?_) w⟩
  cases d with
  | tuple ds =>
    cases rp with
    | @tup a vs _ h1 r1 =>
      have h1' := sqT_ext rb.sub h1
      refine ⟨a, rfl, ⟨vs, h1'⟩, fun ak lim => q _ ds F1 H1 n1 rb (fun i F2 H2 n2 sm rb2 hi => ?_) (by rw [← r1.length]; exact lim a vs (.inr h1')) hq⟩
      have h2 := sqT_ext rb2.sub (sqT_ext sm h1)
      refine ⟨fun e => ⟨vs, h2, by rw [r1.length]; omega⟩, fun d hd' => ?_⟩
      obtain ⟨v, h3, h4⟩ := (r1.ext' sm).at hd'
      refine ⟨⟨vs, v, h2, h3⟩, fun x H3 y => ?_⟩
      obtain ⟨rfl, y⟩ := y
      have e := y vs h2
      rw [h3] at e
      cases e
      exact ⟨F2, rb2, h4⟩
  | _ => exact hq.elim
theorem df_str (ha : DE X g a ma) : DF X g tg a (fun δ => bnd (ma δ) itS) := by
  obtain ⟨t, p, ha⟩ := ha
  refine ⟨_, pi_str p, fun σ H F δ n R Qd r q w => ha σ H F δ n _ _ r (fun v d F1 H1 n1 rb rp hq => ?_) w⟩
  cases d with
  | str x =>
    cases rp
    have hl : (charsD x).length = x.length := by unfold charsD Str.length; simp
    refine ⟨x, rfl, q _ (charsD x) F1 H1 n1 rb (fun i F2 H2 n2 sm rb2 hi => ?_) (by rw [hl]; exact hq.1) hq.2⟩
    refine ⟨fun e => ?_, fun d hd' => ?_⟩
    · rw [hl] at e
      have e : i = x.cps.size := e
      show x.cps.size ≤ i
      omega
    · unfold charsD at hd'
      rw [List.getElem?_map] at hd'
      obtain ⟨c, hc, rfl⟩ := Option.map_eq_some_iff.mp hd'
      have hc' : x.cps[i]? = some c := by simpa using hc
      refine ⟨?_, fun y H3 hy => ?_⟩
      · show i < x.cps.size
        by_cases z : i < x.cps.size
        · exact z
        · rw [Array.getElem?_eq_none (by omega)] at hc'; cases hc'
      · obtain ⟨rfl, c', e1, rfl⟩ := hy
        rw [hc'] at e1; cases e1
        exact ⟨F2, rb2, .str _⟩
  | _ => exact hq.elim
/-- range(n), range(a, b) -/
def upTo (lo : Int) (n : Nat) : List Dt := (List.range n).map fun (i : Nat) => PyData.int (lo + (i : Int))
theorem upTo_length (lo : Int) (n : Nat) : (upTo lo n).length = n := by simp [upTo]
theorem at_range {K : PySem.W.Frag} {hd : Hd} {lo : Int} {m : Nat} {F : Hp} : ItF K hd (Itr lo m) (upTo lo m) F := by
  intro i F2 H2 n2 sm rb2 hi
  rw [upTo_length] at hi ⊢
  refine ⟨fun e => ?_, fun d hd' => ?_⟩
  · show m ≤ i
    omega
  · unfold upTo at hd'
    rw [List.getElem?_map] at hd'
    obtain ⟨j, hj, rfl⟩ := Option.map_eq_some_iff.mp hd'
    have hj2 : i < m ∧ i = j := by
      by_cases z : i < m
      · rw [List.getElem?_range z] at hj; cases hj; exact ⟨z, rfl⟩
      · rw [List.getElem?_eq_none (by simpa using z)] at hj; cases hj
    obtain ⟨h1, rfl⟩ := hj2
    refine ⟨h1, fun y H3 hy => ?_⟩
    obtain ⟨rfl, rfl⟩ := hy
    exact ⟨F2, rb2, .int _⟩
def itR1 (d : Dt) : Mv (List Dt) := match d with
  | .int k => grd (k ≤ 16000000) (ret (upTo 0 k.toNat))
  | _ => bad
theorem df_range1 {p : Pos} (hg : Gl X "range") (hm : X.mg "range" = none) (ha : DE X g a ma) (hs : starEach [a] X.env = (false, eval a X.env) :: starEach [] X.env := by rfl) (hs' : starEach [a] X.env = [(false, eval a X.env)] := by rfl)
    (lo : ∀ k : Int, k ≤ 16000000 → -(2 ^ 62) ≤ k ∨ k < -(2 ^ 62) := by intro k _; omega) :
    DF X g tg (.Call (.Name "range" p) [a] [] pos) (fun δ => bnd (ma δ) fun d => match d with | .int k => grd (-(2 ^ 62) ≤ k ∧ k ≤ 16000000) (ret (upTo 0 k.toNat)) | _ => bad) := by
  obtain ⟨t, p, ha⟩ := ha
  refine ⟨_, pi_range1 hg hm (pa_cons p pa_nil hs) hs', fun σ H F δ n R Qd r q w => ha σ H F δ n _ _ r (fun v d F1 H1 n1 rb rp hq => ?_) w⟩
  cases d with
  | int k =>
    cases rp
    obtain ⟨⟨h1, h2⟩, hq⟩ := hq
    refine ⟨k, rfl, h1, by omega, q _ _ F1 H1 n1 rb at_range ?_ hq⟩
    rw [upTo_length]
    exact Nat.le_trans (show k.toNat ≤ 16000000 by omega) (by decide)
  | _ => exact hq.elim
theorem df_range2 {p : Pos} (hg : Gl X "range") (hm : X.mg "range" = none) (ha : DE X g a ma) (hb : DE X g b mb) (hs : starEach [a, b] X.env = (false, eval a X.env) :: starEach [b] X.env := by rfl) (hs0 : starEach [b] X.env = (false, eval b X.env) :: starEach [] X.env := by rfl)
    (hs' : starEach [a, b] X.env = [(false, eval a X.env), (false, eval b X.env)] := by rfl) (hs2 : starEach [b] X.env = [(false, eval b X.env)] := by rfl) :
    DF X g tg (.Call (.Name "range" p) [a, b] [] pos) (fun δ => bnd (ma δ) fun d => bnd (mb δ) fun e => match d, e with | .int k, .int l => grd (-(2 ^ 61) ≤ k ∧ k < 2 ^ 61 ∧ -(2 ^ 61) ≤ l ∧ l ≤ k + 16000000) (ret (upTo k (l - k).toNat)) | _, _ => bad) := by
  obtain ⟨t, p, ha⟩ := ha
  obtain ⟨u, p2, hb⟩ := hb
  refine ⟨_, pi_range2 hg hm (pa_cons p (pa_cons p2 pa_nil hs0) hs) hs' hs2, fun σ H F δ n R Qd r q w => ha σ H F δ n _ _ r (fun v d F1 H1 n1 rb rp hq => ?_) w⟩
  refine hb σ H1 F1 δ n1 _ _ (r.ext rb) (fun v2 d2 F2 H2 n2 rb2 rp2 hq2 => ?_) hq
  cases d <;> cases d2 <;> first | exact hq2.elim | skip
  cases rp; cases rp2
  rename_i k l
  obtain ⟨⟨h1, h2, h3, h4⟩, hq3⟩ := hq2
  refine ⟨k, l, rfl, ⟨by omega, by omega, by omega, by omega⟩, q _ _ F2 H2 n2 (rb.trans rb2) at_range ?_ hq3⟩
  rw [upTo_length]
  exact Nat.le_trans (show (l - k).toNat ≤ 16000000 by omega) (by decide)

/-! ### targets -/
def DG (X : Cx) (g : Gh) (tg : Expr) (is : List Nat) (m : Dt → List Ds → Mv (List Ds)) : Prop := ∃ t : TG, PG X tg t ∧ ∀ (v : V) (d : Dt) (σ : L2.St) (H F : Hp) (δ : List Ds) (n : Nat) (Q : L2.St → Hp → Prop) (Qd : Kd (List Ds)), g.R X.K F σ H δ n → Rp X.K F v d →
  (∀ σ' δ', g.R X.K F σ' H δ' n → σ'.length = σ.length → (∀ j, j ∉ is → σ'[j]? = σ[j]?) → Qd δ' n → Q σ' H) → m d δ n Qd g.W → t v σ H Q
def DGs (X : Cx) (g : Gh) (ts : List Expr) (is : List Nat) (m : List Dt → List Ds → Mv (List Ds)) : Prop := ∃ t : TGs, PGs X ts t ∧ ∀ (vs : List V) (ds : List Dt) (σ : L2.St) (H F : Hp) (δ : List Ds) (n : Nat) (Q : L2.St → Hp → Prop) (Qd : Kd (List Ds)), g.R X.K F σ H δ n → RpAll X.K F vs ds →
  (∀ σ' δ', g.R X.K F σ' H δ' n → σ'.length = σ.length → (∀ j, j ∉ is → σ'[j]? = σ[j]?) → Qd δ' n → Q σ' H) → m ds δ n Qd g.W → t vs σ H Q
def gN (i : Nat) (d : Dt) (δ : List Ds) : Mv (List Ds) := ret (δ.set i (.d d))
theorem dg_name (i : Nat) {x : Str} (hN : X.N.Nodup) (hi : X.N[i]? = some x := by rfl) (hx : Loc X.env.scope x := by first | exact Or.inl rfl | exact Or.inr rfl) (hf : X.fn x = true ∨ X.env.scope.names.lookup x = some .local := by first | exact .inl rfl | exact .inr rfl) : DG X g (.Name x pos) [i] (gN i) := by
  refine ⟨_, pg_name hN hi hx hf, fun v d σ H F δ n Q Qd r rp q w => q _ _ (r.put i rp) (List.length_set ..) (fun j hj => ?_) w⟩
  rw [List.getElem?_set_ne]
  intro e
  exact hj (by rw [e]; simp)
def gsNil (ds : List Dt) (δ : List Ds) : Mv (List Ds) := match ds with
  | [] => ret δ
  | _ => bad
def gsCons (m1 : Dt → List Ds → Mv (List Ds)) (m2 : List Dt → List Ds → Mv (List Ds)) (ds : List Dt) (δ : List Ds) : Mv (List Ds) := match ds with
  | d :: r => bnd (m1 d δ) (m2 r)
  | _ => bad
theorem dgs_nil : DGs X g [] [] gsNil := by
  refine ⟨_, pgs_nil, fun vs ds σ H F δ n Q Qd r rp q w => ?_⟩
  cases ds with
  | nil => cases rp; exact ⟨rfl, q σ δ r rfl (fun _ _ => rfl) w⟩
  | cons d ds => exact w.elim
theorem dgs_cons {is js : List Nat} {m1 : Dt → List Ds → Mv (List Ds)} {m2 : List Dt → List Ds → Mv (List Ds)} (h : DG X g e is m1) (hr : DGs X g es js m2)
    (hs : (assignEach (e :: es) X.env).map (·.2) = assign e X.env :: (assignEach es X.env).map (·.2) := by rfl) : DGs X g (e :: es) (is ++ js) (gsCons m1 m2) := by
  obtain ⟨t, p, h⟩ := h
  obtain ⟨u, p2, hr⟩ := hr
  refine ⟨_, pgs_cons p p2 hs, fun vs ds σ H F δ n Q Qd r rp q w => ?_⟩
  cases ds with
  | nil => exact w.elim
  | cons d ds =>
    cases rp with
    | @cons v vr _ _ h1 h2 =>
      refine ⟨v, vr, rfl, h v d σ H F δ n _ _ r h1 (fun σ1 δ1 r1 l1 k1 hq => ?_) w⟩
      refine hr vr ds σ1 H F δ1 n _ _ r1 h2 (fun σ2 δ2 r2 l2 k2 hq2 => ?_) hq
      refine q σ2 δ2 r2 (l2.trans l1) (fun j hj => ?_) hq2
      rw [List.mem_append, not_or] at hj
      rw [k2 j hj.2, k1 j hj.1]
def gTupM (m : List Dt → List Ds → Mv (List Ds)) (k : Nat) (d : Dt) (δ : List Ds) : Mv (List Ds) := match d with
  | .tuple ds => grd (ds.length = k) (m ds δ)
  | _ => bad
theorem dg_tup {is : List Nat} {m : List Dt → List Ds → Mv (List Ds)} {k k2 : Nat} (hc : X.calm = true) (h : DGs X g es is m) (hn : (assignEach es X.env).length = k := by rfl) (hst : (assignEach es X.env).findIdx? (·.1) = none := by rfl) : DG X g (.Tuple es k2 pos) is (gTupM m k) := by
  obtain ⟨t, p, h⟩ := h
  refine ⟨_, pg_tup hc p hn hst, fun v d σ H F δ n Q Qd r rp q w => ?_⟩
  cases d with
  | tuple ds =>
    cases rp with
    | @tup a vs _ h1 h2 =>
      exact ⟨a, vs, rfl, sqT_ext r.b.sub h1, by rw [h2.length]; exact w.1, h vs ds σ H F δ n Q Qd r h2 q w.2⟩
  | _ => exact w.elim

/-! ### comprehensions -/
/-- the slots that a block forgets -/
def wipeD (δ : List Ds) : List Nat → List Ds
  | [] => δ
  | v :: vs => (wipeD δ vs).set v .no
theorem Rel.wipe {K : PySem.W.Frag} {hd : Hd} {F0 H0 F H : Hp} {σ : L2.St} {δ : List Ds} {n : Nat} (r : Rel K hd F0 H0 F σ H δ n) : ∀ vs : List Nat, Rel K hd F0 H0 F (L2.wipe σ vs) H (wipeD δ vs) n
  | [] => r
  | v :: vs => by
    have q := Rel.wipe r vs
    have no : ∀ (j : Nat) (xs : List Dt), ((wipeD δ vs).set v .no)[j]? = some (.own xs) → v ≠ j := fun j xs e z => by
      subst z
      by_cases y : v < (wipeD δ vs).length
      · rw [List.getElem?_set_self y] at e; cases e
      · rw [List.getElem?_eq_none (by simpa using y)] at e; cases e
    refine ⟨q.b, by show ((L2.wipe σ vs).set v none).length = ((wipeD δ vs).set v .no).length; rw [List.length_set, List.length_set]; exact q.len, fun j s e => ?_, fun j k xs ys a h1 h2 h3 h4 => ?_⟩
    · show SlotOk K hd H0 F H s (((L2.wipe σ vs).set v none)[j]?)
      have e : ((wipeD δ vs).set v .no)[j]? = some s := e
      by_cases z : v = j
      · subst z
        by_cases y : v < (wipeD δ vs).length
        · rw [List.getElem?_set_self y] at e; cases e; exact True.intro
        · rw [List.getElem?_eq_none (by simpa using y)] at e; cases e
      · rw [List.getElem?_set_ne z] at e ⊢
        exact q.slot j s e
    · have n1 := no j xs h1
      have n2 := no k ys h2
      have h1 : ((wipeD δ vs).set v .no)[j]? = _ := h1
      have h2 : ((wipeD δ vs).set v .no)[k]? = _ := h2
      have h3 : ((L2.wipe σ vs).set v none)[j]? = _ := h3
      have h4 : ((L2.wipe σ vs).set v none)[k]? = _ := h4
      rw [List.getElem?_set_ne n1] at h1 h3
      rw [List.getElem?_set_ne n2] at h2 h4
      exact q.own j k xs ys a h1 h2 h3 h4
theorem wipe_at (τ : L2.St) (us : List Nat) (j : Nat) : (L2.wipe τ us)[j]? = if j ∈ us ∧ j < τ.length then some none else τ[j]? := by
  induction us with
  | nil => simp [L2.wipe]
  | cons u us ih =>
    show ((L2.wipe τ us).set u none)[j]? = _
    by_cases e : u = j
    · subst e
      by_cases z : u < τ.length
      · rw [List.getElem?_set_self (by rw [wipe_length]; exact z), if_pos ⟨by simp, z⟩]
      · rw [List.getElem?_eq_none (by rw [List.length_set, wipe_length]; omega), if_neg (fun q => z q.2), List.getElem?_eq_none (by omega)]
    · rw [List.getElem?_set_ne e, ih]
      have m : j ∈ u :: us ↔ j ∈ us := by
        rw [List.mem_cons]
        exact ⟨fun q => q.elim (fun q => absurd q.symm e) id, .inr⟩
      by_cases z : j ∈ us ∧ j < τ.length
      · rw [if_pos z, if_pos ⟨m.mpr z.1, z.2⟩]
      · rw [if_neg z, if_neg (fun q => z ⟨m.mp q.1, q.2⟩)]
theorem wipe_same {σ σ' : L2.St} (vs : List Nat) (hl : σ'.length = σ.length) (hk : ∀ j, j ∉ vs → σ'[j]? = σ[j]?) : L2.wipe σ' vs = L2.wipe σ vs := by
  apply List.ext_getElem?
  intro j
  rw [wipe_at, wipe_at, hl]
  by_cases z : j ∈ vs ∧ j < σ.length
  · rw [if_pos z, if_pos z]
  · rw [if_neg z, if_neg z]
    by_cases y : j ∈ vs
    · have : ¬ j < σ.length := fun q => z ⟨y, q⟩
      rw [List.getElem?_eq_none (by omega), List.getElem?_eq_none (by omega)]
    · exact hk j y
theorem wipe_of {σ σ2 : L2.St} {vs is : List Nat} (his : ∀ i ∈ is, i ∈ vs) (l : σ2.length = (L2.wipe σ vs).length) (k : ∀ j, j ∉ is → σ2[j]? = (L2.wipe σ vs)[j]?) : L2.wipe σ2 vs = L2.wipe σ vs :=
  wipe_same vs (l.trans (wipe_length σ vs)) fun j hj => by
    rw [k j (fun z => hj (his j z)), wipe_at, if_neg fun z => hj z.1]
abbrev Gh.calm (g : Gh) : Gh := { g with W := fun _ _ => False }
/-- tests of a clause -/
def DIfs (X : Cx) (g : Gh) (ifs : List Expr) (m : Me Bool) : Prop := ∃ t : TT, PTs X ifs t ∧ ∀ (σ : L2.St) (H F : Hp) (δ : List Ds) (n : Nat) (Q : Bool → Hp → Prop) (Qd : Kd Bool), g.R X.K F σ H δ n →
  (∀ b F' H' n', RelB g.hd F H F' H' n' → Qd b n' → Q b H') → m δ n Qd g.W → t σ H Q
theorem difs_nil : DIfs X g [] (fun _ => ret true) := ⟨_, pts_nil, fun σ H F δ n Q Qd r q w => q true F H n r.b.refl w⟩
theorem difs_one {m : Me Bool} (h : DT X g c m) : DIfs X g [c] m := by
  obtain ⟨t, p, h⟩ := h
  exact ⟨_, pts_one p, h⟩
/-- the items of a comprehension one by one -/
def lcM (gt : Dt → List Ds → Mv (List Ds)) (mi : Me Bool) (me : Me Dt) (δ : List Ds) : List Dt → List Dt → Mv (List Dt)
  | [], acc => ret acc
  | x :: xs, acc => bnd (gt x δ) fun δ' => bnd (mi δ') fun b => if b then bnd (me δ') fun y => lcM gt mi me δ xs (acc ++ [y]) else lcM gt mi me δ xs acc
/-- every block of that scope -/
def Blk (X : Cx) (scope : Scope) (P : Cx → Prop) : Prop := ∀ (s : Shared) (H : Hp) (C : Addr) (cl : List (Str × Addr)) (fp : List Addr), P (X.blk s H scope (compEnvC scope cl C X.env) fp)
/-- one reading of the comprehension's parts for every block, and what it needs -/
theorem lc_parts {elt : Expr} {ifs : List Expr} {scope : Scope} {vs : List Nat} {is : List Nat} {mit : Me (List Dt)} {gt : Dt → List Ds → Mv (List Ds)} {mi : Me Bool} {me : Me Dt}
    (hi : DI X g tg it mit) (his : ∀ i ∈ is, i ∈ vs) (hg : Blk X scope fun Y => DG Y g.calm tg is gt) (ht : Blk X scope fun Y => DIfs Y g.calm ifs mi) (he : Blk X scope fun Y => DE Y g.calm elt me) :
    ∃ (wi : TI) (tG : TG) (tT : TT) (tE : TE), PI X tg it wi ∧ (∀ (s : Shared) (H : Hp) (C : Addr) (cl : List (Str × Addr)) (fp : List Addr), PG (X.blk s H scope (compEnvC scope cl C X.env) fp) tg tG) ∧
      (∀ (s : Shared) (H : Hp) (C : Addr) (cl : List (Str × Addr)) (fp : List Addr), PTs (X.blk s H scope (compEnvC scope cl C X.env) fp) ifs tT) ∧ (∀ (s : Shared) (H : Hp) (C : Addr) (cl : List (Str × Addr)) (fp : List Addr), PE (X.blk s H scope (compEnvC scope cl C X.env) fp) elt tE) ∧
      ∀ (σ : L2.St) (H F : Hp) (δ : List Ds) (n : Nat) (Q : VK) (Qd : Kd (List Dt)), g.R X.K F σ H δ n →
        (∀ a us ds F' H' n', RelB g.hd F H F' H' n' → H a = none → F' a = none → H' a = some (.lst us) → RpAll X.K F' us ds → Qd ds n' → Q (.ref a) H') →
        (bnd (mit δ) fun items n Q W => lcM gt mi me (wipeD δ vs) items [] n Q fun _ _ => False) n Qd g.W → tLc wi tG tT tE vs σ H Q := by
  obtain ⟨wi, pi, hi⟩ := hi
  let TG' : TG := fun v σ H Q => ∀ (s : Shared) (H0 : Hp) (C : Addr) (cl : List (Str × Addr)) (fp : List Addr), (hg s H0 C cl fp).choose v σ H Q
  let TT' : TT := fun σ H Q => ∀ (s : Shared) (H0 : Hp) (C : Addr) (cl : List (Str × Addr)) (fp : List Addr), (ht s H0 C cl fp).choose σ H Q
  let TE' : TE := fun σ H Q => ∀ (s : Shared) (H0 : Hp) (C : Addr) (cl : List (Str × Addr)) (fp : List Addr), (he s H0 C cl fp).choose σ H Q
  refine ⟨wi, TG', TT', TE', pi, (fun s H0 C cl fp => ⟨fun pins s' σ H v u Q I r w => (hg s H0 C cl fp).choose_spec.1.run pins s' σ H v u Q I r (w s H0 C cl fp)⟩),
    (fun s H0 C cl fp => ⟨fun pins s' σ H Q I w => (ht s H0 C cl fp).choose_spec.1.run pins s' σ H Q I (w s H0 C cl fp)⟩),
    (fun s H0 C cl fp => ⟨fun pins s' σ H Q I w => (he s H0 C cl fp).choose_spec.1.run pins s' σ H Q I (w s H0 C cl fp)⟩), fun σ H F δ n Q Qd R q w => ?_⟩
  refine hi σ H F δ n _ _ R (fun J items F1 H1 n1 rb ix lim hq => ?_) w
  intro D nD
  have fD : F1 D = none := free_of rb.sub nD
  have hD0 : ¬ InHd g.hd D := fun i => by
    obtain ⟨o, z⟩ := rb.hand.there i
    rw [nD] at z; cases z
  have hHD : H D = none := rb.old (fun b i => rb.hand.there i) nD
  refine ⟨fun i m H2 => m = items.length - i ∧ i ≤ items.length ∧ ∃ F2 n2 acc us, RelB g.hd F1 H1 F2 H2 n2 ∧ H2 D = some (.lst us) ∧ F2 D = none ∧ RpAll X.K F2 us acc ∧ acc.length ≤ i ∧
      lcM gt mi me (wipeD δ vs) (items.drop i) acc n2 Qd (fun _ _ => False),
    ⟨items.length, by simp, Nat.zero_le _, F1, n1, [], [], rb.refl.layH nD, upd_same, fD, .nil, Nat.zero_le _, hq⟩, ?_⟩
  rintro i m H2 ⟨rfl, hi', F2, n2, acc, us, rb2, hD2, fD2, ra, hla, hq2⟩
  obtain ⟨stop, go⟩ := ix i F2 H2 n2 rb2 hi'
  by_cases hlt : i < items.length
  · obtain ⟨d, hd'⟩ : ∃ d, items[i]? = some d := ⟨items[i], by simp [hlt]⟩
    obtain ⟨hgo, hy⟩ := go d hd'
    have e : items.drop i = d :: items.drop (i + 1) := by
      rw [List.drop_eq_getElem_cons hlt]
      have : items[i] = d := by
        have := hd'
        rw [List.getElem?_eq_getElem hlt] at this
        exact Option.some.inj this
      rw [this]
    rw [e] at hq2
    refine .inr ⟨hgo, fun H' => ∃ F3 n3 acc us, RelB g.hd F1 H1 F3 H' n3 ∧ H' D = some (.lst us) ∧ F3 D = none ∧ RpAll X.K F3 us acc ∧ acc.length ≤ i + 1 ∧ lcM gt mi me (wipeD δ vs) (items.drop (i + 1)) acc n3 Qd (fun _ _ => False),
      fun H' ⟨F3, n3, acc', us', k1, k2, k3, k4, k5, k6⟩ => ⟨items.length - (i + 1), by omega, rfl, by omega, F3, n3, acc', us', k1, k2, k3, k4, k5, k6⟩, fun x H' y => ?_⟩
    obtain ⟨F3, rb3, rx⟩ := hy x H' y
    have RB3 := rb2.trans rb3
    have keep : ∀ {F4 H4 n4}, RelB g.hd F3 H' F4 H4 n4 → H4 D = some (.lst us) ∧ F4 D = none := fun {F4 H4 n4} rb4 => by
      have z := rb3.trans rb4
      refine ⟨z.h0 _ _ hD2 hD0, ?_⟩
      cases y : F4 D with
      | none => rfl
      | some u =>
        rcases z.fnew D u y with k | k
        · rw [fD2] at k; cases k
        · rw [hD2] at k; cases k
    have R3 : g.calm.R X.K F3 (L2.wipe σ vs) H' (wipeD δ vs) n2 := by
      have z := (R.ext (rb.trans RB3)).wipe vs
      exact z
    intro s H0 C cl fp
    refine (hg s H0 C cl fp).choose_spec.2 x d _ H' F3 _ n2 _ _ R3 rx (fun σ2 δ2 R4 l4 k4 hq4 => ?_) hq2
    refine ⟨wipe_of his l4 k4, ?_⟩
    intro s H0 C cl fp
    refine (ht s H0 C cl fp).choose_spec.2 σ2 H' F3 δ2 n2 _ _ R4 (fun b F5 H5 n5 rb5 hq5 => ?_) hq4
    obtain ⟨kD5, kF5⟩ := keep rb5
    cases b with
    | false =>
      rw [if_neg Bool.false_ne_true] at hq5 ⊢
      exact ⟨F5, n5, acc, us, RB3.trans rb5, kD5, kF5, (ra.ext' rb3.f0).ext' rb5.f0, by omega, hq5⟩
    | true =>
      rw [if_pos rfl] at hq5 ⊢
      intro s H0 C cl fp
      refine (he s H0 C cl fp).choose_spec.2 σ2 H5 F5 δ2 n5 _ _ (R4.ext rb5) (fun y d6 F6 H6 n6 rb6 rp6 hq6 => ?_) hq5
      obtain ⟨kD6, kF6⟩ := keep (rb5.trans rb6)
      have ra6 := ((ra.ext' rb3.f0).ext' rb5.f0).ext' rb6.f0
      refine ⟨us, kD6, ?_, F6, n6, acc ++ [d6], us ++ [y], ((RB3.trans rb5).trans rb6).change kF6 nD hD0, upd_same, kF6, ra6.app (.cons rp6 .nil), by rw [List.length_append, List.length_singleton]; omega, hq6⟩
      rw [ra6.length]
      omega
  · have e : i = items.length := by omega
    refine .inl ⟨stop e, ?_⟩
    rw [e, List.drop_length] at hq2
    exact q D us acc F2 H2 n2 (rb.trans rb2) hHD fD2 hD2 ra hq2
/-- what a comprehension is -/
def lcD (mit : Me (List Dt)) (gt : Dt → List Ds → Mv (List Ds)) (mi : Me Bool) (me : Me Dt) (vs : List Nat) : Me (List Dt) := fun δ => bnd (mit δ) fun items n Q _ => lcM gt mi me (wipeD δ vs) items [] n Q fun _ _ => False
theorem dn_lc {elt : Expr} {ifs : List Expr} {scope : Scope} {own : List (Str × Nat)} {is : List Nat} {mit : Me (List Dt)} {gt : Dt → List Ds → Mv (List Ds)} {mi : Me Bool} {me : Me Dt} (hc : X.calm = true) (hN : X.N.Nodup) (ok : BlkOk X.N X.env.scope scope own)
    (hi : DI X g tg it mit) (hg : Blk X scope fun Y => DG Y g.calm tg is gt) (ht : Blk X scope fun Y => DIfs Y g.calm ifs mi) (he : Blk X scope fun Y => DE Y g.calm elt me) (his : ∀ i ∈ is, i ∈ own.map (·.2) := by decide) (hs : ∀ x, foldedSetIterable it X.env x = pure x := by intro _; rfl) :
    DN X g (.ListComp elt [⟨tg, it, ifs, 0⟩] scope pos) (lcD mit gt mi me (own.map (·.2))) := by
  obtain ⟨wi, tG, tT, tE, p1, p2, p3, p4, sp⟩ := lc_parts (vs := own.map (·.2)) hi his hg ht he
  exact ⟨_, pe_lc hc hN p1 ok p2 p3 p4 hs, sp⟩

end
end Dl
namespace Dl
open PySem PySem.Spec L2

/-! ### statements -/
/-- what is wanted behind a statement -/
structure Sk where
  nx : List Ds → Nat → Prop
  rt : Dt → Nat → Prop
  bk : List Ds → Nat → Prop := fun _ _ => False
  ct : List Ds → Nat → Prop := fun _ _ => False
abbrev Ms := List Ds → Nat → Sk → Wx → Prop
def SpS (g : Gh) (K : PySem.W.Frag) (t : TS) (m : Ms) : Prop := ∀ (σ : L2.St) (H F : Hp) (δ : List Ds) (n : Nat) (D : Ends) (k : Sk), g.R K F σ H δ n →
  (∀ σ' H' F' δ' n', Same F F' → g.R K F' σ' H' δ' n' → k.nx δ' n' → D.nx σ' H') → (∀ v d H' F' n', Same F F' → g.B F' H' n' → Rp K F' v d → k.rt d n' → D.rt v H') →
  (∀ σ' H' F' δ' n', Same F F' → g.R K F' σ' H' δ' n' → k.bk δ' n' → D.bk σ' H') → (∀ σ' H' F' δ' n', Same F F' → g.R K F' σ' H' δ' n' → k.ct δ' n' → D.ct σ' H') → m δ n k g.W → t D σ H
def DS (X : Cx) (g : Gh) (st : Stmt) (m : Ms) : Prop := ∃ t : TS, PS X st t ∧ SpS g X.K t m
def DSs (X : Cx) (g : Gh) (st : List Stmt) (m : Ms) : Prop := ∃ t : TS, PSs X st t ∧ SpS g X.K t m
section
variable {X : Cx} {g : Gh} {tg a b c e it : Expr} {es : List Expr} {pos : Pos} {ma mb mc : Me Dt} {st : Stmt} {rest body orelse : List Stmt} {m m1 m2 : Ms}
def sNext : Ms := fun δ n k _ => k.nx δ n
def sSeq (m1 m2 : Ms) : Ms := fun δ n k W => m1 δ n { k with nx := fun δ' n' => m2 δ' n' k W } W
theorem dss_nil : DSs X g [] sNext := ⟨_, pss_nil, fun σ H F δ n D k R q1 q2 q3 q4 w => q1 σ H F δ n (Same.refl _) R w⟩
theorem dss_cons (h1 : DS X g st m1) (h2 : DSs X g rest m2) : DSs X g (st :: rest) (sSeq m1 m2) := by
  obtain ⟨t, p, h1⟩ := h1
  obtain ⟨u, p2, h2⟩ := h2
  refine ⟨_, pss_cons p p2, fun σ H F δ n D k R q1 q2 q3 q4 w => ?_⟩
  refine h1 σ H F δ n _ { k with nx := fun δ' n' => m2 δ' n' k g.W } R (fun σ' H' F' δ' n' sm R' hq => ?_) q2 q3 q4 w
  exact h2 σ' H' F' δ' n' D k R' (fun a b c d e s => q1 a b c d e (sm.trans s)) (fun a b c d e s => q2 a b c d e (sm.trans s)) (fun a b c d e s => q3 a b c d e (sm.trans s)) (fun a b c d e s => q4 a b c d e (sm.trans s)) hq
theorem dss_one (h1 : DS X g st m1) : DSs X g [st] m1 := by
  obtain ⟨t, p, h1⟩ := h1
  exact ⟨_, pss_one p, h1⟩
theorem ds_pass : DS X g (.Pass pos) sNext := ⟨_, ps_pass, fun σ H F δ n D k R q1 q2 q3 q4 w => q1 σ H F δ n (Same.refl _) R w⟩
theorem ds_break : DS X g (.Break pos) (fun δ n k _ => k.bk δ n) := ⟨_, ps_break, fun σ H F δ n D k R q1 q2 q3 q4 w => q3 σ H F δ n (Same.refl _) R w⟩
theorem ds_continue : DS X g (.Continue pos) (fun δ n k _ => k.ct δ n) := ⟨_, ps_continue, fun σ H F δ n D k R q1 q2 q3 q4 w => q4 σ H F δ n (Same.refl _) R w⟩
theorem ds_doc {x : Str} {j : Nat} {p : Pos} : DS X g (.Expr (.Constant (.str x) j p) pos) sNext := ⟨_, ps_doc, fun σ H F δ n D k R q1 q2 q3 q4 w => q1 σ H F δ n (Same.refl _) R w⟩
theorem ds_expr (h : DE X g e ma) (hs : swapsWith e none pos.line X.env = pure false := by rfl) : DS X g (.Expr e pos) (fun δ n k W => ma δ n (fun _ n' => k.nx δ n') W) := by
  obtain ⟨t, p, h⟩ := h
  exact ⟨_, ps_expr p hs, fun σ H F δ n D k R q1 q2 q3 q4 w => h σ H F δ n _ _ R (fun v d F' H' n' rb rp hq => q1 σ H' F' δ n' rb.f0 (R.ext rb) hq) w⟩
theorem ds_ret (h : DE X g e ma) : DS X g (.Return (some e) pos) (fun δ n k W => ma δ n k.rt W) := by
  obtain ⟨t, p, h⟩ := h
  exact ⟨_, ps_ret p, fun σ H F δ n D k R q1 q2 q3 q4 w => h σ H F δ n _ _ R (fun v d F' H' n' rb rp hq => q2 v d H' F' n' rb.f0 (R.b.trans rb) rp hq) w⟩
theorem ds_retN : DS X g (.Return none pos) (fun δ n k _ => k.rt .none n) := ⟨_, ps_retN, fun σ H F δ n D k R q1 q2 q3 q4 w => q2 .non .none H F n (Same.refl _) R.b .non w⟩
def sIf (mc : Me Bool) (m1 m2 : Ms) : Ms := fun δ n k W => mc δ n (fun b n' => if b = true then m1 δ n' k W else m2 δ n' k W) W
theorem ds_if {mt : Me Bool} (hc : DT X g c mt) (ha : DSs X g body m1) (hb : DSs X g orelse m2) : DS X g (.If c body orelse pos) (sIf mt m1 m2) := by
  obtain ⟨tc, pc, hc⟩ := hc
  obtain ⟨t, p, ha⟩ := ha
  obtain ⟨u, p2, hb⟩ := hb
  refine ⟨_, ps_if pc p p2, fun σ H F δ n D k R q1 q2 q3 q4 w => hc σ H F δ n _ _ R (fun b F' H' n' rb hq => ?_) w⟩
  have z1 : ∀ σ' H'' F'' δ' n', Same F' F'' → g.R X.K F'' σ' H'' δ' n' → k.nx δ' n' → D.nx σ' H'' := fun a b c d e s => q1 a b c d e (rb.f0.trans s)
  have z2 : ∀ v d H'' F'' n', Same F' F'' → g.B F'' H'' n' → Rp X.K F'' v d → k.rt d n' → D.rt v H'' := fun a b c d e s => q2 a b c d e (rb.f0.trans s)
  have z3 : ∀ σ' H'' F'' δ' n', Same F' F'' → g.R X.K F'' σ' H'' δ' n' → k.bk δ' n' → D.bk σ' H'' := fun a b c d e s => q3 a b c d e (rb.f0.trans s)
  have z4 : ∀ σ' H'' F'' δ' n', Same F' F'' → g.R X.K F'' σ' H'' δ' n' → k.ct δ' n' → D.ct σ' H'' := fun a b c d e s => q4 a b c d e (rb.f0.trans s)
  cases b with
  | true => rw [if_pos rfl] at hq ⊢; exact ha σ H' F' δ n' D k (R.ext rb) z1 z2 z3 z4 hq
  | false => rw [if_neg Bool.false_ne_true] at hq ⊢; exact hb σ H' F' δ n' D k (R.ext rb) z1 z2 z3 z4 hq
/-- target = e -/
def sAsg (me : Me Dt) (gt : Dt → List Ds → Mv (List Ds)) : Ms := fun δ n k W => me δ n (fun d n' => gt d δ n' k.nx W) W
theorem ds_asg {is : List Nat} {gt : Dt → List Ds → Mv (List Ds)} (he : DE X g e ma) (hg : DG X g tg is gt) (hs : swapsWithSole [tg] e pos.line X.env = pure false := by rfl) (hw : swappedStores [tg] e X.env = pure none := by rfl)
    (h1 : (assignEach [tg] X.env).map (·.2) = [assign tg X.env] := by rfl) : DS X g (.Assign [tg] e pos) (sAsg ma gt) := by
  obtain ⟨t, p, he⟩ := he
  obtain ⟨u, p2, hg⟩ := hg
  refine ⟨_, ps_asg p p2 hs hw h1, fun σ H F δ n D k R q1 q2 q3 q4 w => he σ H F δ n _ _ R (fun v d F' H' n' rb rp hq => ?_) w⟩
  exact hg v d σ H' F' δ n' _ _ (R.ext rb) rp (fun σ' δ' R' _ _ hq => q1 σ' H' F' δ' n' rb.f0 R' hq) hq
theorem ds_set (i : Nat) {x : Str} {p' : Pos} (hN : X.N.Nodup) (he : DE X g e ma) (hi : X.N[i]? = some x := by rfl) (hx : Loc X.env.scope x := by first | exact Or.inl rfl | exact Or.inr rfl) (hs : swapsWith e (some (.Name x p')) pos.line X.env = pure false := by rfl)
    (hf : X.fn x = true ∨ X.env.scope.names.lookup x = some .local := by first | exact .inl rfl | exact .inr rfl) : DS X g (.Assign [.Name x p'] e pos) (sAsg ma (gN i)) := by
  obtain ⟨t, p, he⟩ := he
  exact ⟨_, ps_set hN hi hx p hs hf, fun σ H F δ n D k R q1 q2 q3 q4 w => he σ H F δ n _ _ R (fun v d F' H' n' rb rp hq => q1 _ H' F' _ n' rb.f0 ((R.ext rb).put i rp) hq) w⟩
/-- name = a new list that stays the def's own -/
def sOwn (i : Nat) (me : Me (List Dt)) : Ms := fun δ n k W => me δ n (fun ds n' => k.nx (δ.set i (.own ds)) n') W
theorem own_in {K : PySem.W.Frag} {F H : Hp} {σ : L2.St} {δ : List Ds} {n : Nat} {F' H' : Hp} {n' : Nat} {p : Addr} {vs : List V} {ds : List Dt} (R : g.R K F σ H δ n) (rb : RelB g.hd F H F' H' n') (na : H p = none) (fa : F' p = none) (ha : H' p = some (.lst vs)) (hr : RpAll K F' vs ds) (i : Nat) :
    g.R K F' (σ.set i (some (.ref p))) H' (δ.set i (.own ds)) n' := by
  have ni : ¬ InHd g.hd p := fun z => by
    obtain ⟨o, y⟩ := R.b.hand.there z
    rw [na] at y; cases y
  have h0 : g.H0 p = none := R.b.old (fun b i => R.b.hand.there i) na
  exact (R.ext rb).putOwn i fa h0 ni ha hr fun j ys e => R.fresh na j ys e
theorem ds_own (i : Nat) {x : Str} {p' : Pos} {me : Me (List Dt)} (hN : X.N.Nodup) (he : DN X g e me) (hi : X.N[i]? = some x := by rfl) (hx : Loc X.env.scope x := by first | exact Or.inl rfl | exact Or.inr rfl) (hs : swapsWith e (some (.Name x p')) pos.line X.env = pure false := by rfl)
    (hf : X.fn x = true ∨ X.env.scope.names.lookup x = some .local := by first | exact .inl rfl | exact .inr rfl) : DS X g (.Assign [.Name x p'] e pos) (sOwn i me) := by
  obtain ⟨t, p, he⟩ := he
  exact ⟨_, ps_set hN hi hx p hs hf, fun σ H F δ n D k R q1 q2 q3 q4 w => he σ H F δ n _ _ R (fun a vs ds F' H' n' rb na fa ha hr hq => q1 _ H' F' _ n' rb.f0 (own_in R rb na fa ha hr i) hq) w⟩
/-- name = [.. for ..] on one line -/
theorem ds_ownLc (i : Nat) {x : Str} {p' spos : Pos} {elt : Expr} {ifs : List Expr} {scope : Scope} {own : List (Str × Nat)} {is : List Nat} {mit : Me (List Dt)} {gt : Dt → List Ds → Mv (List Ds)} {mi : Me Bool} {me : Me Dt} (hc : X.calm = true) (hN : X.N.Nodup) (ok : BlkOk X.N X.env.scope scope own)
    (hit : DI X g tg it mit) (hg : Blk X scope fun Y => DG Y g.calm tg is gt) (ht : Blk X scope fun Y => DIfs Y g.calm ifs mi) (he : Blk X scope fun Y => DE Y g.calm elt me) (hi : X.N[i]? = some x := by rfl) (hl : X.env.scope.names.lookup x = some .local := by rfl)
    (hk : X.env.scope.kind = .function := by rfl) (hln : (p'.line == pos.line) = true := by rfl) (hno : (scope.names.any fun (n, k) => n == x && (k == .local || k == .cell)) = false := by rfl)
    (his : ∀ i ∈ is, i ∈ own.map (·.2) := by decide) (hs : ∀ x, foldedSetIterable it X.env x = pure x := by intro _; rfl) :
    DS X g (.Assign [.Name x p'] (.ListComp elt [⟨tg, it, ifs, 0⟩] scope pos) spos) (sOwn i (lcD mit gt mi me (own.map (·.2)))) := by
  obtain ⟨wi, tG, tT, tE, p1, p2, p3, p4, sp⟩ := lc_parts (vs := own.map (·.2)) hit his hg ht he
  exact ⟨_, ps_setLc hc hN hi hl (sw_true hk hl hln hno) p1 ok p2 p3 p4 hs, fun σ H F δ n D k R q1 q2 q3 q4 w => sp σ H F δ n _ _ R (fun a vs ds F' H' n' rb na fa ha hr hq => q1 _ H' F' _ n' rb.f0 (own_in R rb na fa ha hr i) hq) w⟩
/-- a name's own list becomes a datum -/
def frz (i : Nat) (δ : List Ds) : List Ds := match δ[i]? with
  | some (.own xs) => δ.set i (.d (.list xs))
  | _ => δ
theorem Rel.frz {K : PySem.W.Frag} {hd : Hd} {F0 H0 F H : Hp} {σ : L2.St} {δ : List Ds} {n : Nat} (r : Rel K hd F0 H0 F σ H δ n) (i : Nat) : ∃ F', Same F F' ∧ Rel K hd F0 H0 F' σ H (Dl.frz i δ) n := by
  unfold Dl.frz
  cases e : δ[i]? with
  | none => exact ⟨F, Same.refl _, r⟩
  | some s =>
    cases s with
    | own xs =>
      obtain ⟨a, vs, h1, h2, h3, h4, h5, h6⟩ := r.slot i _ e
      have ex : Same F (upd F a (.lst vs)) := fun x o y => by
        rw [upd_ne (fun z => by rw [z, h2] at y; cases y)]; exact y
      have b2 := r.b.freeze h5 h2 h3 h4
      have hl : i < δ.length := by
        by_cases z : i < δ.length
        · exact z
        · rw [List.getElem?_eq_none (by simpa using z)] at e; cases e
      refine ⟨upd F a (.lst vs), ex, b2, by rw [List.length_set]; exact r.len, fun j s e2 => ?_, fun j k ys zs b e1 e2 e3 e4 => ?_⟩
      · by_cases q : i = j
        · subst q
          rw [List.getElem?_set_self hl] at e2
          cases e2
          exact ⟨_, h1, .lst upd_same (h6.ext' ex)⟩
        · rw [List.getElem?_set_ne q] at e2
          have z := r.slot j s e2
          cases s with
          | no => trivial
          | d x =>
            obtain ⟨v, k1, k2⟩ := z
            exact ⟨v, k1, k2.ext' ex⟩
          | own ys =>
            obtain ⟨b, us, k1, k2, k3, k4, k5, k6⟩ := z
            refine ⟨b, us, k1, ?_, k3, k4, k5, k6.ext' ex⟩
            rw [upd_ne ?_]
            · exact k2
            · intro y
              subst y
              exact q (r.own i j xs ys b e e2 h1 k1)
          | hand => exact z
      · have ne : ∀ (j : Nat) (ys : List Dt), (δ.set i (.d (.list xs)))[j]? = some (.own ys) → i ≠ j := fun j ys e q => by
          subst q
          rw [List.getElem?_set_self hl] at e; cases e
        have n1 := ne j ys e1
        have n2 := ne k zs e2
        rw [List.getElem?_set_ne n1] at e1
        rw [List.getElem?_set_ne n2] at e2
        exact r.own j k ys zs b e1 e2 e3 e4
    | no => exact ⟨F, Same.refl _, r⟩
    | d x => exact ⟨F, Same.refl _, r⟩
    | hand => exact ⟨F, Same.refl _, r⟩
theorem dss_frz (i : Nat) (h : DSs X g rest m) : DSs X g rest (fun δ => m (frz i δ)) := by
  obtain ⟨t, p, h⟩ := h
  refine ⟨t, p, fun σ H F δ n D k R q1 q2 q3 q4 w => ?_⟩
  obtain ⟨F', ex, R'⟩ := Rel.frz R i
  exact h σ H F' _ n D k R' (fun a b c d e s => q1 a b c d e (ex.trans s)) (fun a b c d e s => q2 a b c d e (ex.trans s)) (fun a b c d e s => q3 a b c d e (ex.trans s)) (fun a b c d e s => q4 a b c d e (ex.trans s)) w
/-- an own list of a slot is rewritten -/
theorem Rel.rewrite {K : PySem.W.Frag} {hd : Hd} {F0 H0 F H : Hp} {σ : L2.St} {δ : List Ds} {n : Nat} (r : Rel K hd F0 H0 F σ H δ n) {i : Nat} {xs : List Dt} {a : Addr} {us : List V} {ys : List Dt} (e : δ[i]? = some (.own xs)) (h1 : σ[i]? = some (some (.ref a)))
    (h2 : RpAll K F us ys) : Rel K hd F0 H0 F σ (upd H a (.lst us)) (δ.set i (.own ys)) n := by
  obtain ⟨a', vs, k1, k2, k3, k4, k5, k6⟩ := r.slot i _ e
  rw [h1] at k1
  cases k1
  have hl : i < δ.length := by
    by_cases z : i < δ.length
    · exact z
    · rw [List.getElem?_eq_none (by simpa using z)] at e; cases e
  refine ⟨r.b.change k2 k3 k4, by rw [List.length_set]; exact r.len, fun j s e2 => ?_, fun j k ys' zs b e1 e2 e3 e4 => ?_⟩
  · by_cases q : i = j
    · subst q
      rw [List.getElem?_set_self hl] at e2
      cases e2
      exact ⟨a, us, h1, k2, k3, k4, upd_same, h2⟩
    · rw [List.getElem?_set_ne q] at e2
      have z := r.slot j s e2
      cases s with
      | no => trivial
      | d x => exact z
      | own zs =>
        obtain ⟨b, ws, j1, j2, j3, j4, j5, j6⟩ := z
        refine ⟨b, ws, j1, j2, j3, j4, ?_, j6⟩
        rw [upd_ne ?_]
        · exact j5
        · intro y
          subst y
          exact q (r.own i j xs zs b e e2 h1 j1)
      | hand => exact z
  · have un : ∀ (j : Nat) (zs : List Dt), (δ.set i (.own ys))[j]? = some (.own zs) → ∃ ws, δ[j]? = some (.own ws) := fun j zs e' => by
      by_cases q : i = j
      · subst q; exact ⟨xs, e⟩
      · rw [List.getElem?_set_ne q] at e'; exact ⟨zs, e'⟩
    obtain ⟨w1, f1⟩ := un j ys' e1
    obtain ⟨w2, f2⟩ := un k zs e2
    exact r.own j k w1 w2 b f1 f2 e3 e4
/-- the own list of a slot -/
def withOwn (i : Nat) (δ : List Ds) (f : List Dt → Prop) : Prop := match δ[i]? with
  | some (.own xs) => f xs
  | _ => False
theorem withOwn.ex {i : Nat} {δ : List Ds} {f : List Dt → Prop} (h : withOwn i δ f) : ∃ xs, δ[i]? = some (.own xs) ∧ f xs := by
  unfold withOwn at h
  cases e : δ[i]? with
  | none => rw [e] at h; exact h.elim
  | some s =>
    rw [e] at h
    cases s with
    | own xs => exact ⟨xs, rfl, h⟩
    | _ => exact h.elim
def sAppend (i : Nat) (me : Me Dt) : Ms := fun δ n k W => withOwn i δ fun xs => me δ n (fun d n' => xs.length < sizeLine ∧ k.nx (δ.set i (.own (xs ++ [d]))) n') W
def sExtend (i : Nat) (me : Me Dt) : Ms := fun δ n k W => withOwn i δ fun xs => me δ n (fun d n' => match d with | .list ys => xs.length + ys.length ≤ sizeLine ∧ k.nx (δ.set i (.own (xs ++ ys))) n' | _ => False) W
section
variable {x : Str} {px apos cpos : Pos}
theorem ds_append (i : Nat) (he : DE X g e ma) (hN : X.N[i]? = some x := by rfl) (hv : Vis X.env.scope x := by first | exact Or.inl rfl | exact Or.inr (Or.inl rfl) | exact Or.inr (Or.inr rfl)) (hd : (x == ("__debug__" : Str)) = false := by decide)
    (hcd : (x == ("__classdict__" : Str)) = false := by decide)
    (hbase : attributeBase (.Name x px) "append" X.env (eval (.Name x px) X.env) = eval (.Name x px) X.env := by rfl)
    (hfew : ((backTo cpos (starEach [e] X.env)).all (fun x => !x.1) && (backToKw cpos (keywordEach [] X.env)).all (fun x => x.1.isSome)
      && decide (([e] : List Expr).length + ([] : List Keyword).length + (if ([] : List Keyword).isEmpty then 0 else 1) < 30)) = true := by rfl)
    (hline : (apos.endLine == cpos.line) = true := by rfl) (hs : starEach [e] X.env = (false, eval e X.env) :: starEach [] X.env := by rfl) (hplain : (backTo cpos (starEach [] X.env)).any (·.1) = false := by rfl)
    (hsw : swapsWith (.Call (.Attribute (.Name x px) "append" apos) [e] [] cpos) none pos.line X.env = pure false := by rfl) :
    DS X g (.Expr (.Call (.Attribute (.Name x px) "append" apos) [e] [] cpos) pos) (sAppend i ma) := by
  obtain ⟨t, p, he⟩ := he
  refine ⟨_, ps_expr (pe_bm PySem.F.plainAttrs_list PySem.F.slot_list_append PySem.F.type_list_append mt_append (pe_var hN hv hd hcd) (pa_cons p pa_nil hs) hbase hfew hline hs hplain) hsw, fun σ H F δ n D k R q1 q2 q3 q4 w => ?_⟩
  obtain ⟨xs, es, w⟩ := withOwn.ex w
  obtain ⟨a, vs, k1, k2, k3, k4, k5, k6⟩ := R.slot i _ es
  refine ⟨.ref a, k1, .inl ⟨rfl, vs, SqL.of k5⟩, he σ H F δ n _ _ R (fun v d F' H' n' rb rp hq => ?_) w⟩
  have k6' := k6.ext' rb.f0
  refine ⟨a, vs, v, rfl, rfl, rb.h0 _ _ k5 k4, by rw [k6'.length]; exact hq.1, ?_⟩
  exact q1 σ _ F' _ n' rb.f0 ((R.ext rb).rewrite es k1 (k6'.app (.cons rp .nil))) hq.2
theorem ds_extend (i : Nat) (he : DX X g e ma) (hN : X.N[i]? = some x := by rfl) (hv : Vis X.env.scope x := by first | exact Or.inl rfl | exact Or.inr (Or.inl rfl) | exact Or.inr (Or.inr rfl)) (hd : (x == ("__debug__" : Str)) = false := by decide)
    (hcd : (x == ("__classdict__" : Str)) = false := by decide)
    (hbase : attributeBase (.Name x px) "extend" X.env (eval (.Name x px) X.env) = eval (.Name x px) X.env := by rfl)
    (hfew : ((backTo cpos (starEach [e] X.env)).all (fun x => !x.1) && (backToKw cpos (keywordEach [] X.env)).all (fun x => x.1.isSome)
      && decide (([e] : List Expr).length + ([] : List Keyword).length + (if ([] : List Keyword).isEmpty then 0 else 1) < 30)) = true := by rfl)
    (hline : (apos.endLine == cpos.line) = true := by rfl) (hs : starEach [e] X.env = (false, eval e X.env) :: starEach [] X.env := by rfl) (hplain : (backTo cpos (starEach [] X.env)).any (·.1) = false := by rfl)
    (hsw : swapsWith (.Call (.Attribute (.Name x px) "extend" apos) [e] [] cpos) none pos.line X.env = pure false := by rfl) :
    DS X g (.Expr (.Call (.Attribute (.Name x px) "extend" apos) [e] [] cpos) pos) (sExtend i ma) := by
  obtain ⟨t, p, he⟩ := he
  refine ⟨_, ps_expr (pe_bm PySem.F.plainAttrs_list PySem.F.slot_list_extend PySem.F.type_list_extend mt_extend (pe_var hN hv hd hcd) (pa_cons p pa_nil hs) hbase hfew hline hs hplain) hsw, fun σ H F δ n D k R q1 q2 q3 q4 w => ?_⟩
  obtain ⟨xs, es, w⟩ := withOwn.ex w
  obtain ⟨a, vs, k1, k2, k3, k4, k5, k6⟩ := R.slot i _ es
  refine ⟨.ref a, k1, .inl ⟨rfl, vs, SqL.of k5⟩, he σ H F δ n _ _ R (fun v d F' H' n' rb rp hq => ?_) w⟩
  cases d with
  | list ys =>
    have k6' := k6.ext' rb.f0
    obtain ⟨b, us, rfl, h1, r1⟩ := rp.lst rb.sub
    refine ⟨a, b, vs, us, rfl, rfl, rb.h0 _ _ k5 k4, h1, by rw [k6'.length, r1.length]; exact hq.1, ?_⟩
    exact q1 σ _ F' _ n' rb.f0 ((R.ext rb).rewrite es k1 (k6'.app r1)) hq.2
  | _ => exact hq.elim
/-- target = x.pop() -/
def sPop (i : Nat) (gt : Dt → List Ds → Mv (List Ds)) : Ms := fun δ n k W => withOwn i δ fun xs => match xs.getLast? with
  | some d => gt d (δ.set i (.own xs.dropLast)) n k.nx W
  | none => False
theorem RpAll.last {K : PySem.W.Frag} {F : Hp} {vs : List V} {ds : List Dt} {d : Dt} (h : RpAll K F vs ds) (e : ds.getLast? = some d) : ∃ v, vs[vs.length - 1]? = some v ∧ Rp K F v d := by
  rw [List.getLast?_eq_getElem?] at e
  rw [h.length]
  exact h.at e
theorem RpAll.init {K : PySem.W.Frag} {F : Hp} : ∀ {vs : List V} {ds : List Dt}, RpAll K F vs ds → RpAll K F vs.dropLast ds.dropLast
  | _, [], h => by cases h; exact .nil
  | _, [d], h => by
    cases h with
    | cons h1 h2 => cases h2; exact .nil
  | _, d :: e :: ds, h => by
    cases h with
    | cons h1 h2 =>
      cases h2 with
      | cons h3 h4 => exact .cons h1 (RpAll.init (.cons h3 h4))
theorem ds_pop (i : Nat) {is : List Nat} {gt : Dt → List Ds → Mv (List Ds)} (hg : DG X g tg is gt) (hN : X.N[i]? = some x := by rfl) (hv : Vis X.env.scope x := by first | exact Or.inl rfl | exact Or.inr (Or.inl rfl) | exact Or.inr (Or.inr rfl)) (hd : (x == ("__debug__" : Str)) = false := by decide)
    (hcd : (x == ("__classdict__" : Str)) = false := by decide)
    (hbase : attributeBase (.Name x px) "pop" X.env (eval (.Name x px) X.env) = eval (.Name x px) X.env := by rfl) (hline : (apos.endLine == cpos.line) = true := by rfl)
    (hs : swapsWithSole [tg] (.Call (.Attribute (.Name x px) "pop" apos) [] [] cpos) pos.line X.env = pure false := by rfl) (hw : swappedStores [tg] (.Call (.Attribute (.Name x px) "pop" apos) [] [] cpos) X.env = pure none := by rfl)
    (h1 : (assignEach [tg] X.env).map (·.2) = [assign tg X.env] := by rfl) :
    DS X g (.Assign [tg] (.Call (.Attribute (.Name x px) "pop" apos) [] [] cpos) pos) (sPop i gt) := by
  obtain ⟨u, p2, hg⟩ := hg
  refine ⟨_, ps_asg (pe_bm0 PySem.F.plainAttrs_list PySem.F.slot_list_pop PySem.F.type_list_pop mt_pop (pe_var hN hv hd hcd) hbase hline) p2 hs hw h1, fun σ H F δ n D k R q1 q2 q3 q4 w => ?_⟩
  obtain ⟨xs, es, w⟩ := withOwn.ex w
  obtain ⟨a, vs, k1, k2, k3, k4, k5, k6⟩ := R.slot i _ es
  cases el : xs.getLast? with
  | none => rw [el] at w; exact w.elim
  | some d =>
    rw [el] at w
    obtain ⟨v, hv1, hv2⟩ := k6.last el
    refine ⟨.ref a, k1, .inl ⟨rfl, vs, SqL.of k5⟩, a, vs, v, rfl, rfl, k5, hv1, ?_⟩
    exact hg v d σ _ F _ n _ _ (R.rewrite es k1 k6.init) hv2 (fun σ' δ' R' _ _ hq => q1 σ' _ F δ' n (Same.refl _) R' hq) w
end
/-- name op= e, whole numbers -/
def sAug (i : Nat) (f : Int → Int → Int) (me : Me Dt) : Ms := fun δ n k W => match δ[i]? with
  | some (.d (.int a)) => me δ n (fun d n' => match d with | .int b => k.nx (δ.set i (.d (.int (f a b)))) n' | _ => False) W
  | _ => False
theorem ds_aug (i : Nat) {x : Str} {p' : Pos} {op : Operator} {f : Int → Int → Int} (ho : PIp X op (ipI f)) (hN : X.N.Nodup) (he : DE X g e ma) (hi : X.N[i]? = some x := by rfl) (hx : Loc X.env.scope x := by first | exact Or.inl rfl | exact Or.inr rfl)
    (hf : X.fn x = true ∨ X.env.scope.names.lookup x = some .local := by first | exact .inl rfl | exact .inr rfl) : DS X g (.AugAssign (.Name x p') op e pos) (sAug i f ma) := by
  obtain ⟨t, p, he⟩ := he
  refine ⟨_, ps_aug hN hi hx p ho hf, fun σ H F δ n D k R q1 q2 q3 q4 w => ?_⟩
  unfold sAug at w
  cases es : δ[i]? with
  | none => rw [es] at w; exact w.elim
  | some s =>
    rw [es] at w
    cases s with
    | d y =>
      cases y with
      | int z =>
        obtain ⟨v, k1, k2⟩ := R.slot i _ es
        cases k2
        refine ⟨.int z, k1, he σ H F δ n _ _ R (fun v d F' H' n' rb rp hq => ?_) w⟩
        cases d with
        | int y =>
          cases rp
          exact ⟨z, y, rfl, rfl, q1 _ H' F' _ n' rb.f0 ((R.ext rb).put i (.int _)) hq⟩
        | _ => exact hq.elim
      | _ => exact w.elim
    | _ => exact w.elim

/-! ### for, while -/
def forM (gt : Dt → List Ds → Mv (List Ds)) (mb : Ms) : List Dt → Ms
  | [] => sNext
  | x :: xs => fun δ n k W => gt x δ n (fun δ' n' => mb δ' n' { k with nx := fun δ'' n'' => forM gt mb xs δ'' n'' k W, ct := fun δ'' n'' => forM gt mb xs δ'' n'' k W, bk := k.nx } W) W
def sFor (mit : Me (List Dt)) (gt : Dt → List Ds → Mv (List Ds)) (mb : Ms) : Ms := fun δ n k W => mit δ n (fun items n' => forM gt mb items δ n' k W) W
theorem ds_for {is : List Nat} {mit : Me (List Dt)} {gt : Dt → List Ds → Mv (List Ds)} (hx : XOk X g) (hi : DF X g tg it mit) (hg : DG X g tg is gt) (hb : DSs X g body m) (hs : ∀ x, foldedSetIterable it X.env x = pure x := by intro _; rfl) :
    DS X g (.For tg it body [] pos) (sFor mit gt m) := by
  obtain ⟨wi, pi, hi⟩ := hi
  obtain ⟨tg', pg, hg⟩ := hg
  obtain ⟨tb, pb, hb⟩ := hb
  refine ⟨_, ps_for hx.own hx.calm pi pg pb hs, fun σ H F δ n D k R q1 q2 q3 q4 w => ?_⟩
  refine hi σ H F δ n _ _ R (fun J items F1 H1 n1 rb ix lim hq => ?_) w
  refine ⟨fun i m' σ2 H2 => m' = items.length - i ∧ i ≤ items.length ∧ ∃ F2 δ2 n2, Same F1 F2 ∧ g.R X.K F2 σ2 H2 δ2 n2 ∧ forM gt m (items.drop i) δ2 n2 k g.W, ⟨items.length, by simp, Nat.zero_le _, F1, δ, n1, Same.refl _, R.ext rb, hq⟩, ?_⟩
  rintro i m' σ2 H2 ⟨rfl, hi', F2, δ2, n2, sm, R2, hq2⟩
  obtain ⟨stop, go⟩ := ix i F2 H2 n2 sm R2.b.refl hi'
  by_cases hlt : i < items.length
  · obtain ⟨d, hd'⟩ : ∃ d, items[i]? = some d := ⟨items[i], by simp [hlt]⟩
    obtain ⟨hgo, hy⟩ := go d hd'
    have e : items.drop i = d :: items.drop (i + 1) := by
      rw [List.drop_eq_getElem_cons hlt]
      have : items[i] = d := by
        have := hd'
        rw [List.getElem?_eq_getElem hlt] at this
        exact Option.some.inj this
      rw [this]
    rw [e] at hq2
    refine .inr ⟨hgo, fun σ' H' => ∃ F3 δ3 n3, Same F1 F3 ∧ g.R X.K F3 σ' H' δ3 n3 ∧ forM gt m (items.drop (i + 1)) δ3 n3 k g.W,
      fun σ' H' ⟨F3, δ3, n3, k1, k2, k3⟩ => ⟨items.length - (i + 1), by omega, rfl, by omega, F3, δ3, n3, k1, k2, k3⟩, fun x H' y => ?_⟩
    obtain ⟨F3, rb3, rx⟩ := hy x H' y
    refine hg x d σ2 H' F3 δ2 n2 _ _ (R2.ext rb3) rx (fun σ4 δ4 R4 _ _ hq4 => ?_) hq2
    refine hb σ4 H' F3 δ4 n2 _ _ R4 (fun a b c d' e s r h => ?_) (fun a b c d' e s r p h => ?_) (fun a b c d' e s r h => ?_) (fun a b c d' e s r h => ?_) hq4
    · exact ⟨c, d', e, (sm.trans rb3.f0).trans s, r, h⟩
    · exact q2 a b c d' e (((rb.f0.trans sm).trans rb3.f0).trans s) r p h
    · exact q1 a b c d' e (((rb.f0.trans sm).trans rb3.f0).trans s) r h
    · exact ⟨c, d', e, (sm.trans rb3.f0).trans s, r, h⟩
  · have e : i = items.length := by omega
    refine .inl ⟨stop e, ?_⟩
    rw [e, List.drop_length] at hq2
    exact q1 σ2 H2 F2 δ2 n2 (rb.f0.trans sm) R2 hq2
/-- while, by a word with a measure -/
def sWhile (mc : Me Bool) (mb : Ms) : Ms := fun δ n k W => ∃ P : Nat → List Ds → Nat → Prop, (∃ m0, P m0 δ n) ∧ ∀ m0 δ n, P m0 δ n →
  mc δ n (fun b n' => if b = true then mb δ n' { k with nx := fun δ'' n'' => ∃ m1, m1 < m0 ∧ P m1 δ'' n'', ct := fun δ'' n'' => ∃ m1, m1 < m0 ∧ P m1 δ'' n'', bk := k.nx } W else k.nx δ n') W
theorem ds_while {mt : Me Bool} (hx : XOk X g) (hc : DT X g c mt) (hb : DSs X g body m) : DS X g (.While c body [] pos) (sWhile mt m) := by
  obtain ⟨tc, pc, hc⟩ := hc
  obtain ⟨tb, pb, hb⟩ := hb
  refine ⟨_, ps_while hx.own pc pb, fun σ H F δ n D k R q1 q2 q3 q4 w => ?_⟩
  obtain ⟨P, ⟨m0, w0⟩, turn⟩ := w
  refine ⟨fun m0 σ2 H2 => ∃ F2 δ2 n2, Same F F2 ∧ g.R X.K F2 σ2 H2 δ2 n2 ∧ P m0 δ2 n2, ⟨m0, F, δ, n, Same.refl _, R, w0⟩, ?_⟩
  rintro m1 σ2 H2 ⟨F2, δ2, n2, sm, R2, w2⟩
  refine hc σ2 H2 F2 δ2 n2 _ _ R2 (fun b F3 H3 n3 rb3 hq3 => ?_) (turn m1 δ2 n2 w2)
  cases b with
  | true =>
    rw [if_pos rfl] at hq3 ⊢
    refine ⟨fun σ4 H4 => ∃ m', m' < m1 ∧ ∃ F4 δ4 n4, Same F F4 ∧ g.R X.K F4 σ4 H4 δ4 n4 ∧ P m' δ4 n4, fun σ4 H4 ⟨m', l, z⟩ => ⟨m', l, z⟩, ?_⟩
    refine hb σ2 H3 F3 δ2 n3 _ _ (R2.ext rb3) (fun a b c d' e s r h => ?_) (fun a b c d' e s r p h => ?_) (fun a b c d' e s r h => ?_) (fun a b c d' e s r h => ?_) hq3
    · obtain ⟨m', l, h⟩ := h
      exact ⟨m', l, c, d', e, (sm.trans rb3.f0).trans s, r, h⟩
    · exact q2 a b c d' e ((sm.trans rb3.f0).trans s) r p h
    · exact q1 a b c d' e ((sm.trans rb3.f0).trans s) r h
    · obtain ⟨m', l, h⟩ := h
      exact ⟨m', l, c, d', e, (sm.trans rb3.f0).trans s, r, h⟩
  | false =>
    rw [if_neg Bool.false_ne_true] at hq3 ⊢
    exact q1 σ2 H3 F3 δ2 n3 (sm.trans rb3.f0) (R2.ext rb3) hq3

/-! ### several names at once -/
/-- a value for a slot: a datum, or a new list -/
def NewOk (K : PySem.W.Frag) (hd : Hd) (H F' H' : Hp) : V → Ds → Prop
  | v, .d x => Rp K F' v x
  | v, .own xs => ∃ (a : Addr) (vs : List V), v = .ref a ∧ H a = none ∧ F' a = none ∧ H' a = some (.lst vs) ∧ RpAll K F' vs xs
  | _, _ => False
def DV (X : Cx) (g : Gh) (e : Expr) (m : Me Ds) : Prop := ∃ t : TE, PE X e t ∧ ∀ (σ : L2.St) (H F : Hp) (δ : List Ds) (n : Nat) (Q : VK) (Qd : Kd Ds), g.R X.K F σ H δ n →
  (∀ v s F' H' n', RelB g.hd F H F' H' n' → NewOk X.K g.hd H F' H' v s → Qd s n' → Q v H') → m δ n Qd g.W → t σ H Q
theorem DE.val (h : DE X g e ma) : DV X g e (fun δ => bnd (ma δ) fun d => ret (.d d)) := by
  obtain ⟨t, p, h⟩ := h
  exact ⟨t, p, fun σ H F δ n Q Qd R q w => h σ H F δ n _ _ R (fun v d F' H' n' rb rp hq => q v (.d d) F' H' n' rb rp hq) w⟩
theorem DN.val {me : Me (List Dt)} (h : DN X g e me) : DV X g e (fun δ => bnd (me δ) fun ds => ret (.own ds)) := by
  obtain ⟨t, p, h⟩ := h
  exact ⟨t, p, fun σ H F δ n Q Qd R q w => h σ H F δ n _ _ R (fun a vs ds F' H' n' rb na fa ha hr hq => q _ (.own ds) F' H' n' rb ⟨a, vs, rfl, na, fa, ha, hr⟩ hq) w⟩
theorem NewOk.ext {K : PySem.W.Frag} {hd : Hd} {F H F' H' F'' H'' : Hp} {n n' : Nat} {v : V} {s : Ds} (rb : RelB hd F H F' H' n) (rb2 : RelB hd F' H' F'' H'' n') (ni : ∀ b, InHd hd b → ∃ o, H b = some o) (h : NewOk K hd H F' H' v s) : NewOk K hd H F'' H'' v s := by
  cases s with
  | d x => exact Rp.ext' rb2.f0 h
  | own xs =>
    obtain ⟨a, vs, h1, h2, h3, h4, h5⟩ := h
    refine ⟨a, vs, h1, h2, ?_, rb2.h0 _ _ h4 (fun i => by obtain ⟨o, z⟩ := ni _ i; rw [h2] at z; cases z), h5.ext' rb2.f0⟩
    cases y : F'' a with
    | none => rfl
    | some u =>
      rcases rb2.fnew a u y with k | k
      · rw [h3] at k; cases k
      · rw [h4] at k; cases k
  | no => exact h
  | hand => exact h
/-- a slot takes such a value: what stood there before is forgotten; the other names' own lists are others -/
theorem Rel.take {K : PySem.W.Frag} {hd : Hd} {F0 H0 F H : Hp} {σ : L2.St} {δ : List Ds} {n : Nat} (r : Rel K hd F0 H0 F σ H δ n) {v : V} {s : Ds} {Hb : Hp} (i : Nat) (h : NewOk K hd Hb F H v s) (hb : ∀ a, Hb a = none → H0 a = none ∧ ¬ InHd hd a)
    (nw : ∀ xs, s = .own xs → ∀ (j : Nat) (ys : List Dt), δ[j]? = some (.own ys) → σ[j]? ≠ some (some v)) : Rel K hd F0 H0 F (σ.set i (some v)) H (δ.set i s) n := by
  cases s with
  | d x => exact r.put i h
  | own xs =>
    obtain ⟨a, vs, rfl, h2, h3, h4, h5⟩ := h
    obtain ⟨z1, z2⟩ := hb a h2
    exact r.putOwn i h3 z1 z2 h4 h5 (nw xs rfl)
  | no => exact h.elim
  | hand => exact h.elim
def sPar (i j : Nat) (m1 m2 : Me Ds) : Ms := fun δ n k W => m1 δ n (fun s1 n1 => m2 δ n1 (fun s2 n2 => k.nx ((δ.set i s1).set j s2) n2) W) W
theorem newRef {K : PySem.W.Frag} {hd : Hd} {Hb F H : Hp} {v : V} {xs : List Dt} (h : NewOk K hd Hb F H v (.own xs)) : ∃ a, v = .ref a ∧ Hb a = none := by
  obtain ⟨a, vs, h1, h2, _⟩ := h
  exact ⟨a, h1, h2⟩
theorem NewOk.there {K : PySem.W.Frag} {hd : Hd} {Hb F H : Hp} {a : Addr} {xs : List Dt} (h : NewOk K hd Hb F H (.ref a) (.own xs)) : ∃ o, H a = some o := by
  obtain ⟨b, vs, h1, h2, h3, h4, _⟩ := h
  cases h1
  exact ⟨_, h4⟩
theorem ds_par (i j : Nat) {x y : Str} {mv mw : Me Ds} {px py pt : Pos} {kt k2 : Nat} {pt2 : Pos} (hc : X.calm = true) (hN : X.N.Nodup) (ha : DV X g a mv) (hb : DV X g b mw) (hi : X.N[i]? = some x := by rfl) (hj : X.N[j]? = some y := by rfl) (hij : i ≠ j := by decide)
    (hx : X.env.scope.names.lookup x = some .local := by rfl) (hy : X.env.scope.names.lookup y = some .local := by rfl)
    (h1 : starEach [a, b] X.env = (false, eval a X.env) :: starEach [b] X.env := by rfl) (h2 : starEach [b] X.env = (false, eval b X.env) :: starEach [] X.env := by rfl)
    (hw : swappedStores [.Tuple [.Name x px, .Name y py] kt pt] (.Tuple [a, b] k2 pt2) X.env = pure (some [x, y]) := by rfl)
    (hs : swapsWithSole [.Tuple [.Name x px, .Name y py] kt pt] (.Tuple [a, b] k2 pt2) pos.line X.env = pure false := by rfl) :
    DS X g (.Assign [.Tuple [.Name x px, .Name y py] kt pt] (.Tuple [a, b] k2 pt2) pos) (sPar i j mv mw) := by
  obtain ⟨t, p, ha⟩ := ha
  obtain ⟨u, p2, hb⟩ := hb
  refine ⟨_, ps_par hc hN hi hj hij hx hy (pa_cons p (pa_cons p2 pa_nil h2) h1) hw hs, fun σ H F δ n D k R q1 q2 q3 q4 w => ?_⟩
  refine ha σ H F δ n _ _ R (fun v s F1 H1 n1 rb1 o1 hq1 => ?_) w
  refine hb σ H1 F1 δ n1 _ _ (R.ext rb1) (fun v2 s2 F2 H2 n2 rb2 o2 hq2 => ?_) hq1
  refine ⟨v, v2, rfl, q1 _ H2 F2 _ n2 (rb1.f0.trans rb2.f0) ?_ hq2⟩
  have o1' := o1.ext rb1 rb2 (fun b i => R.b.hand.there i)
  have old : ∀ a, H a = none → g.H0 a = none ∧ ¬ InHd g.hd a := fun a na => ⟨R.b.old (fun b i => R.b.hand.there i) na, fun i => by
    obtain ⟨o, z⟩ := R.b.hand.there i
    rw [na] at z; cases z⟩
  have R1 := R.ext rb1
  have old1 : ∀ a, H1 a = none → g.H0 a = none ∧ ¬ InHd g.hd a := fun a na => ⟨R1.b.old (fun b i => R1.b.hand.there i) na, fun i => by
    obtain ⟨o, z⟩ := R1.b.hand.there i
    rw [na] at z; cases z⟩
  have S1 := (R1.ext rb2).take i o1' old (fun xs e j ys ej => by
    subst e
    obtain ⟨a, rfl, na⟩ := newRef o1'
    exact R.fresh na j ys ej)
  refine S1.take j o2 old1 (fun xs e j' ys ej => ?_)
  subst e
  obtain ⟨a2, rfl, na2⟩ := newRef o2
  by_cases e : i = j'
  · subst e
    by_cases z : i < δ.length
    · rw [List.getElem?_set_self z] at ej
      cases ej
      obtain ⟨a1, rfl, na1⟩ := newRef o1'
      obtain ⟨o, ho⟩ := o1.there
      rw [List.getElem?_set_self (by rw [R.len]; exact z)]
      intro y
      have : a1 = a2 := by cases y; rfl
      rw [this, na2] at ho; cases ho
    · rw [List.getElem?_eq_none (by simpa using z)] at ej; cases ej
  · rw [List.getElem?_set_ne e] at ej ⊢
    exact R1.fresh na2 j' ys ej
def sPar3 (i j l : Nat) (m1 m2 m3 : Me Ds) : Ms := fun δ n k W => m1 δ n (fun s1 n1 => m2 δ n1 (fun s2 n2 => m3 δ n2 (fun s3 n3 => k.nx (((δ.set i s1).set j s2).set l s3) n3) W) W) W
theorem ds_par3 (i j l : Nat) {x y z : Str} {mv mw mz : Me Ds} {px py pz pt : Pos} {kt k2 : Nat} {pt2 : Pos} (hc : X.calm = true) (hN : X.N.Nodup) (ha : DV X g a mv) (hb : DV X g b mw) (hcc : DV X g c mz) (hi : X.N[i]? = some x := by rfl) (hj : X.N[j]? = some y := by rfl) (hl : X.N[l]? = some z := by rfl) (hij : i ≠ j := by decide) (hil : i ≠ l := by decide) (hjl : j ≠ l := by decide)
    (hx : X.env.scope.names.lookup x = some .local := by rfl) (hy : X.env.scope.names.lookup y = some .local := by rfl) (hz : X.env.scope.names.lookup z = some .local := by rfl)
    (h1 : starEach [a, b, c] X.env = (false, eval a X.env) :: starEach [b, c] X.env := by rfl) (h2 : starEach [b, c] X.env = (false, eval b X.env) :: starEach [c] X.env := by rfl) (h3 : starEach [c] X.env = (false, eval c X.env) :: starEach [] X.env := by rfl)
    (hw : swappedStores [.Tuple [.Name x px, .Name y py, .Name z pz] kt pt] (.Tuple [a, b, c] k2 pt2) X.env = pure (some [x, y, z]) := by rfl)
    (hs : swapsWithSole [.Tuple [.Name x px, .Name y py, .Name z pz] kt pt] (.Tuple [a, b, c] k2 pt2) pos.line X.env = pure false := by rfl) :
    DS X g (.Assign [.Tuple [.Name x px, .Name y py, .Name z pz] kt pt] (.Tuple [a, b, c] k2 pt2) pos) (sPar3 i j l mv mw mz) := by
  obtain ⟨t, p, ha⟩ := ha
  obtain ⟨u, p2, hb⟩ := hb
  obtain ⟨u3, p3, hcc⟩ := hcc
  refine ⟨_, ps_par3 hc hN hi hj hl hij hil hjl hx hy hz (pa_cons p (pa_cons p2 (pa_cons p3 pa_nil h3) h2) h1) hw hs, fun σ H F δ n D k R q1 q2 q3 q4 w => ?_⟩
  refine ha σ H F δ n _ _ R (fun v s F1 H1 n1 rb1 o1 hq1 => ?_) w
  refine hb σ H1 F1 δ n1 _ _ (R.ext rb1) (fun v2 s2 F2 H2 n2 rb2 o2 hq2 => ?_) hq1
  refine hcc σ H2 F2 δ n2 _ _ ((R.ext rb1).ext rb2) (fun v3 s3 F3 H3 n3 rb3 o3 hq3 => ?_) hq2
  refine ⟨v, v2, v3, rfl, q1 _ H3 F3 _ n3 ((rb1.f0.trans rb2.f0).trans rb3.f0) ?_ hq3⟩
  have R1 := R.ext rb1
  have R2 := R1.ext rb2
  have o1' := o1.ext rb1 (rb2.trans rb3) (fun b i => R.b.hand.there i)
  have o2' := o2.ext rb2 rb3 (fun b i => R1.b.hand.there i)
  have old : ∀ {F H σ δ n}, g.R X.K F σ H δ n → ∀ a, H a = none → g.H0 a = none ∧ ¬ InHd g.hd a := fun R a na => ⟨R.b.old (fun b i => R.b.hand.there i) na, fun i => by
    obtain ⟨o, z⟩ := R.b.hand.there i
    rw [na] at z; cases z⟩
  have S1 := (R2.ext rb3).take i o1' (old R) (fun xs e j ys ej => by
    subst e
    obtain ⟨a, rfl, na⟩ := newRef o1'
    exact R.fresh na j ys ej)
  have S2 := S1.take j o2' (old R1) (fun xs e j' ys ej => by
    subst e
    obtain ⟨a2, rfl, na2⟩ := newRef o2'
    by_cases e : i = j'
    · subst e
      by_cases z : i < δ.length
      · rw [List.getElem?_set_self z] at ej
        cases ej
        obtain ⟨a1, rfl, na1⟩ := newRef o1'
        obtain ⟨o, ho⟩ := o1.there
        rw [List.getElem?_set_self (by rw [R.len]; exact z)]
        intro y
        have : a1 = a2 := by cases y; rfl
        rw [this, na2] at ho; cases ho
      · rw [List.getElem?_eq_none (by simpa using z)] at ej; cases ej
    · rw [List.getElem?_set_ne e] at ej ⊢
      exact R1.fresh na2 j' ys ej)
  refine S2.take l o3 (old R2) (fun xs e j' ys ej => ?_)
  subst e
  obtain ⟨a3, rfl, na3⟩ := newRef o3
  by_cases ej2 : j = j'
  · subst ej2
    by_cases z : j < (δ.set i s).length
    · rw [List.getElem?_set_self z] at ej
      cases ej
      obtain ⟨a2, rfl, na2⟩ := newRef o2'
      obtain ⟨o, ho⟩ := o2.there
      rw [List.getElem?_set_self (by rw [List.length_set] at z ⊢; rw [R.len]; exact z)]
      intro y
      have : a2 = a3 := by cases y; rfl
      rw [this, na3] at ho; cases ho
    · rw [List.getElem?_eq_none (by simpa using z)] at ej; cases ej
  · rw [List.getElem?_set_ne ej2] at ej ⊢
    by_cases e : i = j'
    · subst e
      by_cases z : i < δ.length
      · rw [List.getElem?_set_self z] at ej
        cases ej
        obtain ⟨a1, rfl, na1⟩ := newRef o1'
        obtain ⟨o, ho⟩ := (o1.ext rb1 rb2 (fun b i => R.b.hand.there i)).there
        rw [List.getElem?_set_self (by rw [R.len]; exact z)]
        intro y
        have : a1 = a3 := by cases y; rfl
        rw [this, na3] at ho; cases ho
      · rw [List.getElem?_eq_none (by simpa using z)] at ej; cases ej
    · rw [List.getElem?_set_ne e] at ej ⊢
      exact R2.fresh na3 j' ys ej
end
end Dl
namespace Dl
open PySem PySem.Spec L2
open PyProof.Rows hiding St

/-! ### a def's promise where no repr is under way -/
structure FnG (P : Program) (w : World) (K : PySem.W.Frag) (mg : Str → Option Value) (base : Heap) (k : Nat) (f : Addr) (fd : FuncData) (ps : List Str) (sp : Sp) : Prop where
  long : ∀ vs H Q E, sp vs H Q E → vs.length = ps.length
  goes : ∀ (A : Around) (outer : List Env) (s : Shared) (H : Hp) (args : Args) (us : List Value) (vs : List V) (Q : VK) (E : XK), Room k A → A.guards = some [] → Env0 P w K mg base A outer s H → BindsTo s fd args (ps.zip us) → Vals vs us → sp vs H Q E →
    codeAny (model P w) A (.call (.ref f) args) (CR (L2.CX P w) outer P w H s Q E) s
section
variable {P : Program} {w : World} {K : PySem.W.Frag} {mg : Str → Option Value} {base : Heap}
theorem FnG.more {j k : Nat} {f : Addr} {fd : FuncData} {ps : List Str} {sp : Sp} (G : FnG P w K mg base j f fd ps sp) (h : j ≤ k) : FnG P w K mg base k f fd ps sp :=
  ⟨G.long, fun A outer s H args us vs Q E room gu e b v q => G.goes A outer s H args us vs Q E (room.mono h) gu e b v q⟩
/-- a def by its body: the reading is chosen at the entry -/
theorem FnG.of {x qual : Str} {params : Arguments} {body : List Stmt} {scope : Scope} {dvs : List V} {kws : List (Str × V)} {f : Addr} {fd : FuncData} {N ps : List Str} {k : Nat} {sp : Sp} (D : FunD K x qual params body scope dvs kws f fd) (S : FnScope N ps scope)
    (long : ∀ vs H Q E, sp vs H Q E → vs.length = ps.length)
    (walk : ∀ (cdv : Value) (A : Around) (outer : List Env) (s : Shared) (H : Hp) (vs : List V) (Q : VK) (E : XK), Room k (A.deeper (envOfC qual scope s.heap.objs.size f cdv)) → A.guards = some [] → sp vs H Q E →
      ∃ t, PSs (cxOf (L2.CX P w) P w K mg base N qual scope f cdv A outer s H E) body t ∧ t { nx := fun _ H' => Q .non H', rt := Q } (L2.start N vs) H) : FnG P w K mg base (k + 1) f fd ps sp := by
  obtain ⟨oc, od, dV, kV, doc, pm, an, cdv, ct, osl, e0, look, code, _, _⟩ := D.ex
  subst e0
  constructor
  · exact long
  intro A outer s H args us vs Q E room gu env bind rel want
  have count := long _ _ _ _ want
  have inK : K.In s.heap := env.mod.kin.keeps fun b o e => (env.bs b o e).1
  have noLim : s.heap.NoLimit := env.mod.nolimit.keeps fun b o e => (env.bs b o e).1
  have kinds : ∀ y ∈ ps.zip us, scope.names.lookup y.1 = some .local ∨ (scope.names.lookup y.1 = some .cell ∧ ((cellsFrom (s.heap.objs.size + 1) scope.names []).lookup y.1).isSome = true) := by
    rintro ⟨p, u⟩ mem
    cases S.par p (List.of_mem_zip mem).1 with
    | inl q => exact Or.inl q
    | inr q => exact Or.inr ⟨q, PySem.W.cellsFrom_some _ _ _ (Or.inl q)⟩
  refine codeAny_call_function room.depth (inK _ _ look) rfl S.co S.gen rfl (PySem.W.codeRec_of inK code) (bind _ _ _ _ (wpAny_newFunctionEnv_cells S.kind kinds fun en he s1 inside => ?_))
  subst he
  obtain ⟨t, reads, meets⟩ := walk cdv A outer s H vs Q E (room.deeper _) gu want
  have I0 : Inv (cxOf (L2.CX P w) P w K mg base N qual scope f cdv A outer s H E) [] (L2.start N vs) H s1 := inv_start S room.hd env count rel inside
  refine ⟨noLim.keeps inside.toInCall.keep, codeAny_func (wpAny_mono (reads.run [] s1 (L2.start N vs) H _ I0 meets) ?_ fun _ _ z => z)⟩
  have close : ∀ {σ2 : L2.St} {H2 : Hp} {s2 : Shared} {v : V} {u : Value}, Inv (cxOf (L2.CX P w) P w K mg base N qual scope f cdv A outer s H E) [] σ2 H2 s2 → RelV v u → Q v H2 → CE outer P w H s Q u s2 :=
    fun {_ H2 _ v _} J rv q => ⟨v, H2, J.os, J.bare, J.base, J.hok, rv, q⟩
  intro flow s2 done
  cases flow with
  | next => exact let ⟨_, _, J, q⟩ := done; close (v := V.non) (u := Value.none) J rfl q
  | ret u => exact let ⟨_, _, _, J, rv, q⟩ := done; close J rv q
  | brk => exact let ⟨_, _, _, q⟩ := done; q.elim
  | cont => exact let ⟨_, _, _, q⟩ := done; q.elim
end
/-- such a def is called -/
theorem callG {X : Cx} {k : Nat} {f : Addr} {fd : FuncData} {ps : List Str} {sp : Sp} {E : XK} {pins : List (Addr × Obj)} {σ : L2.St} {H : Hp} {s : Shared} {Q : VK} {us bound : List Value} {vs : List V} {kw : List (Str × Value)}
    (G : FnG X.prog X.w X.K X.mg X.base k f fd ps sp) (room : Room k X.A) (gu : X.A.guards = some []) (pass : Passes (L2.CX X.prog X.w) X E) (I : Inv X pins σ H s) (bind : BindsTo s fd ⟨us, kw⟩ (ps.zip bound)) (rel : Vals vs bound) (want : sp vs H Q E) :
    wpAny (model X.prog X.w) X.A (call (.ref f) us kw) (EP X pins σ Q) X.xe s := by
  apply wpAny_call
  refine codeAny_mono (G.goes X.A X.stack s H ⟨us, kw⟩ bound vs Q E room gu I.env0 bind rel want) ?_
  intro r s' h
  match r with
  | .error e => exact pass pins σ H s e s' I h
  | .ok (.ret u) => exact I.after h
  | .ok .next => exact h.elim
  | .ok .brk => exact h.elim
  | .ok .cont => exact h.elim

/-! ### promises by meanings -/
def slotOf : Da → Ds
  | .d x => .d x
  | .hand => .hand
def slotsOf (N : List Str) (as : List Da) : List Ds := as.map slotOf ++ List.replicate (N.length - as.length) .no
def spD (K : PySem.W.Frag) (ar : Nat) (mF : List Da → Mv Dt) : Sp := fun vs H Q E => ∃ (hd : Hd) (F : Hp) (as : List Da) (n : Nat) (Qd : Kd Dt) (W : Wx), RelB hd F H F H n ∧ DasOk K hd F vs as ∧ as.length = ar ∧ mF as n Qd W ∧
  (∀ v d F' H' n', RelB hd F H F' H' n' → Rp K F' v d → Qd d n' → Q v H') ∧ ∀ cls a fs F' H' n', RelB hd F H F' H' n' → ExAt K F' H' a fs → W (cls, fs) n' → E cls a H'
abbrev FnD (P : Program) (w : World) (K : PySem.W.Frag) (mg : Str → Option Value) (base : Heap) (k : Nat) (f : Addr) (fd : FuncData) (ps : List Str) (mF : List Da → Mv Dt) : Prop := FnG P w K mg base k f fd ps (spD K ps.length mF)
theorem DasOk.length {K : PySem.W.Frag} {hd : Hd} {F : Hp} : ∀ {vs : List V} {as : List Da}, DasOk K hd F vs as → vs.length = as.length
  | _, _, .nil => rfl
  | _, _, .cons _ t => congrArg Nat.succ t.length
theorem DasOk.at {K : PySem.W.Frag} {hd : Hd} {F : Hp} : ∀ {vs : List V} {as : List Da} {i : Nat} {a : Da}, DasOk K hd F vs as → as[i]? = some a → ∃ v, vs[i]? = some v ∧ DaOk K hd F v a
  | _, _, _, _, .nil, e => by simp at e
  | _, _, 0, _, .cons h _, e => by simp at e; subst e; exact ⟨_, rfl, h⟩
  | _, _, i + 1, _, .cons _ t, e => by
    obtain ⟨v, h1, h2⟩ := t.at (by simpa using e)
    exact ⟨v, by simpa using h1, h2⟩
/-- the slots at a def's entry -/
theorem rel_start {K : PySem.W.Frag} {hd : Hd} {F H : Hp} {n : Nat} {N : List Str} {vs : List V} {as : List Da} (rb : RelB hd F H F H n) (da : DasOk K hd F vs as) (hl : as.length ≤ N.length) : Rel K hd F H F (L2.start N vs) H (slotsOf N as) n := by
  have hlen := da.length
  have at_ : ∀ (i : Nat) (s : Ds), (slotsOf N as)[i]? = some s → s = .no ∨ ∃ a v, as[i]? = some a ∧ s = slotOf a ∧ (L2.start N vs)[i]? = some (some v) ∧ DaOk K hd F v a := by
    intro i s e
    unfold slotsOf at e
    by_cases h : i < as.length
    · right
      rw [List.getElem?_append_left (by rw [List.length_map]; exact h), List.getElem?_map] at e
      obtain ⟨a, ha, e2⟩ := Option.map_eq_some_iff.mp e
      obtain ⟨v, hv, ok⟩ := da.at ha
      refine ⟨a, v, ha, e2.symm, ?_, ok⟩
      unfold L2.start
      rw [List.getElem?_append_left (by rw [List.length_map, hlen]; exact h), List.getElem?_map, hv]
      rfl
    · left
      rw [List.getElem?_append_right (by rw [List.length_map]; omega), List.getElem?_replicate] at e
      split at e
      · cases e; rfl
      · cases e
  refine ⟨rb, ?_, fun i s e => ?_, fun i j xs ys a e1 _ _ _ => ?_⟩
  · unfold L2.start slotsOf
    rw [List.length_append, List.length_append, List.length_map, List.length_map, List.length_replicate, List.length_replicate, hlen]
  · rcases at_ i s e with rfl | ⟨a, v, _, rfl, h, ok⟩
    · trivial
    · cases a with
      | d x => exact ⟨v, h, ok⟩
      | hand =>
        obtain ⟨x, c, h1, h2⟩ := ok
        exact ⟨x, c, h1, by rw [h, h2]⟩
  · rcases at_ i _ e1 with e | ⟨a, v, _, e, _⟩
    · cases e
    · cases a <;> cases e
section
variable {P : Program} {w : World} {K : PySem.W.Frag} {mg : Str → Option Value} {base : Heap}
/-- THE RULE: a def by its body's meaning -/
theorem FnD.of {x qual : Str} {params : Arguments} {body : List Stmt} {scope : Scope} {dvs : List V} {kws : List (Str × V)} {f : Addr} {fd : FuncData} {N ps : List Str} {k : Nat} {mF : List Da → Mv Dt} (m : Ms) (D : FunD K x qual params body scope dvs kws f fd) (S : FnScope N ps scope)
    (walk : ∀ (cdv : Value) (A : Around) (outer : List Env) (s : Shared) (H : Hp) (E : XK) (g : Gh), XOk (cxOf (L2.CX P w) P w K mg base N qual scope f cdv A outer s H E) g → Room k (A.deeper (envOfC qual scope s.heap.objs.size f cdv)) →
      DSs (cxOf (L2.CX P w) P w K mg base N qual scope f cdv A outer s H E) g body m)
    (mean : ∀ (as : List Da) (n : Nat) (Qd : Kd Dt) (W : Wx), as.length = ps.length → mF as n Qd W → m (slotsOf N as) n { nx := fun _ n' => Qd .none n', rt := Qd } W) : FnD P w K mg base (k + 1) f fd ps mF := by
  refine FnG.of D S (fun vs H Q E h => ?_) (fun cdv A outer s H vs Q E room gu h => ?_)
  · obtain ⟨hd, F, as, n, Qd, W, _, da, hl, _⟩ := h
    rw [da.length, hl]
  · obtain ⟨hd, F, as, n, Qd, W, rb, da, hl, hm, q, qx⟩ := h
    have hlN : as.length ≤ N.length := by
      rw [hl, ← S.pre, List.length_take]
      exact Nat.min_le_right _ _
    have tk : Takes (cxOf (L2.CX P w) P w K mg base N qual scope f cdv A outer s H E) (fun cls d _ H' => E cls d H') := takes_of rfl rfl rfl rfl
    have ok : XOk (cxOf (L2.CX P w) P w K mg base N qual scope f cdv A outer s H E) ⟨hd, F, H, W⟩ := by
      refine ⟨rfl, passes_of rfl, gu, S.nd, passes_call tk ?_⟩
      rintro cls a σ H' ⟨fs, n', F', hB, hx, hw⟩
      exact qx cls a fs F' H' n' hB hx hw
    obtain ⟨t, reads, spec⟩ := walk cdv A outer s H E ⟨hd, F, H, W⟩ ok room
    refine ⟨t, reads, spec (L2.start N vs) H F (slotsOf N as) n _ { nx := fun _ n' => Qd .none n', rt := Qd } (rel_start rb da hlN) (fun σ' H' F' δ' n' _ R h => ?_) (fun v d H' F' n' _ B rp h => ?_) (fun _ _ _ _ _ _ _ h => h) (fun _ _ _ _ _ _ _ h => h) (mean as n Qd W hl hm)⟩
    · exact q .non .none F' H' n' R.b .non h
    · exact q v d F' H' n' B rp h
theorem FnD.more {j k : Nat} {f : Addr} {fd : FuncData} {ps : List Str} {mF : List Da → Mv Dt} (G : FnD P w K mg base j f fd ps mF) (h : j ≤ k) : FnD P w K mg base k f fd ps mF := FnG.more G h
/-- a narrower promise -/
theorem FnD.imp {k : Nat} {f : Addr} {fd : FuncData} {ps : List Str} {mF mF' : List Da → Mv Dt} (G : FnD P w K mg base k f fd ps mF) (h : ∀ as n Q W, as.length = ps.length → mF' as n Q W → mF as n Q W) : FnD P w K mg base k f fd ps mF' := by
  have im : ∀ vs H Q E, spD K ps.length mF' vs H Q E → spD K ps.length mF vs H Q E := fun vs H Q E ⟨hd, F, as, n, Qd, W, rb, da, hl, hm, q, qx⟩ => ⟨hd, F, as, n, Qd, W, rb, da, hl, h as n Qd W hl hm, q, qx⟩
  exact ⟨fun vs H Q E q => G.long vs H Q E (im _ _ _ _ q), fun A outer s H args us vs Q E r gu e b v q => G.goes A outer s H args us vs Q E r gu e b v (im _ _ _ _ q)⟩
end

/-! ### calls as expressions -/
section
variable {X : Cx} {g : Gh} {e : Expr} {es : List Expr} {kws : List Keyword} {x : Str} {p pos kpos : Pos} {k : Nat} {f : Addr} {fd : FuncData} {ps : List Str} {mF : List Da → Mv Dt} {m : Me (List Da)}
/-- what the callee is told by the caller -/
theorem told {σ : L2.St} {H F : Hp} {δ : List Ds} {n : Nat} {H1 F1 : Hp} {n1 : Nat} {vs : List V} {as : List Da} {Q : VK} {Qd : Kd Dt} (R : g.R X.K F σ H δ n) (rb : RelB g.hd F H F1 H1 n1) (da : DasOk X.K g.hd F1 vs as) (hl : as.length = ps.length) (hm : mF as n1 Qd g.W)
    (q : ∀ v d F' H' n', RelB g.hd F H F' H' n' → Rp X.K F' v d → Qd d n' → Q v H') : spD X.K ps.length mF vs H1 Q (EOf X.K g) := by
  refine ⟨g.hd, F1, as, n1, Qd, g.W, rb.refl, da, hl, hm, fun v d F' H' n' r2 rp hq => q v d F' H' n' (rb.trans r2) rp hq, fun cls a fs F' H' n' r2 hx hw => ?_⟩
  exact ⟨fs, n', F', (R.b.trans rb).trans r2, hx, hw⟩
/-- the arguments are as many as the parameters -/
def many (c : Nat) (mF : List Da → Mv Dt) (as : List Da) : Mv Dt := fun n Q W => as.length = c ∧ mF as n Q W
theorem de_call (G : FnD X.prog X.w X.K X.mg X.base k f fd ps mF) (hx : XOk X g) (room : Room k X.A) (hg : Gl X x) (hm : X.mg x = some (.ref f)) (hk : PySem.W.keepIn X.K (.ref f) = true)
    (hb : ∀ us : List Value, us.length = ps.length → ∀ s : Shared, X.K.In s.heap → BindsTo s fd ⟨us, []⟩ (ps.zip us)) (ha : DAs X g (e :: es) m) (hdb : (x == ("__debug__" : Str)) = false := by decide)
    (he : starEach (e :: es) X.env = (false, eval e X.env) :: starEach es X.env := by rfl) (hpl : (backTo pos (starEach es X.env)).any (·.1) = false := by rfl) :
    DE X g (.Call (.Name x p) (e :: es) [] pos) (fun δ => bnd (m δ) (many ps.length mF)) := by
  obtain ⟨t, pa, ha⟩ := ha
  refine ⟨fun σ H Q => t σ H fun vs H1 => vs.length = ps.length ∧ spD X.K ps.length mF vs H1 Q (EOf X.K g), ⟨fun pins s σ H Q I h => ?_⟩, fun σ H F δ n Q Qd R q w => ha σ H F δ n _ _ R (fun vs as F1 H1 n1 rb da hq => ⟨by rw [da.length]; exact hq.1, told R rb da hq.1 hq.2 q⟩) w⟩
  apply wpAny_Call_Name_kw
  refine ld_glob I hg hm ?_ hdb
  refine PySem.W.callWith_K (h₀ := X.base) I.ok.mod.kin hk (thn (pa.run pos pins s σ H _ I h) ?_) he hpl
  rintro us s1 ⟨vs, H1, I1, rel, hl, want⟩
  have hl2 : us.length = ps.length := by rw [← rel.length]; exact hl
  exact ⟨I1.kIn, callG G room hx.guards hx.pass I1 (hb us hl2 s1 I1.kIn) rel want⟩
/-- f(), no arguments -/
theorem de_call0 (G : FnD X.prog X.w X.K X.mg X.base k f fd [] mF) (hx : XOk X g) (room : Room k X.A) (hg : Gl X x) (hm : X.mg x = some (.ref f)) (hk : PySem.W.keepIn X.K (.ref f) = true)
    (hb : ∀ us : List Value, us.length = ([] : List Str).length → ∀ s : Shared, X.K.In s.heap → BindsTo s fd ⟨us, []⟩ (([] : List Str).zip us)) (hdb : (x == ("__debug__" : Str)) = false := by decide) :
    DE X g (.Call (.Name x p) [] [] pos) (fun _ => mF []) := by
  refine ⟨fun σ H Q => spD X.K ([] : List Str).length mF [] H Q (EOf X.K g), ⟨fun pins s σ H Q I h => ?_⟩, fun σ H F δ n Q Qd R q w => told R R.b.refl .nil rfl w q⟩
  apply wpAny_Call_Name_kw
  refine ld_glob I hg hm ?_ hdb
  exact PySem.W.callWith_K0 I.kIn hk (callG G room hx.guards hx.pass I (hb [] rfl s I.kIn) .nil h)
/-- f(k = e, ..): keywords alone, π puts them in the parameters' order -/
def DKs (X : Cx) (g : Gh) (kws : List Keyword) (m : Me (List Da)) : Prop := ∃ t : TA, PK X kws t ∧ ∀ (σ : L2.St) (H F : Hp) (δ : List Ds) (n : Nat) (Q : List V → Hp → Prop) (Qd : Kd (List Da)), g.R X.K F σ H δ n →
  (∀ vs ds F' H' n', RelB g.hd F H F' H' n' → DasOk X.K g.hd F' vs ds → Qd ds n' → Q vs H') → m δ n Qd g.W → t σ H Q
theorem dks_nil : DKs X g [] (fun _ => ret []) := ⟨_, pk_nil, fun σ H F δ n Q Qd r q w => q [] [] F H n r.b.refl .nil w⟩
theorem dks_cons {nm : Option Str} {m1 : Me Da} {mr : Me (List Da)} (h : DA1 X g e m1) (hr : DKs X g kws mr) : DKs X g (⟨nm, e, kpos⟩ :: kws) (fun δ => bnd (m1 δ) fun x => bnd (mr δ) fun xs => ret (x :: xs)) := by
  obtain ⟨t, p, h⟩ := h
  obtain ⟨tr, pr, hr⟩ := hr
  refine ⟨_, pk_cons p pr, fun σ H F δ n Q Qd r q w => h σ H F δ n _ _ r (fun v d F1 H1 n1 rb rp hq => ?_) w⟩
  refine hr σ H1 F1 δ n1 _ _ (r.ext rb) (fun vs ds F2 H2 n2 rb2 rp2 hq2 => ?_) hq
  exact q _ _ F2 H2 n2 (rb.trans rb2) (.cons (rp.ext rb2.f0) rp2) hq2
/-- an order of a list's places -/
def order {α : Type} (is : List Nat) (xs : List α) : List α := is.filterMap fun i => xs[i]?
theorem Vals.order : ∀ {vs : List V} {us : List Value} (is : List Nat), Vals vs us → Vals (Dl.order is vs) (Dl.order is us)
  | _, _, [], _ => .nil
  | vs, us, i :: is, r => by
    have ih := Vals.order is r
    unfold Dl.order at ih ⊢
    rw [List.filterMap_cons, List.filterMap_cons]
    cases e : vs[i]? with
    | none =>
      have z : us[i]? = none := by
        rw [List.getElem?_eq_none_iff] at e ⊢
        rw [← r.length]; exact e
      rw [z]
      exact ih
    | some v =>
      obtain ⟨u, hu, ru⟩ := r.get e
      rw [hu]
      exact .cons ru ih
theorem DasOk.order {K : PySem.W.Frag} {hd : Hd} {F : Hp} : ∀ {vs : List V} {as : List Da} (is : List Nat), DasOk K hd F vs as → DasOk K hd F (Dl.order is vs) (Dl.order is as)
  | _, _, [], _ => .nil
  | vs, as, i :: is, r => by
    have ih := DasOk.order is r
    unfold Dl.order at ih ⊢
    rw [List.filterMap_cons, List.filterMap_cons]
    cases e : as[i]? with
    | none =>
      have z : vs[i]? = none := by
        rw [List.getElem?_eq_none_iff] at e ⊢
        rw [r.length]; exact e
      rw [z]
      exact ih
    | some a =>
      obtain ⟨v, hv, ok⟩ := r.at e
      rw [hv]
      exact .cons ok ih
/-- a call by keywords alone -/
def manyK (c : Nat) (mF : List Da → Mv Dt) (is : List Nat) (as : List Da) : Mv Dt := fun n Q W => as.length = c ∧ many c mF (order is as) n Q W
theorem de_callK (is : List Nat) {ks : List Str} (G : FnD X.prog X.w X.K X.mg X.base k f fd ps mF) (hx : XOk X g) (room : Room k X.A) (hg : Gl X x) (hm : X.mg x = some (.ref f)) (hk : PySem.W.keepIn X.K (.ref f) = true)
    (hb : ∀ ws : List Value, ws.length = ps.length → ∀ s : Shared, X.K.In s.heap → BindsTo s fd ⟨[], ks.zip ws⟩ (ps.zip (order is ws))) (ha : DKs X g kws m) (hdb : (x == ("__debug__" : Str)) = false := by decide)
    (hall : (backToKw pos (keywordEach kws X.env)).all (·.1.isSome) = true := by rfl) (hks : (backToKw pos (keywordEach kws X.env)).filterMap (·.1) = ks := by rfl)
    (hpl : ((backTo pos (starEach [] X.env)).any (·.1) || (backToKw pos (keywordEach kws X.env)).any (·.1.isNone)) = false := by rfl) :
    DE X g (.Call (.Name x p) [] kws pos) (fun δ => bnd (m δ) (manyK ps.length mF is)) := by
  obtain ⟨t, pk, ha⟩ := ha
  refine ⟨fun σ H Q => t σ H fun vs H1 => vs.length = ps.length ∧ spD X.K ps.length mF (order is vs) H1 Q (EOf X.K g), ⟨fun pins s σ H Q I h => ?_⟩, fun σ H F δ n Q Qd R q w => ha σ H F δ n _ _ R (fun vs as F1 H1 n1 rb da hq => ⟨by rw [da.length]; exact hq.1, told R rb (da.order is) hq.2.1 hq.2.2 q⟩) w⟩
  apply wpAny_Call_Name_kw
  refine ld_glob I hg hm ?_ hdb
  refine PySem.W.callWith_KW0 (h₀ := X.base) (first := []) I.ok.mod.kin hk hall (thn (pk.run pos pins s σ H _ I h) ?_) hpl
  rintro us s1 ⟨vs, H1, I1, rel, hl, want⟩
  refine ⟨I1.kIn, ?_⟩
  rw [hks]
  have hl2 : us.length = ps.length := by rw [← rel.length]; exact hl
  exact callG G room hx.guards hx.pass I1 (hb us hl2 s1 I1.kIn) (Vals.order is rel) want
end
end Dl
namespace Dl
open PySem PySem.Spec L2
open PyProof.Rows hiding St

/-! ### the hand: a number is dealt -/
abbrev tInt (i : Int) : TE := tC (.int i)
abbrev rMod : R2 := rI (fun _ j => 0 < j) fun i j => .int (i % j)
abbrev rFd : R2 := rI CDiv fun i j => .int (i / j)
abbrev rAd : R2 := rI0 fun i j => .int (i + j)
abbrev rMu : R2 := rI CMul fun i j => .int (i * j)
/-- hand[i] -/
abbrev tH (K : PySem.W.Frag) (i : Int) : TE := tOp (rIxL K) (tVar 0) (tInt i)
def tM4 : TS := tRet (tOp rMod (tOp rFd (tOp rMod (tOp rMu (tVar 3) (tOp rAd (tOp rFd (tVar 3) (tInt 5)) (tInt 39373))) (tInt 2147483563)) (tInt 128)) (tVar 1))
def tM3 (K : PySem.W.Frag) : TS := tSeq (tAsg (tOp rMod (tOp rAd (tOp rAd (tOp rMu (tVar 3) (tVar 3)) (tOp rMu (tInt 69621) (tH K 2))) (tInt 11)) (tInt 2147483587)) (gName 3)) tM4
def tM2 (K : PySem.W.Frag) : TS := tSeq (tAsg (tOp rMod (tOp rMu (tVar 3) (tInt 48271)) (tInt 2147483647)) (gName 3)) (tM3 K)
def tMix (K : PySem.W.Frag) : TS := tSeq (tAsg (tOp rAd (tOp rAd (tOp rAd (tOp rMod (tVar 2) (tInt 2147483629)) (tOp rMu (tOp rMu (tInt 16807) (tH K 2)) (tH K 2))) (tH K 1)) (tInt 97)) (gName 3)) (tM2 K)
def tDealt (K : PySem.W.Frag) : TS := tSeq (tAsg (tOp rAd (tH K 2) (tInt 1)) (gSub (tVar 0) (tInt 2) rSetL)) (tSeq (tAsg (tH K 1) (gName 2))
  (tSeq (tIfS (tTest (tOp (rNeD K) (tH K 0) (tLst tNil)))
    (tSeq (tAsg (tBM0 K "list" rPop (tH K 0)) (gName 2))
      (tIfS (tTest (tOp (rI0 fun i j => V.bl (decide (j ≤ i))) (tVar 2) (tOp (rI CPow fun i j => V.int (i ^ j.toNat)) (tInt 10) (tInt 18))))
        (tSeq (tDrop (tBM K "list" rAppend (tH K 0) (tCons (tOp rFd (tVar 2) (tVar 1)) tNil))) (tRet (tOp rMod (tVar 2) (tVar 1)))) tNext)) tNext) (tMix K)))
theorem mod_in {i j : Int} (h : 0 < j) : 0 ≤ i % j ∧ i % j < j := ⟨Int.emod_nonneg _ (by omega), Int.emod_lt_of_pos _ h⟩
theorem cm1 {i j : Int} (h1 : -(2 ^ 64) < i) (h2 : i < 2 ^ 64) : CMul i j := .inl ⟨h1, h2⟩
theorem cm2 {i j : Int} (h1 : -(2 ^ 64) < j) (h2 : j < 2 ^ 64) : CMul i j := .inr ⟨h1, h2⟩
section
variable {K : PySem.W.Frag} {H : Hp} {x c : Addr} {t k L cell m : Int} {D : Ends}
theorem mix4 (hL : 0 < L ∧ L < 2 ^ 30) (hm : 0 ≤ m ∧ m < 2147483647) (q : ∀ r, 0 ≤ r → r < L → D.rt (.int r) H) : tM4 D [some (.ref x), some (.int L), some (.int cell), some (.int m)] H := by
  refine ⟨_, rfl, _, rfl, _, _, rfl, rfl, ⟨by omega, by omega⟩, _, _, rfl, rfl, _, _, rfl, rfl, cm1 (by omega) (by omega), _, _, rfl, rfl, by show (0 : Int) < 2147483563; omega, _, _, rfl, rfl, ⟨by omega, by omega⟩, _, rfl, _, _, rfl, rfl, hL.1, ?_⟩
  exact q _ (mod_in hL.1).1 (mod_in hL.1).2
theorem at_h2 {Q : VK} {σ : L2.St} (hx : H x = some (.lst [.ref c, .int t, .int k])) (e : σ[0]? = some (some (.ref x))) (h : Q (.int k) H) : tH K 2 σ H Q := ⟨_, e, x, _, 2, .int k, rfl, rfl, SqL.of hx, rfl, h⟩
theorem at_h1 {Q : VK} {σ : L2.St} (hx : H x = some (.lst [.ref c, .int t, .int k])) (e : σ[0]? = some (some (.ref x))) (h : Q (.int t) H) : tH K 1 σ H Q := ⟨_, e, x, _, 1, .int t, rfl, rfl, SqL.of hx, rfl, h⟩
theorem mix3 (hx : H x = some (.lst [.ref c, .int t, .int k])) (hL : 0 < L ∧ L < 2 ^ 30) (hm : 0 ≤ m ∧ m < 2147483647) (q : ∀ r, 0 ≤ r → r < L → D.rt (.int r) H) : tM3 K D [some (.ref x), some (.int L), some (.int cell), some (.int m)] H := by
  refine ⟨_, rfl, _, rfl, _, _, rfl, rfl, cm1 (by omega) (by omega), at_h2 hx rfl ⟨_, _, rfl, rfl, cm1 (by omega) (by omega), _, _, rfl, rfl, _, _, rfl, rfl, _, _, rfl, rfl, by show (0 : Int) < 2147483587; omega, ?_⟩⟩
  have z : ∀ y : Int, 0 ≤ y % 2147483587 ∧ y % 2147483587 < 2147483647 := fun y => by have := @mod_in y 2147483587 (by omega); omega
  exact mix4 hL (z _) q
theorem mix2 (hx : H x = some (.lst [.ref c, .int t, .int k])) (hL : 0 < L ∧ L < 2 ^ 30) (q : ∀ r, 0 ≤ r → r < L → D.rt (.int r) H) : tM2 K D [some (.ref x), some (.int L), some (.int cell), some (.int m)] H := by
  refine ⟨_, rfl, _, _, rfl, rfl, cm2 (by omega) (by omega), _, _, rfl, rfl, by show (0 : Int) < 2147483647; omega, ?_⟩
  exact mix3 hx hL (mod_in (by omega)) q
theorem mix_ok {w : Option V} (hx : H x = some (.lst [.ref c, .int t, .int k])) (hk : 0 ≤ k ∧ k < 2 ^ 63) (hL : 0 < L ∧ L < 2 ^ 30) (q : ∀ r, 0 ≤ r → r < L → D.rt (.int r) H) : tMix K D [some (.ref x), some (.int L), some (.int cell), w] H := by
  refine ⟨_, rfl, _, _, rfl, rfl, by show (0 : Int) < 2147483629; omega, at_h2 hx rfl ⟨_, _, rfl, rfl, cm1 (by omega) (by omega), at_h2 hx rfl ⟨_, _, rfl, rfl, cm2 (by omega) (by omega), _, _, rfl, rfl, at_h1 hx rfl ⟨_, _, rfl, rfl, _, _, rfl, rfl, ?_⟩⟩⟩⟩
  exact mix2 hx hL q
end
theorem eqv_nil : ∀ cs : List Int, PyData.eqv (.list (cs.map PyData.int)) (.list []) = cs.isEmpty
  | [] => by simp [PyData.eqv, PyData.eqvAll]
  | c :: cs => by simp [PyData.eqv, PyData.eqvAll]
theorem dp_ints {K : PySem.W.Frag} {H : Hp} : ∀ ns : List Int, DpAll K H (ns.map V.int) (ns.map PyData.int)
  | [] => .nil
  | n :: ns => .cons (.int n) (dp_ints ns)
theorem deal_ok {K : PySem.W.Frag} {H : Hp} {x c : Addr} {cs : List Int} {t k L : Int} {D : Ends} (hxc : x ≠ c) (hx : H x = some (.lst [.ref c, .int t, .int k])) (hc : H c = some (.lst (cs.map V.int))) (hz : cs.length ≤ 1000) (hk : 0 ≤ k ∧ k < 2 ^ 62) (hL : 0 < L ∧ L < 2 ^ 30)
    (q : ∀ (r : Int) (H' : Hp) (cs' : List Int), 0 ≤ r → r < L → (∀ b o, H b = some o → b ≠ x → b ≠ c → H' b = some o) → H' x = some (.lst [.ref c, .int t, .int (k + 1)]) → H' c = some (.lst (cs'.map V.int)) → cs'.length ≤ 1000 → D.rt (.int r) H') :
    tDealt K D [some (.ref x), some (.int L), none, none] H := by
  refine ⟨_, rfl, x, _, 2, .int k, rfl, rfl, SqL.of hx, rfl, _, _, rfl, rfl, _, rfl, x, _, 2, 2, rfl, rfl, hx, rfl, ?_⟩
  show tSeq _ _ D [some (.ref x), some (.int L), none, none] (upd H x (.lst [.ref c, .int t, .int (k + 1)]))
  generalize hH1 : upd H x (.lst [.ref c, .int t, .int (k + 1)]) = H1
  have x1 : H1 x = some (.lst [.ref c, .int t, .int (k + 1)]) := by rw [← hH1, upd_same]
  have c1 : H1 c = some (.lst (cs.map V.int)) := by rw [← hH1, upd_ne (fun e => hxc e.symm)]; exact hc
  have o1 : ∀ b o, H b = some o → b ≠ x → b ≠ c → H1 b = some o := fun b o h n1 _ => by rw [← hH1, upd_ne n1]; exact h
  refine ⟨_, rfl, x, _, 1, .int t, rfl, rfl, SqL.of x1, rfl, ?_⟩
  refine ⟨_, rfl, x, _, 0, .ref c, rfl, rfl, SqL.of x1, rfl, Nat.zero_le _, fun p np => ?_⟩
  generalize hH2 : upd H1 p (.lst []) = H2
  have px : x ≠ p := fun e => by rw [← e, x1] at np; cases np
  have pc : c ≠ p := fun e => by rw [← e, c1] at np; cases np
  have x2 : H2 x = some (.lst [.ref c, .int t, .int (k + 1)]) := by rw [← hH2, upd_ne px]; exact x1
  have c2 : H2 c = some (.lst (cs.map V.int)) := by rw [← hH2, upd_ne pc]; exact c1
  have o2 : ∀ b o, H b = some o → b ≠ x → b ≠ c → H2 b = some o := fun b o h n1 n2 => by
    have z := o1 b o h n1 n2
    rw [← hH2, upd_ne (fun e => by rw [e, np] at z; cases z)]; exact z
  refine ⟨.list (cs.map PyData.int), .list [], .lst (SqL.of c2) (dp_ints cs), .lst (SqL.of (by rw [← hH2, upd_same])) .nil, PySem.W.ke_shaped_ints cs, by decide, _, rfl, ?_⟩
  rw [eqv_nil]
  cases e : cs.isEmpty with
  | true =>
    rw [if_neg (by decide)]
    exact mix_ok x2 ⟨by omega, by omega⟩ hL fun r h1 h2 => q r H2 cs h1 h2 o2 x2 c2 hz
  | false =>
    rw [if_pos (by decide)]
    have hne : cs ≠ [] := fun z => by rw [z] at e; cases e
    have hlast : (cs.map V.int)[(cs.map V.int).length - 1]? = some (.int (cs.getLast hne)) := by
      rw [List.length_map, List.getElem?_map, ← List.getLast?_eq_getElem?, List.getLast?_eq_getLast hne]
      rfl
    refine ⟨_, rfl, x, _, 0, .ref c, rfl, rfl, SqL.of x2, rfl, .inl ⟨rfl, _, SqL.of c2⟩, c, _, _, rfl, rfl, c2, hlast, ?_⟩
    generalize cs.getLast hne = cell
    generalize hH3 : upd H2 c (.lst (cs.map V.int).dropLast) = H3
    have x3 : H3 x = some (.lst [.ref c, .int t, .int (k + 1)]) := by rw [← hH3, upd_ne hxc]; exact x2
    have c3 : H3 c = some (.lst (cs.dropLast.map V.int)) := by rw [← hH3, upd_same, List.map_dropLast]
    have o3 : ∀ b o, H b = some o → b ≠ x → b ≠ c → H3 b = some o := fun b o h n1 n2 => by rw [← hH3, upd_ne n2]; exact o2 b o h n1 n2
    have z3 : cs.dropLast.length ≤ cs.length := by rw [List.length_dropLast]; omega
    refine ⟨_, rfl, _, _, rfl, rfl, ⟨by omega, by omega, by decide⟩, _, _, rfl, rfl, _, rfl, ?_⟩
    cases h18 : decide ((10 : Int) ^ (18 : Int).toNat ≤ cell) with
    | true =>
      rw [if_pos rfl]
      refine ⟨_, rfl, x, _, 0, .ref c, rfl, rfl, SqL.of x3, rfl, .inl ⟨rfl, _, SqL.of c3⟩, _, rfl, _, rfl, _, _, rfl, rfl, ⟨hL.1, hL.2⟩, c, _, _, rfl, rfl, c3, ?_, ?_⟩
      · rw [List.length_map]
        exact Nat.lt_of_le_of_lt (Nat.le_trans z3 hz) (by decide)
      refine ⟨_, rfl, _, rfl, _, _, rfl, rfl, hL.1, ?_⟩
      refine q _ _ (cs.dropLast ++ [cell / L]) (mod_in hL.1).1 (mod_in hL.1).2 (fun b o h n1 n2 => by rw [upd_ne n2]; exact o3 b o h n1 n2) (by rw [upd_ne hxc]; exact x3) (by rw [upd_same, List.map_append]; rfl) ?_
      have h1 : 0 < cs.length := Nat.pos_of_ne_zero fun z => hne (List.eq_nil_of_length_eq_zero z)
      rw [List.length_append, List.length_dropLast, List.length_singleton]
      omega
    | false =>
      rw [if_neg Bool.false_ne_true]
      exact mix_ok x3 ⟨by omega, by omega⟩ hL fun r h1 h2 => q r H3 cs.dropLast h1 h2 o3 x3 c3 (by omega)
/-- what is asked of a deal: any of the lots may come -/
def mDealt : List Da → Mv Dt
  | [.hand, .d (.int L)] => fun n Q _ => 0 < L ∧ L < 2 ^ 30 ∧ 0 < n ∧ ∀ r : Int, 0 ≤ r → r < L → Q (.int r) (n - 1)
  | _ => bad
theorem RelB.dealt {hd : Hd} {F0 H0 F H H' : Hp} {n n' : Nat} (r : RelB hd F0 H0 F H n) (old : ∀ b o, H b = some o → ¬ InHd hd b → H' b = some o) (h : HandOk hd n' H') : RelB hd F0 H0 F H' n' :=
  ⟨fun b o e => old b o (r.sub b o e) (fun i => by rw [r.hfree b i] at e; cases e), r.f0, fun b o e i => old b o (r.h0 b o e i) i, r.fnew, h, r.hfree⟩
theorem dealt_of {P : Program} {w : World} {K : PySem.W.Frag} {mg : Str → Option Value} {base : Heap} {x qual : Str} {params : Arguments} {body : List Stmt} {scope : Scope} {dvs : List V} {kws : List (Str × V)} {f : Addr} {fd : FuncData} {N : List Str} {k : Nat} {p1 p2 : Str} (D : FunD K x qual params body scope dvs kws f fd) (S : FnScope N [p1, p2] scope) (hN : N.length = 4)
    (walk : ∀ (cdv : Value) (A : Around) (outer : List Env) (s : Shared) (H : Hp) (E : XK), Room k (A.deeper (envOfC qual scope s.heap.objs.size f cdv)) → PSs (cxOf (L2.CX P w) P w K mg base N qual scope f cdv A outer s H E) body (tDealt K)) : FnD P w K mg base (k + 1) f fd [p1, p2] mDealt := by
  refine FnG.of D S (fun vs H Q E h => ?_) (fun cdv A outer s H vs Q E room gu h => ⟨tDealt K, walk cdv A outer s H E room, ?_⟩)
  · obtain ⟨hd, F, as, n, Qd, W, _, da, hl, _⟩ := h
    rw [da.length, hl]
  · obtain ⟨hd, F, as, n, Qd, W, rb, da, hl, hm, q, qx⟩ := h
    match as, da, hm with
    | [.hand, .d (.int L)], .cons h1 (.cons h2 .nil), hm =>
      obtain ⟨x, c, rfl, rfl⟩ := h1
      cases h2
      obtain ⟨hL1, hL2, hn, hq⟩ := hm
      obtain ⟨hxc, cs, t, k0, hx, hc, hz, ht, hk1, hk2⟩ := rb.hand
      have est : L2.start N [V.ref x, V.int L] = [some (.ref x), some (.int L), none, none] := by
        show [some (V.ref x), some (V.int L)] ++ List.replicate (N.length - 2) none = _
        rw [hN]
        rfl
      rw [est]
      refine deal_ok hxc hx hc hz ⟨hk1, by omega⟩ ⟨hL1, hL2⟩ fun r H' cs' r1 r2 old hx' hc' hz' => ?_
      refine q _ (.int r) F H' (n - 1) (rb.dealt (fun b o e i => old b o e (fun z => i (.inl z)) fun z => i (.inr z)) ⟨hxc, cs', t, k0 + 1, hx', hc', hz', ht, by omega, by omega⟩) (.int r) (hq r r1 r2)

/-! ### the hand: its beginning -/
def rLOf (K : PySem.W.Frag) : List V → Hp → VK → Prop := fun xs H Q => ∃ p ys, xs = [V.ref p] ∧ (SqL K H p ys ∨ SqT K H p ys) ∧ ∀ l, H l = none → Q (.ref l) (upd H l (.lst ys))
def tTurn : TS := tAsg (tOp rMod (tOp rAd (tOp rAd (tOp rMu (tVar 2) (tInt 48271)) (tOp rMod (tVar 3) (tInt 2147483563))) (tInt 17)) (tInt 2147483629)) (gName 2)
def tBegun (K : PySem.W.Frag) : TS := tSeq (tPar 1 2 (tCons (tCB (rLOf K) (tCons (tSl (rSlL K) (tVar 0) tNoPart (tPart (tInt 63))) tNil)) (tCons (tInt 50021) tNil)))
  (tSeq (tFor (iList K (tVar 1)) (gName 3) tTurn) (tRet (tLst (tCons (tRevL K (tVar 1)) (tCons (tVar 2) (tCons (tInt 0) tNil))))))
theorem cut_ints (ns : List Int) (lo hi : Option Int) : ∃ ms : List Int, cutV (ns.map V.int) lo hi = ms.map V.int ∧ ms.length ≤ ns.length := by
  refine ⟨(ns.drop (HT.sIx ns.length 0 lo)).take (HT.sIx ns.length ns.length hi - HT.sIx ns.length 0 lo), ?_, ?_⟩
  · unfold cutV
    rw [List.length_map, List.map_take, List.map_drop]
  · rw [List.length_take, List.length_drop]
    omega
theorem same_new {H : Hp} {p : Addr} {o : HO} (h : H p = none) : Same H (upd H p o) := fun b x e => by
  rw [upd_ne (fun z => by rw [z, h] at e; cases e)]
  exact e
/-- what the beginning asks for -/
def spBegun (K : PySem.W.Frag) : Sp := fun vs H Q _ => ∃ (a : Addr) (ns : List Int), vs = [.ref a] ∧ SqL K H a (ns.map V.int) ∧ ns.length ≤ 63 ∧
  ∀ (H' : Hp) (x c : Addr) (cs : List Int) (t : Int), Same H H' → H x = none → H c = none → x ≠ c → H' x = some (.lst [.ref c, .int t, .int 0]) → H' c = some (.lst (cs.map V.int)) → cs.length ≤ 1000 → t.natAbs < 2 ^ 62 → Q (.ref x) H'
theorem begun_ok {K : PySem.W.Frag} {H : Hp} {a : Addr} {ns : List Int} {D : Ends} (hS : SqL K H a (ns.map V.int)) (hn : ns.length ≤ 63)
    (q : ∀ (H' : Hp) (x c : Addr) (cs : List Int) (t : Int), Same H H' → H x = none → H c = none → x ≠ c → H' x = some (.lst [.ref c, .int t, .int 0]) → H' c = some (.lst (cs.map V.int)) → cs.length ≤ 1000 → t.natAbs < 2 ^ 62 → D.rt (.ref x) H') :
    tBegun K D [some (.ref a), none, none, none] H := by
  obtain ⟨ms, hms, hml⟩ := cut_ints ns none (some 63)
  refine ⟨_, rfl, _, rfl, a, _, rfl, hS, fun p np => ?_⟩
  rw [hms]
  refine ⟨p, _, rfl, .inl (SqL.of upd_same), fun l nl => ?_⟩
  have s1 := same_new (o := .lst (ms.map V.int)) np
  have s2 := s1.trans (same_new (o := .lst (ms.map V.int)) nl)
  have hl := s1.free nl
  generalize hH2 : upd (upd H p (.lst (ms.map V.int))) l (.lst (ms.map V.int)) = H2 at s2
  have l2 : H2 l = some (.lst (ms.map V.int)) := by rw [← hH2, upd_same]
  refine ⟨_, _, rfl, _, rfl, l, rfl, ⟨_, SqL.of l2⟩, ?_⟩
  show ∃ W : Nat → Nat → L2.St → Hp → Prop, _
  refine for_list (xs := ms.map V.int) (fun i σ H3 => H3 = H2 ∧ ∃ t w, σ = [some (.ref a), some (.ref l), some (.int t), w] ∧ t.natAbs < 2 ^ 62) ⟨rfl, 50021, none, rfl, by decide⟩ (fun i σ H3 _ ⟨e, _⟩ => by rw [e]; exact SqL.of l2) (fun i x σ H3 hx ⟨e, t, w, es, ht⟩ => ?_) (fun σ H3 ⟨e, t, w, es, ht⟩ => ?_)
  · subst e es
    rw [List.getElem?_map] at hx
    obtain ⟨y, _, rfl⟩ := Option.map_eq_some_iff.mp hx
    refine ⟨_, rfl, _, _, rfl, rfl, cm2 (by omega) (by omega), _, rfl, _, _, rfl, rfl, by show (0 : Int) < 2147483563; omega, _, _, rfl, rfl, _, _, rfl, rfl, _, _, rfl, rfl, by show (0 : Int) < 2147483629; omega, rfl, _, _, rfl, ?_⟩
    have z : ∀ y : Int, (y % 2147483629).natAbs < 2 ^ 62 := fun y => by have := @mod_in y 2147483629 (by omega); omega
    exact z _
  · subst e es
    refine ⟨_, rfl, l, _, rfl, SqL.of l2, fun c nc => ?_⟩
    refine ⟨_, rfl, by show 3 ≤ sizeLine; decide, fun x nx => ?_⟩
    have s3 := s2.trans (same_new (o := .lst (ms.map V.int).reverse) nc)
    have hxc : c ≠ x := fun e => by rw [e, upd_same] at nx; cases nx
    refine q _ x c ms.reverse t (s3.trans (same_new nx)) (s3.free nx) (s2.free nc) (fun e => hxc e.symm) upd_same ?_ ?_ ht
    · rw [upd_ne hxc, upd_same, List.map_reverse]
    · rw [List.length_reverse]; omega
theorem begun_of {P : Program} {w : World} {K : PySem.W.Frag} {mg : Str → Option Value} {base : Heap} {x qual : Str} {params : Arguments} {body : List Stmt} {scope : Scope} {dvs : List V} {kws : List (Str × V)} {f : Addr} {fd : FuncData} {N : List Str} {k : Nat} {p1 : Str} (D : FunD K x qual params body scope dvs kws f fd) (S : FnScope N [p1] scope) (hN : N.length = 4)
    (walk : ∀ (cdv : Value) (A : Around) (outer : List Env) (s : Shared) (H : Hp) (E : XK), PSs (cxOf (L2.CX P w) P w K mg base N qual scope f cdv A outer s H E) body (tBegun K)) : FnG P w K mg base (k + 1) f fd [p1] (spBegun K) := by
  refine FnG.of D S (fun vs H Q E h => ?_) (fun cdv A outer s H vs Q E room gu h => ⟨tBegun K, walk cdv A outer s H E, ?_⟩)
  · obtain ⟨a, ns, rfl, _⟩ := h
    rfl
  · obtain ⟨a, ns, rfl, hS, hn, q⟩ := h
    have est : L2.start N [V.ref a] = [some (.ref a), none, none, none] := by
      show [some (V.ref a)] ++ List.replicate (N.length - 1) none = _
      rw [hN]
      rfl
    rw [est]
    exact begun_ok hS hn q
/-! ### a law: it takes its hand, the rest is data -/
def spLaw (K : PySem.W.Frag) : Sp := fun vs H Q _ => ∃ (a : Addr) (ns : List Int), vs = [.ref a] ∧ Only H ∧ SqL K H a (ns.map V.int) ∧ ns.length ≤ 63 ∧ ∀ H', Q (.bl true) H'
/-- what a law's rest must come to -/
def LawMean (N : List Str) (m : Ms) : Prop := m ([Ds.no, Ds.hand] ++ List.replicate (N.length - 2) Ds.no) (2 ^ 60) { nx := fun _ _ => False, rt := fun d _ => d = .bool true } fun _ _ => False
section
variable {X : Cx} {k : Nat} {fB : Addr} {fdB : FuncData} {hn b sc pB : Str} {rest : List Stmt} {q1 q2 q3 q4 q5 : Pos} {m : Ms} {H : Hp} {a : Addr} {ns : List Int} {D : Ends}
theorem pe_begun (B : FnG X.prog X.w X.K X.mg X.base k fB fdB [pB] (spBegun X.K)) (room : Room k X.A) (gu : X.A.guards = some []) (mb : X.mg b = some (.ref fB)) (kb : PySem.W.keepIn X.K (.ref fB) = true)
    (bb : ∀ us : List Value, us.length = 1 → ∀ s : Shared, X.K.In s.heap → BindsTo s fdB ⟨us, []⟩ ([pB].zip us)) (hN0 : X.N[0]? = some sc) (hv : Vis X.env.scope sc) (hg : Gl X b) (hs1 : (sc == ("__debug__" : Str)) = false) (hs2 : (sc == ("__classdict__" : Str)) = false) (hb : (b == ("__debug__" : Str)) = false) :
    PE X (.Call (.Name b q2) [.Name sc q3] [] q4) (fun σ H Q => tCons (tVar 0) tNil σ H fun vs H1 => vs.length = 1 ∧ spBegun X.K vs H1 Q fun _ _ _ => False) := by
  refine ⟨fun pins s' σ H' Q' I hw => ?_⟩
  apply wpAny_Call_Name_kw
  refine ld_glob I hg mb ?_ hb
  have pa : PA X [.Name sc q3] (tCons (tVar 0) tNil) := pa_cons (pe_var hN0 hv hs1 hs2) pa_nil rfl
  refine PySem.W.callWith_K (h₀ := X.base) I.ok.mod.kin kb (thn (pa.run q4 pins s' σ H' _ I hw) ?_) rfl rfl
  rintro us s1 ⟨vs, H1, I1, rel, hl, want⟩
  have hl2 : us.length = 1 := by rw [← rel.length]; exact hl
  have no : Passes (L2.CX X.prog X.w) X (fun _ _ _ => False) := passL
  exact ⟨I1.kIn, callG B room gu no I1 (bb us hl2 s1 I1.kIn) rel want⟩
theorem law_rest (B : FnG X.prog X.w X.K X.mg X.base k fB fdB [pB] (spBegun X.K)) (room : Room k X.A) (gu : X.A.guards = some []) (mb : X.mg b = some (.ref fB)) (kb : PySem.W.keepIn X.K (.ref fB) = true)
    (bb : ∀ us : List Value, us.length = 1 → ∀ s : Shared, X.K.In s.heap → BindsTo s fdB ⟨us, []⟩ ([pB].zip us)) (hN0 : X.N[0]? = some sc) (hN1 : X.N[1]? = some hn) (hN2 : 2 ≤ X.N.length) (hv : Vis X.env.scope sc) (hx : Loc X.env.scope hn) (hf : X.fn hn = true) (hg : Gl X b) (hs1 : (sc == ("__debug__" : Str)) = false) (hs2 : (sc == ("__classdict__" : Str)) = false) (hb : (b == ("__debug__" : Str)) = false)
    (ok : ∀ x c, XOk X ⟨some (x, c), fun _ => none, H, fun _ _ => False⟩) (walk : ∀ g, XOk X g → DSs X g rest m) (mean : LawMean X.N m) (hS : SqL X.K H a (ns.map V.int)) (hn63 : ns.length ≤ 63) (q : ∀ H', D.rt (.bl true) H') :
    ∃ t, PSs X (.Assign [.Name hn q1] (.Call (.Name b q2) [.Name sc q3] [] q4) q5 :: rest) t ∧ t D (L2.start X.N [.ref a]) H := by
  have call := pe_begun (q2 := q2) (q3 := q3) (q4 := q4) B room gu mb kb bb hN0 hv hg hs1 hs2 hb
  have reads : PSs X rest (fun D σ H' => ∃ x c, (walk ⟨some (x, c), fun _ => none, H, fun _ _ => False⟩ (ok x c)).choose D σ H') :=
    ⟨fun pins s' σ H' D' I ⟨x, c, hw⟩ => (walk _ (ok x c)).choose_spec.1.run pins s' σ H' D' I hw⟩
  refine ⟨_, pss_cons (ps_set (i := 1) (ok 0 0).nd hN1 hx call rfl (.inl hf)) reads, ?_⟩
  refine ⟨.ref a, rfl, rfl, a, ns, rfl, hS, hn63, fun H' x c cs t sm nx nc hxc hx' hc' hz ht => ?_⟩
  refine ⟨x, c, ?_⟩
  have hand : HandOk (some (x, c)) (2 ^ 60) H' := ⟨hxc, cs, t, 0, hx', hc', hz, ht, by omega, by decide⟩
  have RB : RelB (some (x, c)) (fun _ => none) H (fun _ => none) H' (2 ^ 60) := ⟨fun b o e => (by cases e), fun _ _ e => (by cases e), fun b o e _ => sm b o e, fun b o e => (by cases e), hand, fun _ _ => rfl⟩
  have hlen : (L2.start X.N [V.ref a]).length = X.N.length := by
    unfold L2.start
    simp
    omega
  have R : Rel X.K (some (x, c)) (fun _ => none) H (fun _ => none) ((L2.start X.N [V.ref a]).set 1 (some (.ref x))) H' ([Ds.no, Ds.hand] ++ List.replicate (X.N.length - 2) Ds.no) (2 ^ 60) := by
    refine ⟨RB, ?_, ?_, ?_⟩
    · rw [List.length_set, hlen]
      simp
      omega
    · intro i s' e
      match i, e with
      | 0, e => cases e; trivial
      | 1, e =>
        cases e
        refine ⟨x, c, rfl, ?_⟩
        rw [List.getElem?_set_self (by rw [hlen]; omega)]
      | i + 2, e =>
        have e : (List.replicate (X.N.length - 2) Ds.no)[i]? = some s' := by simpa using e
        rw [List.getElem?_replicate] at e
        split at e
        · cases e; trivial
        · cases e
    · intro i j xs ys b' e1 _ _ _
      exfalso
      match i, e1 with
      | 0, e => cases e
      | 1, e => cases e
      | i + 2, e =>
        have e : (List.replicate (X.N.length - 2) Ds.no)[i]? = some (.own xs) := by simpa using e
        rw [List.getElem?_replicate] at e
        split at e
        · cases e
        · cases e
  refine (walk _ (ok x c)).choose_spec.2 _ H' (fun _ => none) _ (2 ^ 60) _ { nx := fun _ _ => False, rt := fun d _ => d = .bool true } R
      (fun _ _ _ _ _ _ _ z => z.elim) (fun v d H'' F' n' _ _ rp z => ?_) (fun _ _ _ _ _ _ _ z => z.elim) (fun _ _ _ _ _ _ _ z => z.elim) mean
  have z : d = .bool true := z
  subst z
  cases rp
  exact q H''
end
/-- a law by its rest -/
theorem law_of {P : Program} {w : World} {K : PySem.W.Frag} {mg : Str → Option Value} {base : Heap} {x qual : Str} {params : Arguments} {scope : Scope} {dvs : List V} {kws : List (Str × V)} {f fB : Addr} {fd fdB : FuncData} {N : List Str} {k : Nat} {p1 hn b sc pB : Str} {body rest : List Stmt} {q1 q2 q3 q4 q5 : Pos} {m : Ms}
    (D : FunD K x qual params body scope dvs kws f fd) (S : FnScope N [p1] scope) (hbody : body = .Assign [.Name hn q1] (.Call (.Name b q2) [.Name sc q3] [] q4) q5 :: rest) (hN0 : N[0]? = some sc) (hN1 : N[1]? = some hn) (hN2 : 2 ≤ N.length)
    (B : FnG P w K mg base k fB fdB [pB] (spBegun K)) (mb : mg b = some (.ref fB)) (kb : PySem.W.keepIn K (.ref fB) = true) (bb : ∀ us : List Value, us.length = 1 → ∀ s : Shared, K.In s.heap → BindsTo s fdB ⟨us, []⟩ ([pB].zip us))
    (hv : Vis scope sc) (hx : Loc scope hn) (hg : ∀ (cdv : Value) (A : Around) (outer : List Env) (s : Shared) (H : Hp) (E : XK), Gl (cxOf (L2.CX P w) P w K mg base N qual scope f cdv A outer s H E) b)
    (hs1 : (sc == ("__debug__" : Str)) = false) (hs2 : (sc == ("__classdict__" : Str)) = false) (hb : (b == ("__debug__" : Str)) = false)
    (walk : ∀ (cdv : Value) (A : Around) (outer : List Env) (s : Shared) (H : Hp) (E : XK) (g : Gh), XOk (cxOf (L2.CX P w) P w K mg base N qual scope f cdv A outer s H E) g → Room k (A.deeper (envOfC qual scope s.heap.objs.size f cdv)) →
      DSs (cxOf (L2.CX P w) P w K mg base N qual scope f cdv A outer s H E) g rest m)
    (mean : LawMean N m) : FnG P w K mg base (k + 1) f fd [p1] (spLaw K) := by
  subst hbody
  refine FnG.of D S (fun vs H Q E h => ?_) (fun cdv A outer s H vs Q E room gu h => ?_)
  · obtain ⟨a, ns, rfl, _⟩ := h
    rfl
  · obtain ⟨a, ns, rfl, only, hS, hn63, q⟩ := h
    have tk : Takes (cxOf (L2.CX P w) P w K mg base N qual scope f cdv A outer s H E) (fun cls d _ H' => E cls d H') := takes_of rfl rfl rfl rfl
    have ok : ∀ x c, XOk (cxOf (L2.CX P w) P w K mg base N qual scope f cdv A outer s H E) ⟨some (x, c), fun _ => none, H, fun _ _ => False⟩ := fun x c => by
      refine ⟨rfl, passes_of rfl, gu, S.nd, passes_call tk ?_⟩
      rintro cls a σ H' ⟨fs, n', F', hB, hx, hw⟩
      exact hw.elim
    exact law_rest (X := cxOf (L2.CX P w) P w K mg base N qual scope f cdv A outer s H E) (H := H) B room gu mb kb bb hN0 hN1 hN2 hv hx rfl (hg cdv A outer s H E) hs1 hs2 hb ok (fun g hx => walk cdv A outer s H E g hx room) mean hS hn63 q
end Dl
namespace Dl
open PySem PySem.Spec L2
open PyProof.Rows hiding St

/-! ### a law's end -/
section
variable {P : Program} {w : World} {K : PySem.W.Frag} {mg mb : Str → Option Value} {k : Nat} {fa a : Addr} {fd : FuncData} {x : Str} {s1 : Shared} {vs : List Value} {ns : List Int}
abbrev LawEnd (s1 : Shared) (r : Result) (s' : Shared) : Prop := r = .ok (.ret (.bool true)) ∧ OldK s1.heap s'.heap ∧ s'.os = s1.os ∧ AllBare s'.gens
/-- over one abstract heap: nothing is tracked but, it may be, the script -/
theorem lawAt {H : Hp} (inK : K.In s1.heap) (glob : s1.heap.Ns mainGlobals mg) (blt : s1.heap.Ns builtinsNs mb) (boot : ∀ y : Str, y ≠ "__name__" → mb y = bootBuiltins y) (nolim : s1.heap.NoLimit) (nogen : s1.gens = #[])
    (there : s1.heap.get? a = some { cls := .type "list", data := .seq vs.toArray }) (short : ns.length ≤ 63) (room : Room k callerA)
    (F : ∀ base : Heap, K.In base → base.Ns mainGlobals mg → FnG P w K mg base k fa fd [x] (spLaw K)) (bind : ∀ (s : Shared) (u : Value), BindsTo s fd ⟨[u], []⟩ [(x, u)])
    (only : Only H) (hS : SqL K H a (ns.map V.int)) (good : HOk P w H s1.heap) (mine : ∀ b, H b ≠ none → b = a) (apart : H a ≠ none → K.lookup a = none) :
    codeAny (model P w) callerA (.call (.ref fa) ⟨[.ref a], []⟩) (LawEnd s1) s1 := by
  have shown : ∀ {b : Addr} {o : Obj}, s1.heap.get? b = some o → H b = none → (hidT s1.heap H).get? b = some o := fun e n => hidT_get e n
  have noDict : ∀ {b : Addr} {o : Obj} {es : Array DictEntry} {ep : Nat}, s1.heap.get? b = some o → o.data = .dict es ep → H b = none := by
    intro b o es ep e d
    cases q : H b with
    | none => rfl
    | some u =>
      obtain rfl := mine b (by rw [q]; exact fun z => nomatch z)
      rw [there] at e
      cases e
      exact absurd d (fun z => nomatch z)
  have nsThere : ∀ {b : Addr} {m : Str → Option Value}, s1.heap.Ns b m → (hidT s1.heap H).Ns b m := fun {b m} h => by
    obtain ⟨o, es, ep, e, d, r⟩ := h
    exact ⟨o, es, ep, shown e (noDict e d), d, r⟩
  have inKb : K.In (hidT s1.heap H) := by
    intro b o e
    refine shown (inK b o e) ?_
    cases q : H b with
    | none => rfl
    | some u =>
      have e' := mine b (by rw [q]; exact fun z => nomatch z)
      have z := apart (by rw [← e', q]; exact fun z => nomatch z)
      rw [← e', e] at z
      cases z
  have modOk : Mod K mg (hidT s1.heap H) := by
    refine ⟨inKb, nsThere glob, ⟨mb, nsThere blt, boot⟩, ?_⟩
    obtain ⟨mc, h1, h2⟩ := nolim
    exact ⟨mc, nsThere h1, h2⟩
  have entry : Env0 P w K mg (hidT s1.heap H) callerA [] s1 H := by
    refine ⟨rfl, modOk, fun b o e => of_hidT e, Nat.le_of_eq (hidT_size _ _), trivial, ?_, good, .of_eq nogen⟩
    intro b hb
    exact absurd (show b ∈ ([] : List Addr) from hb) (by simp)
  have want : spLaw K [.ref a] H (fun v _ => v = .bl true) fun _ _ _ => False := ⟨a, ns, rfl, only, hS, short, fun _ => rfl⟩
  refine codeAny_mono ((F _ inKb (nsThere glob)).goes callerA [] s1 H ⟨[.ref a], []⟩ [.ref a] [.ref a] _ _ room rfl entry (bind s1 (.ref a)) (.cons rfl .nil) want) ?_
  intro r s' h
  match r with
  | .error e =>
    obtain ⟨_, _, _, _, _, _, _, _, _, _, _, _, z⟩ := h
    exact z.elim
  | .ok .next => exact h.elim
  | .ok .brk => exact h.elim
  | .ok .cont => exact h.elim
  | .ok (.ret u) =>
    obtain ⟨v, H', os, bare, un, good', rv, q⟩ := h
    have q : v = .bl true := q
    subst q
    have ru : u = Value.bool true := rv
    subst ru
    refine ⟨rfl, OldK.of_keep ?_, os, bare⟩
    intro b o e
    cases q : H b with
    | none => exact un.keep b o e q (by intro z; exact absurd (show b ∈ ([] : List Addr) from z) (by simp)) (by simp)
    | some u =>
      cases only b with
      | inl z => rw [q] at z; cases z
      | inr z =>
        obtain ⟨ob, xs, z⟩ := z
        rw [q] at z
        cases z
        have z2 := un.frzs b ob _ q
        obtain ⟨e1, _⟩ := good b _ q
        obtain ⟨e2, _⟩ := good' b _ z2
        rw [e] at e1
        cases e1
        exact e2
theorem lawG (inK : K.In s1.heap) (glob : s1.heap.Ns mainGlobals mg) (blt : s1.heap.Ns builtinsNs mb) (boot : ∀ y : Str, y ≠ "__name__" → mb y = bootBuiltins y) (nolim : s1.heap.NoLimit) (nogen : s1.gens = #[])
    (there : s1.heap.get? a = some { cls := .type "list", data := .seq vs.toArray }) (hints : IntsAre vs ns) (short : ns.length ≤ 63) (room : Room k callerA)
    (F : ∀ base : Heap, K.In base → base.Ns mainGlobals mg → FnG P w K mg base k fa fd [x] (spLaw K)) (bind : ∀ (s : Shared) (u : Value), BindsTo s fd ⟨[u], []⟩ [(x, u)]) :
    codeAny (model P w) callerA (.call (.ref fa) ⟨[.ref a], []⟩) (LawEnd s1) s1 := by
  have rv := vals_ints hints
  have lv := hints.length
  have short' : ns.length ≤ sizeLine := Nat.le_trans short (by decide)
  cases hk : K.lookup a with
  | some o =>
    have e := inK a o hk
    rw [there] at e
    cases e
    refine lawAt (H := fun _ => none) inK glob blt boot nolim nogen there short room F bind (fun _ => .inl rfl) (.inr ⟨_, vs.toArray, _, hk, rfl, rfl, rfl, by rw [List.size_toArray, lv]; exact short', by simpa using rv⟩) ?_ (fun b z => absurd rfl z) (fun z => absurd rfl z)
    intro b u z
    exact nomatch (show (none : Option HO) = some u from z)
  | none =>
    let o0 : HO := .frz { cls := .type "list", data := .seq vs.toArray } (.lst (ns.map V.int))
    have at_a : (fun b => if b = a then some o0 else none) a = some o0 := if_pos rfl
    refine lawAt (H := fun b => if b = a then some o0 else none) inK glob blt boot nolim nogen there short room F bind (fun b => ?_) (.inl (.inr ⟨_, at_a⟩)) (fun b u z => ?_) (fun b z => ?_) fun _ => hk
    · by_cases hb : b = a
      · exact .inr ⟨_, _, if_pos hb⟩
      · exact .inl (if_neg hb)
    · by_cases hb : b = a
      · subst hb
        have e := (if_pos rfl).symm.trans z
        cases e
        exact ⟨there, by rw [List.length_map]; exact short', vs, _, rv, there⟩
      · have e := (if_neg hb).symm.trans z
        cases e
    · by_cases hb : b = a
      · exact hb
      · exact absurd (if_neg hb) z
end
/-- the head's case hc, from the law's promise -/
theorem walk_G {l : PySem.W.OpenLaw} {k : Nat} {q : Program} {loose : List Str} {XP : (Str → Option Value) → Heap → Prop} {YP : World → Heap → Prop} {d : DefRec} {x : Str} (hn : l.most = some 63) (hdf : d.params.defaults = []) (room : Room k callerA)
    (F : ∀ (w : World) (mg : Str → Option Value) (fa : Addr) (h : Heap), YP w h → h.Ns mainGlobals mg → mg d.name = some (.ref fa) →
      ∃ (K : PySem.W.Frag) (fd : FuncData), K.In h ∧ (∀ (s : Shared) (u : Value), BindsTo s fd ⟨[u], []⟩ [(x, u)]) ∧ ∀ base : Heap, K.In base → base.Ns mainGlobals mg → FnG l.prog w K mg base k fa fd [x] (spLaw K)) :
    PySem.W.WalkO q loose XP YP l.row.toRowW d [] (fun f vs => PySem.call f vs) := by
  refine Att.attach_call hn hdf ?_
  intro w s0 s1 mg mb fa o pm cd doc a vs ns G Y ho hd hcd hmg hobj hints hlen hg
  obtain ⟨K, fd, inK, bind, hF⟩ := F w mg fa _ Y G.T.g hmg
  exact lawG inK G.T.g G.T.b G.T.builtins G.T.nolimit hg hobj hints hlen room hF bind
end Dl
namespace Dl
open PySem PySem.Spec L2
open PyProof.Rows hiding St

/-! ### a def that is known by its name -/
def Kn (P : Program) (w : World) (K : PySem.W.Frag) (mg : Str → Option Value) (base : Heap) (k : Nat) (x : Str) (st : Stmt) (ps : List Str) (mF : List Da → Mv Dt) : Prop := ∃ (f : Addr) (fd : FuncData), FnD P w K mg base k f fd ps mF ∧ mg x = some (.ref f) ∧
  (∀ us : List Value, us.length = ps.length → ∀ s : Shared, K.In s.heap → BindsTo s fd ⟨us, []⟩ (ps.zip us)) ∧ FunD K x x (defArgs st) (defBody st) (defScope st) [] [] f fd
section
variable {P : Program} {w : World} {K : PySem.W.Frag} {mg : Str → Option Value} {base : Heap}
theorem Kn.more {j k : Nat} {x : Str} {st : Stmt} {ps : List Str} {mF : List Da → Mv Dt} (G : Kn P w K mg base j x st ps mF) (h : j ≤ k) : Kn P w K mg base k x st ps mF := by
  obtain ⟨f, fd, a, b, c, d⟩ := G
  exact ⟨f, fd, a.more h, b, c, d⟩
theorem Kn.imp {k : Nat} {x : Str} {st : Stmt} {ps : List Str} {mF mF' : List Da → Mv Dt} (G : Kn P w K mg base k x st ps mF) (h : ∀ as n Q W, as.length = ps.length → mF' as n Q W → mF as n Q W) : Kn P w K mg base k x st ps mF' := by
  obtain ⟨f, fd, a, b, c, d⟩ := G
  exact ⟨f, fd, a.imp h, b, c, d⟩
/-- a def of the top, before its promise -/
structure Df (K : PySem.W.Frag) (mg : Str → Option Value) (x : Str) (st : Stmt) (ps : List Str) (f : Addr) (fd : FuncData) : Prop where
  d : FunD K x x (defArgs st) (defBody st) (defScope st) [] [] f fd
  g : mg x = some (.ref f)
  b : ∀ us : List Value, us.length = ps.length → ∀ s : Shared, BindsTo s fd ⟨us, []⟩ (ps.zip us)
theorem Df.kn {k : Nat} {x : Str} {st : Stmt} {ps : List Str} {f : Addr} {fd : FuncData} {mF : List Da → Mv Dt} (D : Df K mg x st ps f fd) (G : FnD P w K mg base k f fd ps mF) : Kn P w K mg base k x st ps mF := ⟨f, fd, G, D.g, fun us h s _ => D.b us h s, D.d⟩
end
section
variable {X : Cx} {g : Gh} {e : Expr} {es : List Expr} {kws : List Keyword} {x : Str} {p pos : Pos} {k : Nat} {st : Stmt} {ps : List Str} {mF : List Da → Mv Dt} {m : Me (List Da)}
theorem de_k (G : Kn X.prog X.w X.K X.mg X.base k x st ps mF) (hx : XOk X g) (room : Room k X.A) (ha : DAs X g (e :: es) m) (hg : Gl X x := by rfl) (hdb : (x == ("__debug__" : Str)) = false := by decide)
    (he : starEach (e :: es) X.env = (false, eval e X.env) :: starEach es X.env := by rfl) (hpl : (backTo pos (starEach es X.env)).any (·.1) = false := by rfl) :
    DE X g (.Call (.Name x p) (e :: es) [] pos) (fun δ => bnd (m δ) (many ps.length mF)) := by
  obtain ⟨f, fd, a, b, c, d⟩ := G
  exact de_call a hx room hg b d.kp c ha hdb he hpl
theorem de_k0 (G : Kn X.prog X.w X.K X.mg X.base k x st [] mF) (hx : XOk X g) (room : Room k X.A) (hg : Gl X x := by rfl) (hdb : (x == ("__debug__" : Str)) = false := by decide) : DE X g (.Call (.Name x p) [] [] pos) (fun _ => mF []) := by
  obtain ⟨f, fd, a, b, c, d⟩ := G
  exact de_call0 a hx room hg b d.kp c hdb
theorem de_kk (is : List Nat) {ks : List Str} (G : Kn X.prog X.w X.K X.mg X.base k x st ps mF) (hx : XOk X g) (room : Room k X.A) (ha : DKs X g kws m)
    (hb : ∀ (kV doc pm : Value) (an : Option Addr) (cdv ct : Value) (ws : List Value), ws.length = ps.length → bindArgs (PySem.W.fnOf x x (defArgs st) (defBody st) (defScope st) .none kV doc pm an cdv ct) ⟨[], ks.zip ws⟩ = pure (ps.zip (order is ws)))
    (hg : Gl X x := by rfl) (hdb : (x == ("__debug__" : Str)) = false := by decide)
    (hall : (backToKw pos (keywordEach kws X.env)).all (·.1.isSome) = true := by rfl) (hks : (backToKw pos (keywordEach kws X.env)).filterMap (·.1) = ks := by rfl)
    (hpl : ((backTo pos (starEach [] X.env)).any (·.1) || (backToKw pos (keywordEach kws X.env)).any (·.1.isNone)) = false := by rfl) :
    DE X g (.Call (.Name x p) [] kws pos) (fun δ => bnd (m δ) (manyK ps.length mF is)) := by
  obtain ⟨f, fd, a, b, c, d⟩ := G
  refine de_callK is a hx room hg b d.kp ?_ ha hdb hall hks hpl
  obtain ⟨oc, od, dV, kV, doc, pm, an, cdv, ct, osl, rfl, lk, hcd, hD, hK⟩ := d.ex
  rcases hD with ⟨_, rfl⟩ | ⟨z, _⟩
  · exact fun ws hl s _ => .of_eq (hb kV doc pm an cdv ct ws hl)
  · exact absurd rfl z
/-- a constant of the top -/
theorem de_gc {v : V} {d : Dt} (h : ∃ u, X.mg x = some u ∧ RelV v u) (k : ∀ F, Rp X.K F v d) (hg : Gl X x := by rfl) (hd : (x == ("__debug__" : Str)) = false := by decide) : DE X g (.Name x pos) (fun _ => ret d) := by
  obtain ⟨u, hm, r⟩ := h
  exact de_gl hg hm r k hd
theorem de_gi {i : Int} (h : ∃ t, X.mg x = some (.int i t)) (hg : Gl X x := by rfl) (hd : (x == ("__debug__" : Str)) = false := by decide) : DE X g (.Name x pos) (fun _ => ret (.int i)) := by
  obtain ⟨t, h⟩ := h
  exact de_gc (v := .int i) ⟨_, h, t, rfl⟩ (fun _ => .int i) hg hd
theorem de_gs {z : Str} (h : ∃ t, X.mg x = some (.str z t)) (hg : Gl X x := by rfl) (hd : (x == ("__debug__" : Str)) = false := by decide) : DE X g (.Name x pos) (fun _ => ret (.str z)) := by
  obtain ⟨t, h⟩ := h
  exact de_gc (v := .str z) ⟨_, h, t, rfl⟩ (fun _ => .str z) hg hd
/-- in a block nothing is raised -/
theorem XOk.blk (h : XOk X g) {s : Shared} {H : Hp} {scope : Scope} {cenv : Env} {fp : List Addr} : XOk (X.blk s H scope cenv fp) g.calm := by
  refine ⟨h.calm, PassesOwn.never, h.guards, h.nd, ?_⟩
  intro pins σ H' s' e s'' I c
  obtain ⟨_, _, _, _, _, _, _, _, _, _, _, _, z⟩ := c
  obtain ⟨_, _, _, _, _, w⟩ := z
  exact w.elim
end
/-- a block's names, told by a test -/
def blkB (N : List Str) (sc scope : Scope) (own : List (Str × Nat)) : Bool := (scope.kind == .function) && scope.names.all (fun y => scope.names.lookup y.1 == some y.2) && own.all (fun p => N[p.2]? == some p.1) &&
  scope.names.all (fun y => !(y.2 == .free) || (sc.names.lookup y.1 == some .cell || sc.names.lookup y.1 == some .free)) && scope.names.all (fun y => !(y.2 == .local || y.2 == .cell) || ((own.map (·.1)).contains y.1 || !N.contains y.1))
theorem blk_ok {N : List Str} {sc scope : Scope} {own : List (Str × Nat)} (h : blkB N sc scope own = true) : BlkOk N sc scope own := by
  unfold blkB at h
  simp only [Bool.and_eq_true, List.all_eq_true, beq_iff_eq, Bool.or_eq_true, Bool.not_eq_true', List.contains_eq_mem, decide_eq_true_eq, decide_eq_false_iff_not] at h
  obtain ⟨⟨⟨⟨h1, h2⟩, h3⟩, h4⟩, h5⟩ := h
  refine ⟨h1, h2, h3, fun y hy e => ?_, fun y hy e => ?_⟩
  · rcases h4 y hy with z | z
    · rw [e] at z
      exact absurd z (by decide)
    · exact z
  · rcases h5 y hy with z | z
    · rcases e with e | e <;> (rw [e] at z; exact absurd z (by decide))
    · exact z
end Dl
namespace Dl
open PySem PySem.Spec L2
open PyProof.Rows hiding St
section
variable {X : Cx} {g : Gh} {e : Expr} {pos : Pos} {st : Stmt} {m : Ms}
/-- {} -/
theorem de_disp0 : DE X g (.Dict [] [] pos) (fun _ => ret (.dict [])) := by
  refine ⟨_, pe_dnewK, fun σ H F δ n Q Qd R q w => fun p np => ?_⟩
  exact q _ _ _ _ n (R.b.refl.lay np) (.dct upd_same .nil) w
/-- a statement, then the own list of slot i is a datum -/
theorem ds_frz1 (i : Nat) (h : DS X g st m) : DS X g st (fun δ n k W => m δ n { k with nx := fun δ' n' => k.nx (frz i δ') n' } W) := by
  obtain ⟨t, p, h⟩ := h
  refine ⟨t, p, fun σ H F δ n D k R q1 q2 q3 q4 w => h σ H F δ n D { k with nx := fun δ' n' => k.nx (frz i δ') n' } R (fun σ' H' F' δ' n' s R' z => ?_) q2 q3 q4 w⟩
  obtain ⟨F2, ex, R2⟩ := Rel.frz R' i
  exact q1 σ' H' F2 _ n' (s.trans ex) R2 z
theorem hu64 {A : Around} {k : Nat} (r : Room k A) : A.units + 64 < cLine := by have := r.un; omega
theorem hu65 {A : Around} {k : Nat} (r : Room k A) : A.units + 65 < cLine := by have := r.un; omega
end
end Dl
namespace Dl
open PySem PySem.Spec L2
open PyProof.Rows hiding St
/-! ### reckoning with meanings -/
/-- a comprehension that only reckons -/
theorem lc_ret {gt : Dt → List Ds → Mv (List Ds)} {mi : Me Bool} {me : Me Dt} {δ : List Ds} {p : Dt → Bool} {f : Dt → Dt} : ∀ (items acc : List Dt), (∀ x ∈ items, ∃ δ', gt x δ = ret δ' ∧ mi δ' = ret (p x) ∧ (p x = true → me δ' = ret (f x))) →
    lcM gt mi me δ items acc = ret (acc ++ (items.filter p).map f)
  | [], acc, _ => by simp [lcM]
  | x :: xs, acc, h => by
    obtain ⟨δ', h1, h2, h3⟩ := h x List.mem_cons_self
    have ih := fun acc => lc_ret (gt := gt) (mi := mi) (me := me) (δ := δ) (p := p) (f := f) xs acc fun y hy => h y (List.mem_cons_of_mem _ hy)
    unfold lcM
    rw [h1, bnd_ret, h2, bnd_ret]
    cases e : p x with
    | true =>
      rw [if_pos rfl, h3 e, bnd_ret, ih, List.filter_cons_of_pos (by rw [e]), List.map_cons, List.append_assoc]
      rfl
    | false =>
      rw [if_neg Bool.false_ne_true, ih, List.filter_cons_of_neg (by rw [e]; exact Bool.false_ne_true)]
theorem lcD_ret {mit : Me (List Dt)} {gt : Dt → List Ds → Mv (List Ds)} {mi : Me Bool} {me : Me Dt} {vs : List Nat} {δ : List Ds} {items : List Dt} {p : Dt → Bool} {f : Dt → Dt} (hit : mit δ = ret items)
    (h : ∀ x ∈ items, ∃ δ', gt x (wipeD δ vs) = ret δ' ∧ mi δ' = ret (p x) ∧ (p x = true → me δ' = ret (f x))) : lcD mit gt mi me vs δ = ret ((items.filter p).map f) := by
  unfold lcD
  rw [hit, bnd_ret]
  funext n Q W
  rw [lc_ret items [] h]
  rfl
/-- drawing: c draws at most, any result that is so -/
def dr (c : Nat) (P : Dt → Prop) : Mv Dt := fun n Q _ => c ≤ n ∧ ∀ y m, P y → n ≤ m + c → Q y m
/-- a meaning that is one of those -/
def Dr (c : Nat) (P : Dt → Prop) (m : Mv Dt) : Prop := ∀ n Q W, dr c P n Q W → m n Q W
theorem Dr.ret {P : Dt → Prop} {d : Dt} (h : P d) {c : Nat} : Dr c P (ret d) := fun n Q W ⟨h1, h2⟩ => h2 d n h (by omega)
theorem Dr.bnd {c1 c2 c : Nat} {P R : Dt → Prop} {m : Mv Dt} {f : Dt → Mv Dt} (h : Dr c1 P m) (hf : ∀ y, P y → Dr c2 R (f y)) (hc : c1 + c2 ≤ c) : Dr c R (bnd m f) := fun n Q W ⟨h1, h2⟩ =>
  h n _ W ⟨by omega, fun y m hy hm => hf y hy m Q W ⟨by omega, fun z m2 hz hm2 => h2 z m2 hz (by omega)⟩⟩
theorem Dr.imp {c c' : Nat} {P R : Dt → Prop} {m : Mv Dt} (h : Dr c P m) (hc : c ≤ c') (hp : ∀ y, P y → R y) : Dr c' R m := fun n Q W ⟨h1, h2⟩ => h n Q W ⟨by omega, fun y m hy hm => h2 y m (hp y hy) (by omega)⟩
/-- a comprehension that draws for each item -/
theorem lc_draw {gt : Dt → List Ds → Mv (List Ds)} {mi : Me Bool} {me : Me Dt} {δ : List Ds} {P : Dt → Prop} {c : Nat} {W : Wx} : ∀ (items acc : List Dt) (n : Nat) (Q : Kd (List Dt)), (∀ x ∈ items, ∃ δ', gt x δ = ret δ' ∧ mi δ' = ret true ∧ Dr c P (me δ')) → items.length * c ≤ n →
    (∀ ys m, ys.length = items.length → (∀ y ∈ ys, P y) → n ≤ m + items.length * c → Q (acc ++ ys) m) → lcM gt mi me δ items acc n Q W
  | [], acc, n, Q, _, _, q => by
    have := q [] n rfl (fun _ h => nomatch h) (by simp)
    rw [List.append_nil] at this
    exact this
  | x :: xs, acc, n, Q, h, hn, q => by
    obtain ⟨δ', h1, h2, h3⟩ := h x List.mem_cons_self
    unfold lcM
    rw [h1, bnd_ret, h2, bnd_ret, if_pos rfl]
    have e : (x :: xs).length * c = xs.length * c + c := by rw [List.length_cons, Nat.succ_mul]
    rw [e] at hn q
    refine h3 n _ W ⟨by omega, fun y m hy hm => ?_⟩
    refine lc_draw xs (acc ++ [y]) m Q (fun z hz => h z (List.mem_cons_of_mem _ hz)) (by omega) fun ys m2 hl ha hm2 => ?_
    rw [List.append_assoc]
    exact q (y :: ys) m2 (by rw [List.length_cons, List.length_cons, hl]) (fun z hz => (List.mem_cons.mp hz).elim (fun e => e ▸ hy) (ha z)) (by omega)

/-! ### rows for simp -/
theorem ret_app {α : Type} (a : α) (n : Nat) (Q : Kd α) (W : Wx) : (ret a : Mv α) n Q W = Q a n := rfl
theorem grd_app {α : Type} (c : Prop) (m : Mv α) (n : Nat) (Q : Kd α) (W : Wx) : grd c m n Q W = (c ∧ m n Q W) := rfl
theorem bnd_app {α β : Type} (m : Mv α) (f : α → Mv β) (n : Nat) (Q : Kd β) (W : Wx) : bnd m f n Q W = m n (fun a n1 => f a n1 Q W) W := rfl
theorem bnd_grd {α β : Type} (c : Prop) (m : Mv α) (f : α → Mv β) : bnd (grd c m) f = grd c (bnd m f) := rfl
theorem sl_zero (x : Dt) (r : List Ds) : sl 0 (.d x :: r) = ret x := rfl
theorem sl_succ (i : Nat) (s : Ds) (r : List Ds) : sl (i + 1) (s :: r) = sl i r := rfl
theorem slX_zero (x : Dt) (r : List Ds) : slX 0 (.d x :: r) = ret x := rfl
theorem slX_own (x : List Dt) (r : List Ds) : slX 0 (.own x :: r) = ret (.list x) := rfl
theorem slX_succ (i : Nat) (s : Ds) (r : List Ds) : slX (i + 1) (s :: r) = slX i r := rfl
theorem slO_zero (x : List Dt) (r : List Ds) : slO 0 (.d (.list x) :: r) = ret x := rfl
theorem slO_own (x : List Dt) (r : List Ds) : slO 0 (.own x :: r) = ret x := rfl
theorem slO_succ (i : Nat) (s : Ds) (r : List Ds) : slO (i + 1) (s :: r) = slO i r := rfl
theorem slH_zero (r : List Ds) : slH 0 (.hand :: r) = ret .hand := rfl
theorem slH_succ (i : Nat) (s : Ds) (r : List Ds) : slH (i + 1) (s :: r) = slH i r := rfl
theorem frz_zero (xs : List Dt) (r : List Ds) : frz 0 (.own xs :: r) = .d (.list xs) :: r := rfl
theorem frz_succ (i : Nat) (s : Ds) (r : List Ds) : frz (i + 1) (s :: r) = s :: frz i r := by
  unfold frz
  rw [List.getElem?_cons_succ]
  cases e : r[i]? with
  | none => rfl
  | some u => cases u <;> rfl
theorem own_zero (xs : List Dt) (r : List Ds) (f : List Dt → Prop) : withOwn 0 (.own xs :: r) f = f xs := rfl
theorem own_succ (i : Nat) (s : Ds) (r : List Ds) (f : List Dt → Prop) : withOwn (i + 1) (s :: r) f = withOwn i r f := rfl
theorem asB_bool (b : Bool) : asB (.bool b) = ret b := rfl
theorem asI_int (b : Int) : asI (.int b) = ret (some b) := rfl
theorem both_if (x : Bool) (y : Mv Bool) : both (ret x) y = if x then y else ret false := rfl
theorem either_if (x : Bool) (y : Mv Bool) : either (ret x) y = if x then ret true else y := rfl
theorem bothD_if (x : Bool) (y : Mv Dt) : bothD (ret (.bool x)) y = if x then y else ret (.bool false) := rfl
theorem eitherD_if (x : Bool) (y : Mv Dt) : eitherD (ret (.bool x)) y = if x then ret (.bool true) else y := rfl
theorem choose_if {α : Type} (c : Bool) (x y : Mv α) : choose (ret c) x y = if c then x else y := rfl
theorem many_app (c : Nat) (mF : List Da → Mv Dt) (as : List Da) (h : as.length = c) : many c mF as = mF as := by
  funext n Q W
  exact propext ⟨fun x => x.2, fun x => ⟨h, x⟩⟩
theorem ite_bnd {α β : Type} (c : Prop) [Decidable c] (x y : Mv α) (f : α → Mv β) : bnd (if c then x else y) f = if c then bnd x f else bnd y f := by split <;> rfl
theorem ite_ret2 {α : Type} (c : Prop) [Decidable c] (x y : α) : (if c then (ret x : Mv α) else ret y) = ret (if c then x else y) := by split <;> rfl
theorem wipeD_nil (δ : List Ds) : wipeD δ [] = δ := rfl
theorem wipeD_cons (δ : List Ds) (v : Nat) (vs : List Nat) : wipeD δ (v :: vs) = (wipeD δ vs).set v .no := rfl

theorem manyK_app (c : Nat) (mF : List Da → Mv Dt) (is : List Nat) (as : List Da) (h : as.length = c) (h2 : (order is as).length = c) : manyK c mF is as = mF (order is as) := by
  funext n Q W
  exact propext ⟨fun x => x.2.2, fun x => ⟨h, h2, x⟩⟩
theorem oJoin_list {x : Str} {ys : List Dt} {zs : List Str} (e : textsOf ys = some zs) (h : (zs.map (·.length)).sum + zs.length * x.length ≤ 16777216) : oJoin (.str x) [.list ys] = ret (.str (Txt.join x zs)) := by
  show (match textsOf ys with | some zs => grd ((zs.map (·.length)).sum + zs.length * x.length ≤ 16777216) (ret (.str (Txt.join x zs))) | none => bad : Mv Dt) = _
  rw [e]
  exact grd_true h _
theorem oEq_str (x y : Str) : oEq (.str x) (.str y) = ret (PyData.bool (x == y)) := by
  show grd _ (ret (PyData.bool (PyData.eqv (.str x) (.str y)))) = _
  rw [grd_true (by trivial), PyData.eqv]
theorem oEq_int (x y : Int) : oEq (.int x) (.int y) = ret (PyData.bool (x == y)) := by
  show grd _ (ret (PyData.bool (PyData.eqv (.int x) (.int y)))) = _
  rw [grd_true (by trivial), PyData.eqv]
theorem oNe_int (x y : Int) : oNe (.int x) (.int y) = ret (PyData.bool (!(x == y))) := by
  show grd _ (ret (PyData.bool (!PyData.eqv (.int x) (.int y)))) = _
  rw [grd_true (by trivial), PyData.eqv]
theorem filter_none {α : Type} (p : α → Bool) (xs : List α) : (xs.filter p).isEmpty = xs.all fun x => !p x := by
  induction xs with
  | nil => rfl
  | cons x xs ih =>
    rw [List.filter_cons, List.all_cons]
    cases p x with
    | true => rfl
    | false => rw [if_neg Bool.false_ne_true, ih]; rfl
theorem sz (n : Nat) (h : n ≤ 1000 := by decide) : n ≤ sizeLine := Nat.le_trans h (by decide)
theorem grd_nil {α : Type} (m : Mv α) : grd (([] : List Dt).length ≤ sizeLine) m = m := grd_true (sz 0) m
theorem onStr_str (x : Str) (m : Mv Dt) : onStr (.str x) m = m := rfl
/-! ### comprehensions in short -/
theorem lcD_map {mit : Me (List Dt)} {gt : Dt → List Ds → Mv (List Ds)} {me : Me Dt} {vs : List Nat} {δ : List Ds} {items : List Dt} (f : Dt → Dt) (hit : mit δ = ret items)
    (h : ∀ x ∈ items, ∃ δ', gt x (wipeD δ vs) = ret δ' ∧ me δ' = ret (f x)) : lcD mit gt (fun _ => ret true) me vs δ = ret (items.map f) := by
  rw [lcD_ret (p := fun _ => true) (f := f) hit fun x hx => let ⟨δ', h1, h2⟩ := h x hx; ⟨δ', h1, rfl, fun _ => h2⟩]
  congr 1
  rw [List.filter_eq_self.mpr (fun _ _ => rfl)]
theorem lcD_filter {mit : Me (List Dt)} {gt : Dt → List Ds → Mv (List Ds)} {mi : Me Bool} {me : Me Dt} {vs : List Nat} {δ : List Ds} {items : List Dt} (p : Dt → Bool) (hit : mit δ = ret items)
    (h : ∀ x ∈ items, ∃ δ', gt x (wipeD δ vs) = ret δ' ∧ mi δ' = ret (p x) ∧ me δ' = ret x) : lcD mit gt mi me vs δ = ret (items.filter p) := by
  rw [lcD_ret (p := p) (f := id) hit fun x hx => let ⟨δ', h1, h2, h3⟩ := h x hx; ⟨δ', h1, h2, fun _ => h3⟩]
  rw [List.map_id]
theorem lcD_draw {mit : Me (List Dt)} {gt : Dt → List Ds → Mv (List Ds)} {me : Me Dt} {vs : List Nat} {δ : List Ds} {items : List Dt} {P : Dt → Prop} (c : Nat) (hit : mit δ = ret items) (h : ∀ x ∈ items, ∃ δ', gt x (wipeD δ vs) = ret δ' ∧ Dr c P (me δ'))
    {n : Nat} {Q : Kd (List Dt)} {W : Wx} (hn : items.length * c ≤ n) (q : ∀ ys m, ys.length = items.length → (∀ y ∈ ys, P y) → n ≤ m + items.length * c → Q ys m) : lcD mit gt (fun _ => ret true) me vs δ n Q W := by
  unfold lcD
  rw [hit, bnd_ret]
  exact lc_draw items [] n Q (fun x hx => let ⟨δ', h1, h2⟩ := h x hx; ⟨δ', h1, rfl, h2⟩) hn q
theorem oAll_map {α : Type} (g : α → Bool) (xs : List α) : oAll [.list (xs.map fun d => PyData.bool (g d))] = ret (.bool (xs.all g)) := by
  have e : xs.map (fun d => PyData.bool (g d)) = (xs.map g).map PyData.bool := by rw [List.map_map]; rfl
  show (match boolsOf (xs.map fun d => PyData.bool (g d)) with | some bs => ret (.bool (bs.all id)) | none => bad : Mv Dt) = _
  rw [e, boolsOf_map]
  show ret _ = _
  rw [List.all_map]
  rfl
theorem oAny_map {α : Type} (g : α → Bool) (xs : List α) : oAny [.list (xs.map fun d => PyData.bool (g d))] = ret (.bool (xs.any g)) := by
  have e : xs.map (fun d => PyData.bool (g d)) = (xs.map g).map PyData.bool := by rw [List.map_map]; rfl
  show (match boolsOf (xs.map fun d => PyData.bool (g d)) with | some bs => ret (.bool (bs.any id)) | none => bad : Mv Dt) = _
  rw [e, boolsOf_map]
  show ret _ = _
  rw [List.any_map]
  rfl
theorem mem_chars {x : Str} {d : Dt} (h : d ∈ charsD x) : ∃ c, d = .str ⟨#[c]⟩ := by
  unfold charsD at h
  obtain ⟨c, _, rfl⟩ := List.mem_map.mp h
  exact ⟨c, rfl⟩
theorem eqv_lnil (ds : List Dt) : PyData.eqv (.list ds) (.list []) = ds.isEmpty := by
  cases ds <;> simp [PyData.eqv, PyData.eqvAll]
/-- xs == [] -/
theorem oEq_nil (ds : List Dt) : oEq (.list ds) (.list []) = ret (.bool ds.isEmpty) := by
  unfold oEq
  have e : eqOk (.list ds) (.list []) := .inl (.inr rfl)
  rw [grd_true e, eqv_lnil]
theorem oNe_nil (ds : List Dt) : oNe (.list ds) (.list []) = ret (.bool (!ds.isEmpty)) := by
  unfold oNe
  have e : eqOk (.list ds) (.list []) := .inl (.inr rfl)
  rw [grd_true e, eqv_lnil]
theorem eqv_tnil (ds : List Dt) : PyData.eqv (.tuple ds) (.tuple []) = ds.isEmpty := by
  cases ds <;> simp [PyData.eqv, PyData.eqvAll]
theorem oEq_tnil (ds : List Dt) : oEq (.tuple ds) (.tuple []) = ret (.bool ds.isEmpty) := by
  unfold oEq
  have e : eqOk (.tuple ds) (.tuple []) := .inl (.inr rfl)
  rw [grd_true e, eqv_tnil]
theorem oNe_str (x y : Str) : oNe (.str x) (.str y) = ret (PyData.bool (x != y)) := by
  show grd _ (ret (PyData.bool (!PyData.eqv (.str x) (.str y)))) = _
  rw [grd_true (by trivial), PyData.eqv]
  rfl
end Dl
namespace Dl
open PySem PySem.Spec L2
open PyProof.Rows hiding St
/-! ### texts of bounded length -/
def Txs (B : Nat) (x : Str) : Prop := x.length ≤ B ∧ ∀ c ∈ x.cps.toList, c < 0x110000
def tx (B : Nat) (d : Dt) : Prop := ∃ x, d = .str x ∧ Txs B x
/-- the same, to be decided -/
def txB (B : Nat) : Dt → Bool
  | .str x => decide (x.length ≤ B) && x.cps.toList.all fun c => decide (c < 0x110000)
  | _ => false
theorem tx_of {B : Nat} {d : Dt} (h : txB B d = true) : tx B d := by
  cases d with
  | str x =>
    have h : (decide (x.length ≤ B) && x.cps.toList.all fun c => decide (c < 0x110000)) = true := h
    rw [Bool.and_eq_true, decide_eq_true_eq, List.all_eq_true] at h
    exact ⟨x, rfl, h.1, fun c hc => of_decide_eq_true (h.2 c hc)⟩
  | _ => exact absurd h Bool.false_ne_true
theorem txs_of {B : Nat} {xs : List Dt} (h : xs.all (txB B) = true) : ∀ y ∈ xs, tx B y := fun y hy => tx_of (List.all_eq_true.mp h y hy)
theorem Txs.more {B C : Nat} {x : Str} (h : Txs B x) (l : B ≤ C) : Txs C x := ⟨Nat.le_trans h.1 l, h.2⟩
theorem tx.more {B C : Nat} {d : Dt} (h : tx B d) (l : B ≤ C) : tx C d := let ⟨x, e, t⟩ := h; ⟨x, e, t.more l⟩
theorem Txs.cat {B C : Nat} {x y : Str} (h : Txs B x) (g : Txs C y) : Txs (B + C) (x ++ y) := by
  refine ⟨?_, fun c hc => ?_⟩
  · have e : (x ++ y).length = x.length + y.length := by
      show (x.cps ++ y.cps).size = _
      rw [Array.size_append]
      rfl
    rw [e]
    exact Nat.add_le_add h.1 g.1
  · rcases mem_cps_append.mp hc with z | z
    · exact h.2 c z
    · exact g.2 c z
theorem catLen (x y : Str) : (x ++ y).length = x.length + y.length := by
  show (x.cps ++ y.cps).size = _
  rw [Array.size_append]
  rfl
theorem Txs.slice {B : Nat} {x : Str} (h : Txs B x) (lo hi : Option Int) : Txs B (Txt.slice x lo hi) := by
  rw [← C8.cutS_slice]
  unfold cutS
  refine ⟨?_, fun c hc => ?_⟩
  · show Array.size _ ≤ B
    rw [List.size_toArray, List.length_take, List.length_drop]
    have e : x.cps.toList.length = x.length := by simp [Str.length]
    have := h.1
    omega
  · have hc : c ∈ (x.cps.toList.drop (HT.sIx x.length 0 lo)).take (HT.sIx x.length x.length hi - HT.sIx x.length 0 lo) := by simpa using hc
    exact h.2 c (List.mem_of_mem_drop (List.mem_of_mem_take hc))
theorem Txs.one {c : Nat} (h : c < 0x110000) : Txs 1 ⟨#[c]⟩ := ⟨Nat.le_refl _, fun d hd => by
  have e : d = c := by simpa using hd
  rw [e]; exact h⟩
theorem Txs.at {B : Nat} {x : Str} (h : Txs B x) {i : Int} {c : Nat} (e : L2.atI x.cps.toList i = some c) : Txs 1 ⟨#[c]⟩ := by
  obtain ⟨j, _, hj, _⟩ := L2.atI_get e
  exact Txs.one (h.2 c (List.mem_of_getElem? hj))
theorem sum_le {B : Nat} : ∀ {zs : List Str}, (∀ z ∈ zs, Txs B z) → (zs.map (·.length)).sum ≤ zs.length * B
  | [], _ => by simp
  | z :: zs, h => by
    have h1 := (h z List.mem_cons_self).1
    have h2 := sum_le (B := B) fun y hy => h y (List.mem_cons_of_mem _ hy)
    rw [List.map_cons, List.sum_cons, List.length_cons, Nat.succ_mul]
    omega
theorem Txs.join {B C : Nat} {x : Str} {zs : List Str} (hx : Txs C x) (h : ∀ z ∈ zs, Txs B z) : Txs (zs.length * B + zs.length * C) (Txt.join x zs) := by
  rw [show Txt.join x zs = Str.join x zs from StrLaws.glued_eq_join x zs]
  refine ⟨?_, fun c hc => ?_⟩
  · have h1 := StrLaws.join_length_le x zs
    have h2 := sum_le h
    have h3 : zs.length * x.length ≤ zs.length * C := Nat.mul_le_mul_left _ hx.1
    omega
  · rcases (mem_join x c zs).mp hc with ⟨t, ht, hc⟩ | ⟨_, hc⟩
    · exact (h t ht).2 c hc
    · exact hx.2 c hc
theorem texts_tx {B : Nat} : ∀ {ys : List Dt}, (∀ y ∈ ys, tx B y) → ∃ zs, textsOf ys = some zs ∧ zs.length = ys.length ∧ ∀ z ∈ zs, Txs B z
  | [], _ => ⟨[], rfl, rfl, fun _ h => nomatch h⟩
  | y :: ys, h => by
    obtain ⟨x, rfl, hx⟩ := h y List.mem_cons_self
    obtain ⟨zs, e, l, a⟩ := texts_tx (ys := ys) fun z hz => h z (List.mem_cons_of_mem _ hz)
    refine ⟨x :: zs, ?_, by rw [List.length_cons, List.length_cons, l], fun z hz => (List.mem_cons.mp hz).elim (fun e => e ▸ hx) (a z)⟩
    show (textsOf ys).map (x :: ·) = _
    rw [e]
    rfl

/-! ### data that repr shows -/
def goodD (d : Dt) : Bool := d.showable && (d.leavesShort 45 && (decide (d.weight ≤ 300000) && decide (d.depth ≤ 50)))
theorem sh_of {d : Dt} (h : goodD d = true) : shOk d := by
  unfold goodD at h
  rw [Bool.and_eq_true, Bool.and_eq_true, Bool.and_eq_true, decide_eq_true_eq, decide_eq_true_eq] at h
  obtain ⟨h1, h2, h3, h4⟩ := h
  refine ⟨h1, ?_, by omega⟩
  have h5 := PyData.shown_le 45 (by decide) d h2
  have h6 : (45 + 2) * d.weight ≤ 47 * 300000 := Nat.mul_le_mul (Nat.le_refl _) h3
  rw [sizeLine_eq]
  omega
theorem oRepr_good {d : Dt} (h : goodD d = true) : oRepr [d] = ret (.str d.shown) := by
  show grd (shOk d) _ = _
  rw [grd_true (sh_of h)]
theorem good_str {B : Nat} {x : Str} (h : Txs B x) (hB : B ≤ 300000) : goodD (.str x) = true := by
  unfold goodD
  have e1 : (PyData.str x).showable = true := by simp [PyData.showable]
  have e2 : (PyData.str x).leavesShort 45 = true := by
    simp only [PyData.leavesShort, List.all_eq_true, decide_eq_true_eq]
    intro c hc
    have := h.2 c hc
    omega
  have e3 : (PyData.str x).weight ≤ 300000 := by
    have : (PyData.str x).weight = x.length := by simp [PyData.weight, Str.length]
    rw [this]
    exact Nat.le_trans h.1 hB
  have e4 : (PyData.str x).depth ≤ 50 := by simp [PyData.depth]
  rw [e1, e2, decide_eq_true e3, decide_eq_true e4]
  rfl
theorem canLay_texts {B : Nat} : ∀ {ys : List Dt}, (∀ y ∈ ys, tx B y) → PyData.canLayAll0 ys = true ∧ PyData.depthAll ys = 0
  | [], _ => ⟨rfl, rfl⟩
  | y :: ys, h => by
    obtain ⟨x, rfl, hx⟩ := h y List.mem_cons_self
    obtain ⟨h1, h2⟩ := canLay_texts (ys := ys) fun z hz => h z (List.mem_cons_of_mem _ hz)
    have e : PyData.strOk x = true := by
      unfold PyData.strOk
      rw [← Array.all_toList, List.all_eq_true]
      exact fun c hc => decide_eq_true (hx.2 c hc)
    simp only [PyData.canLayAll0, PyData.canLay0, PyData.depthAll, PyData.depth, e, h1, h2]
    exact ⟨rfl, rfl⟩
theorem shaped_texts {B : Nat} {ys : List Dt} (h : ∀ y ∈ ys, tx B y) : SeqAt.shaped (.list ys) = true := by
  obtain ⟨h1, h2⟩ := canLay_texts h
  unfold SeqAt.shaped
  simp only [PyData.canLay0, PyData.depth, h1, h2]
  rfl
/-- the law's last word: nothing is left over -/
theorem oEq_none : oEq (.list []) (.list []) = ret (.bool true) := oEq_nil []
theorem fold_rep (a : Array Nat) : ∀ (n : Nat) (acc : Array Nat), ((List.replicate n a).foldl (· ++ ·) acc).size = acc.size + n * a.size ∧ ∀ c ∈ ((List.replicate n a).foldl (· ++ ·) acc).toList, c ∈ acc.toList ∨ c ∈ a.toList
  | 0, acc => ⟨by simp, fun c h => .inl (by simpa using h)⟩
  | n + 1, acc => by
    rw [List.replicate_succ, List.foldl_cons]
    obtain ⟨h1, h2⟩ := fold_rep a n (acc ++ a)
    refine ⟨by rw [h1, Array.size_append, Nat.succ_mul]; omega, fun c hc => ?_⟩
    rcases h2 c hc with z | z
    · rw [Array.toList_append, List.mem_append] at z
      exact z
    · exact .inr z
theorem Txs.mul {B : Nat} {x : Str} (h : Txs B x) (k : Int) : Txs (k.toNat * B) (Txt.mul x k) := by
  unfold Txt.mul
  by_cases h1 : k < 1
  · rw [if_pos h1]
    exact ⟨Nat.zero_le _, fun c hc => by cases hc⟩
  · rw [if_neg h1]
    by_cases h2 : (k == 1 || x.length == 0) = true
    · rw [if_pos h2]
      refine h.more ?_
      have : 1 * B ≤ k.toNat * B := Nat.mul_le_mul_right _ (by omega)
      omega
    · rw [if_neg h2]
      obtain ⟨e1, e2⟩ := fold_rep x.cps k.toNat #[]
      refine ⟨?_, fun c hc => ?_⟩
      · show Array.size _ ≤ _
        rw [e1]
        have : k.toNat * x.cps.size ≤ k.toNat * B := Nat.mul_le_mul_left _ h.1
        simpa using this
      · rcases e2 c hc with z | z
        · cases z
        · exact h.2 c z
end Dl
namespace Dl
open PySem PySem.Spec L2
open PyProof.Rows hiding St

/-! ### max(xs, default=d), whole numbers -/
def maxOr (d : Int) : List Int → Int
  | [] => d
  | n :: ns => ns.foldl max n
def rMaxDef (K : PySem.W.Frag) : List V → List V → Hp → VK → Prop := fun xs zs H Q => ∃ (a : Addr) (ns : List Int) (d : Int), xs = [.ref a] ∧ zs = [.int d] ∧ SqL K H a (ns.map V.int) ∧ Q (.int (maxOr d ns)) H
theorem depth_ints : ∀ ns : List Int, PyData.depthAll (ns.map PyData.int) = 0
  | [] => rfl
  | n :: ns => by
    rw [List.map_cons, PyData.depthAll, depth_ints ns]
    rfl
theorem alike_ints (ns : List Int) : PySem.W.AlikeAll (ns.map PyData.int) := by
  refine ⟨fun x hx y hy => ?_, fun x hx => ?_⟩
  · obtain ⟨i, _, rfl⟩ := List.mem_map.mp hx
    obtain ⟨j, _, rfl⟩ := List.mem_map.mp hy
    simp [PySem.W.alike]
  · obtain ⟨i, _, rfl⟩ := List.mem_map.mp hx
    exact fun z => nomatch z
theorem cr_maxDef {X : Cx} (hc : X.calm = true) (hu : X.A.units + 64 < cLine) : CallRK X (.builtin "max") [Str.ofString "default"] (rMaxDef X.K) := by
  intro pins s σ H xs zs us ws Q I r rz h
  obtain ⟨a, ns, d, rfl, rfl, hs, q⟩ := h
  obtain ⟨its, rv, hl, _⟩ := I.list hs
  have e1 := Vals.ref1 r
  subst e1
  obtain ⟨u, rfl, t, rfl⟩ := vals1 rz
  obtain ⟨as, rd⟩ := Dp.readsAll I _ _ _ (dp_ints ns) rv
  refine PySem.W.max_list_default (vs := its.toArray) (I.ok.hd hc) hl.isList (by simpa using rd) (alike_ints ns) (by rw [depth_ints]; omega) (fun e h' tk hk => ?_) (fun y ys i v h' tk bs e hv rd' hk => ?_)
  · have z : ns = [] := by simpa using e
    subst z
    exact ⟨.int d, H, I.kept hk, ⟨t, rfl⟩, q⟩
  · cases ns with
    | nil => cases e
    | cons n ns =>
      rw [List.map_cons] at e
      cases e
      rw [PySem.W.maxD_ints] at rd'
      cases rd'
      exact ⟨.int _, H, I.kept hk, ⟨_, rfl⟩, q⟩
section
variable {X : Cx} {g : Gh} {a b : Expr} {pos p kpos : Pos} {ma mb : Me Dt}
def oMaxDef (x d : Dt) : Mv Dt := match x, d with
  | .list ds, .int i => (match intsOf ds with | some ns => ret (.int (maxOr i ns)) | none => bad)
  | _, _ => bad
theorem de_maxD (hx : X.calm = true) (hu : X.A.units + 64 < cLine) (hm : X.mg "max" = none) (ha : DX X g a ma) (hb : DE X g b mb) (hg : Gl X "max" := by rfl)
    (h1 : starEach [a] X.env = (false, eval a X.env) :: starEach [] X.env := by rfl) (he : backTo pos (starEach [a] X.env) = (false, eval a X.env) :: backTo pos (starEach [] X.env) := by rfl) (hpl : (backTo pos (starEach [a] X.env)).any (·.1) = false := by rfl)
    (hall : (backToKw pos (keywordEach [⟨some "default", b, kpos⟩] X.env)).all (·.1.isSome) = true := by rfl) (hnone : (backToKw pos (keywordEach [⟨some "default", b, kpos⟩] X.env)).any (·.1.isNone) = false := by rfl) (hks : (backToKw pos (keywordEach [⟨some "default", b, kpos⟩] X.env)).filterMap (·.1) = [Str.ofString "default"] := by rfl) :
    DE X g (.Call (.Name "max" p) [a] [⟨some "default", b, kpos⟩] pos) (fun δ => bnd (ma δ) fun x => bnd (mb δ) fun d => oMaxDef x d) := by
  obtain ⟨t, pt, ha⟩ := ha
  obtain ⟨u, pu, hb⟩ := hb
  refine ⟨_, pe_callBK (cr_maxDef hx hu) hg hm rfl (pa_cons pt pa_nil h1) (pk_cons pu pk_nil) (by decide) (by decide) he hpl hall hnone hks, fun σ H F δ n Q Qd R q w => ?_⟩
  refine ha σ H F δ n _ _ R (fun v d F1 H1 n1 rb rp hq => ?_) w
  refine hb σ H1 F1 δ n1 _ _ (R.ext rb) (fun v2 d2 F2 H2 n2 rb2 rp2 hq2 => ?_) hq
  cases d <;> cases d2 <;> first | exact hq2.elim | skip
  rename_i ds i
  cases rp2
  have hq3 : (match intsOf ds with | some ns => ret (.int (maxOr i ns)) | none => bad : Mv Dt) n2 Qd g.W := hq2
  cases e : intsOf ds with
  | none => rw [e] at hq3; exact hq3.elim
  | some ns =>
    rw [e] at hq3
    obtain ⟨l, vs, rfl, h3, r3⟩ := (rp.ext rb2).lst rb2.sub
    rw [intsOf_eq e] at r3
    rw [r3.ints] at h3
    exact ⟨l, ns, i, rfl, rfl, SqL.of h3, q _ _ F2 H2 n2 (rb.trans rb2) (.int _) hq3⟩
end

/-! ### a head that tells one more thing -/
def obsY (n : Nat) (fa : List He.Fa) (fn : List He.DefD) (ex : PySem.W.Frag → Bool) (g : Addr → Option Obj) : He.AlD × Bool := (He.obsD fa fn (He.frG g (He.asD g n)), ex (He.frG g (He.asD g n)))
def hookY (n : Nat) (fa : List He.Fa) (fn : List He.DefD) (ex : PySem.W.Frag → Bool) : PySem.W.Hook where
  α := He.AlD × Bool
  obs := fun s => obsY n fa fn ex s.heap.get?
  val := fun _ => (He.valD fn, true)
  says := fun _ h => ∃ K : PySem.W.Frag, K.In h ∧ (He.SaysD fa fn K ∧ ex K = true)
  of := fun _ _ e => ⟨_, He.frG_in, congrArg Prod.fst e, congrArg Prod.snd e⟩
  keeps := fun _ _ _ ⟨K, hK, c⟩ k => ⟨K, PySem.W.Frag.In.keeps hK k, c⟩
theorem obsY_eq {n : Nat} {fa : List He.Fa} {fn : List He.DefD} {ex : PySem.W.Frag → Bool} {g : Addr → Option Obj} {s : Shared} (h : ∀ a, g a = s.heap.get? a) : obsY n fa fn ex g = (hookY n fa fn ex).obs s := by
  have e : g = s.heap.get? := funext h
  subst e
  rfl
/-- a tuple of the top, of flat constants -/
theorem RpAll.flat {K : PySem.W.Frag} {F : Hp} : ∀ {vs : List V} {ds : List Dt}, (∀ p ∈ vs.zip ds, Rp K F p.1 p.2) → vs.length = ds.length → RpAll K F vs ds
  | [], [], _, _ => .nil
  | v :: vs, d :: ds, h, l => .cons (h (v, d) List.mem_cons_self) (RpAll.flat (fun p hp => h p (List.mem_cons_of_mem _ hp)) (Nat.succ.inj l))
  | [], _ :: _, _, l => by cases l
  | _ :: _, [], _, l => by cases l
end Dl
namespace Dl
open PySem PySem.Spec L2
open PyProof.Rows hiding St
/-! ### what repr shows tells the datum -/
abbrev cp (x : Str) : List Nat := x.cps.toList
theorem cp_cat (a b : Str) : cp (a ++ b) = cp a ++ cp b := cps_toList_append a b
theorem cp_inj {a b : Str} (h : cp a = cp b) : a = b := by
  obtain ⟨a⟩ := a
  obtain ⟨b⟩ := b
  have e : a = b := Array.toList_inj.mp h
  rw [e]
/-- plain signs: a line end, a blank to a tilde -/
def ascC (c : Nat) : Bool := c == 10 || (decide (32 ≤ c) && decide (c ≤ 126))
mutual
def asc : Dt → Bool
  | .none => true
  | .bool _ => true
  | .int _ => true
  | .str x => (cp x).all ascC
  | .list xs => ascs xs
  | .tuple xs => ascs xs
  | .dict es => ascK es
def ascs : List Dt → Bool
  | [] => true
  | x :: xs => asc x && ascs xs
def ascK : List (Dt × Dt) → Bool
  | [] => true
  | (k, v) :: r => asc k && asc v && ascK r
end
/-- what may stand behind a shown datum -/
def Dlm (s : List Nat) : Prop := ∀ c r, s = c :: r → c = 44 ∨ c = 41 ∨ c = 93 ∨ c = 125 ∨ c = 58
theorem dlm_nil : Dlm [] := fun _ _ e => nomatch e
theorem dlm_cons {c : Nat} {r : List Nat} (h : c = 44 ∨ c = 41 ∨ c = 93 ∨ c = 125 ∨ c = 58) : Dlm (c :: r) := fun _ _ e => by
  cases e
  exact h

/-! numbers -/
theorem split_at {ok : Nat → Prop} : ∀ {a b s t : List Nat}, (∀ c ∈ a, ok c) → (∀ c ∈ b, ok c) → (∀ c r, s = c :: r → ¬ ok c) → (∀ c r, t = c :: r → ¬ ok c) → a ++ s = b ++ t → a = b ∧ s = t
  | [], [], _, _, _, _, _, _, e => ⟨rfl, e⟩
  | [], b :: bs, s, t, _, hb, hs, _, e => absurd (hb b List.mem_cons_self) (hs b (bs ++ t) e)
  | a :: as, [], s, t, ha, _, _, ht, e => absurd (ha a List.mem_cons_self) (ht a (as ++ s) e.symm)
  | a :: as, b :: bs, s, t, ha, hb, hs, ht, e => by
    have e : a :: (as ++ s) = b :: (bs ++ t) := e
    obtain ⟨e1, e2⟩ := List.cons.inj e
    obtain ⟨h1, h2⟩ := split_at (fun c hc => ha c (List.mem_cons_of_mem _ hc)) (fun c hc => hb c (List.mem_cons_of_mem _ hc)) hs ht e2
    exact ⟨by rw [e1, h1], h2⟩
def numC (c : Nat) : Prop := c = 45 ∨ (48 ≤ c ∧ c ≤ 57)
theorem int_numC (i : Int) : ∀ c ∈ cp (PyData.int i).shown, numC c := fun c hc => by
  by_cases h : numC c
  · exact h
  · have h : ¬ (c = 45 ∨ (48 ≤ c ∧ c ≤ 57)) := h
    exact absurd hc (shown_int_free' (by omega) i)
theorem int_inj {i j : Int} (h : cp (PyData.int i).shown = cp (PyData.int j).shown) : i = j := by
  have e : (toString i).toList.map Char.toNat = (toString j).toList.map Char.toNat := by
    have h : (Str.ofString (toString i)).cps.toList = (Str.ofString (toString j)).cps.toList := h
    rw [signs_ofString, signs_ofString] at h
    exact h
  have inj : ∀ {l m : List Char}, l.map Char.toNat = m.map Char.toNat → l = m := fun {l} => by
    induction l with
    | nil => intro m q; cases m with
      | nil => rfl
      | cons _ _ => cases q
    | cons x l ih => intro m q; cases m with
      | nil => cases q
      | cons y m =>
        rw [List.map_cons, List.map_cons] at q
        obtain ⟨q1, q2⟩ := List.cons.inj q
        have hx : x = y := by
          apply Char.ext
          have : x.val.toNat = y.val.toNat := q1
          exact UInt32.toNat_inj.mp this
        rw [hx, ih q2]
  have e2 : toString i = toString j := String.toList_inj.mp (inj e)
  rw [Int.toString_eq_repr, Int.toString_eq_repr] at e2
  exact Int.repr_inj.mp e2
theorem dlm_num {s : List Nat} (h : Dlm s) : ∀ c r, s = c :: r → ¬ numC c := fun c r e z => by
  have z : c = 45 ∨ (48 ≤ c ∧ c ≤ 57) := z
  rcases h c r e with h | h | h | h | h <;> omega
theorem int_ne (i : Int) : ∃ c r, cp (PyData.int i).shown = c :: r ∧ numC c := by
  cases e : cp (PyData.int i).shown with
  | nil =>
    exfalso
    have h1 : i ≠ 0 ∨ i = 0 := by omega
    have h2 : cp (PyData.int i).shown = cp (PyData.int i).shown := rfl
    have h3 : (toString i).toList.map Char.toNat = [] := by
      have h : (Str.ofString (toString i)).cps.toList = [] := e
      rw [signs_ofString] at h
      exact h
    have h4 : (toString i).toList = [] := List.map_eq_nil_iff.mp h3
    cases i with
    | ofNat n =>
      have h5 := TL.numL_ne n
      have h6 : (toString (Int.ofNat n)) = Nat.repr n := rfl
      rw [h6] at h4
      apply h5
      unfold TL.numL
      rw [List.map_eq_nil_iff]
      rw [← h4]
      simp [Nat.repr]
    | negSucc n =>
      have h6 : toString (Int.negSucc n) = "-" ++ Nat.repr (n + 1) := rfl
      rw [h6] at h4
      simp at h4
  | cons c r =>
    exact ⟨c, r, rfl, int_numC i c (by rw [e]; exact List.mem_cons_self)⟩

/-! texts -/
theorem fold_body (q : Nat) : ∀ (l : List Nat) (acc : Array Nat), (l.foldl (fun out c => out ++ (Builtin.Str.reprChar q c).toArray) acc).toList = acc.toList ++ l.flatMap (Builtin.Str.reprChar q)
  | [], acc => by simp
  | c :: l, acc => by
    rw [List.foldl_cons, fold_body q l, Array.toList_append, List.flatMap_cons, List.append_assoc]
theorem cp_repr (x : Str) : cp (reprText x) = reprQuote x :: ((cp x).flatMap (Builtin.Str.reprChar (reprQuote x)) ++ [reprQuote x]) := by
  unfold reprText
  show ((x.cps.foldl _ #[reprQuote x]).push (reprQuote x)).toList = _
  rw [Array.toList_push, ← Array.foldl_toList, fold_body]
  rfl
theorem printable_asc : ∀ c : Nat, c < 127 → 32 ≤ c → Unicode.isPrintable c = true := by decide +kernel
/-- a plain sign in a shown text -/
theorem repr_asc {q c : Nat} (h : ascC c = true) : (Builtin.Str.reprChar q c = [92, c] ∧ (c = q ∨ c = 92)) ∨ (Builtin.Str.reprChar q c = [92, 110] ∧ c = 10 ∧ c ≠ q) ∨ (Builtin.Str.reprChar q c = [c] ∧ c ≠ q ∧ c ≠ 92) := by
  unfold Builtin.Str.reprChar
  by_cases h1 : (c == q || c == 92) = true
  · left
    rw [if_pos h1]
    exact ⟨rfl, by simpa using h1⟩
  · rw [if_neg h1]
    have h1 : ¬ (c = q) ∧ ¬ (c = 92) := by simpa using h1
    by_cases h2 : (c == 10) = true
    · right; left
      rw [if_pos h2]
      exact ⟨rfl, by simpa using h2, h1.1⟩
    · right; right
      have h2' : ¬ c = 10 := by simpa using h2
      have h : 32 ≤ c ∧ c ≤ 126 := by
        unfold ascC at h
        simp only [Bool.or_eq_true, beq_iff_eq, Bool.and_eq_true, decide_eq_true_eq] at h
        rcases h with h | h
        · exact absurd h h2'
        · exact h
      rw [if_neg h2, if_neg (by simp; omega), if_neg (by simp; omega), if_pos (printable_asc c (by omega) h.1)]
      exact ⟨rfl, h1.1, h1.2⟩
theorem body_inj {q : Nat} (hq : q = 39 ∨ q = 34) : ∀ {l m s t : List Nat}, l.all ascC = true → m.all ascC = true → l.flatMap (Builtin.Str.reprChar q) ++ q :: s = m.flatMap (Builtin.Str.reprChar q) ++ q :: t → l = m ∧ s = t
  | [], [], s, t, _, _, e => ⟨rfl, (List.cons.inj e).2⟩
  | [], c :: m, s, t, _, hm, e => by
    exfalso
    rw [List.all_cons, Bool.and_eq_true] at hm
    rw [List.flatMap_cons] at e
    rcases repr_asc (q := q) hm.1 with ⟨h, _⟩ | ⟨h, _⟩ | ⟨h, h2, _⟩
    · rw [h] at e
      have := (List.cons.inj e).1
      omega
    · rw [h] at e
      have := (List.cons.inj e).1
      omega
    · rw [h] at e
      exact h2 (List.cons.inj e).1.symm
  | c :: l, [], s, t, hl, _, e => by
    exfalso
    rw [List.all_cons, Bool.and_eq_true] at hl
    rw [List.flatMap_cons] at e
    rcases repr_asc (q := q) hl.1 with ⟨h, _⟩ | ⟨h, _⟩ | ⟨h, h2, _⟩
    · rw [h] at e
      have := (List.cons.inj e).1
      omega
    · rw [h] at e
      have := (List.cons.inj e).1
      omega
    · rw [h] at e
      exact h2 (List.cons.inj e).1
  | c :: l, d :: m, s, t, hl, hm, e => by
    rw [List.all_cons, Bool.and_eq_true] at hl hm
    rw [List.flatMap_cons, List.flatMap_cons, List.append_assoc, List.append_assoc] at e
    have go : c = d → l.flatMap (Builtin.Str.reprChar q) ++ q :: s = m.flatMap (Builtin.Str.reprChar q) ++ q :: t → c :: l = d :: m ∧ s = t := fun e1 e2 => by
      obtain ⟨h1, h2⟩ := body_inj hq hl.2 hm.2 e2
      exact ⟨by rw [e1, h1], h2⟩
    rcases repr_asc (q := q) hl.1 with ⟨h, h'⟩ | ⟨h, h', h''⟩ | ⟨h, h', h''⟩ <;> rcases repr_asc (q := q) hm.1 with ⟨g, g'⟩ | ⟨g, g', g''⟩ | ⟨g, g', g''⟩ <;> rw [h, g] at e
    · obtain ⟨_, e⟩ := List.cons.inj e
      obtain ⟨e1, e2⟩ := List.cons.inj e
      exact go e1 e2
    · obtain ⟨_, e⟩ := List.cons.inj e
      obtain ⟨e1, e2⟩ := List.cons.inj e
      omega
    · obtain ⟨e1, e⟩ := List.cons.inj e
      exact absurd e1.symm g''
    · obtain ⟨_, e⟩ := List.cons.inj e
      obtain ⟨e1, e2⟩ := List.cons.inj e
      omega
    · obtain ⟨_, e⟩ := List.cons.inj e
      obtain ⟨e1, e2⟩ := List.cons.inj e
      exact go (by rw [h', g']) e2
    · obtain ⟨e1, e⟩ := List.cons.inj e
      exact absurd e1.symm g''
    · obtain ⟨e1, e⟩ := List.cons.inj e
      exact absurd e1 h''
    · obtain ⟨e1, e⟩ := List.cons.inj e
      exact absurd e1 h''
    · obtain ⟨e1, e⟩ := List.cons.inj e
      exact go e1 e
theorem quote_is (x : Str) : reprQuote x = 39 ∨ reprQuote x = 34 := by
  unfold reprQuote
  split
  · exact .inr rfl
  · exact .inl rfl
theorem text_inj {x y : Str} {s t : List Nat} (hx : (cp x).all ascC = true) (hy : (cp y).all ascC = true) (e : cp (reprText x) ++ s = cp (reprText y) ++ t) : x = y ∧ s = t := by
  rw [cp_repr, cp_repr] at e
  obtain ⟨e1, e2⟩ := List.cons.inj (show reprQuote x :: (((cp x).flatMap (Builtin.Str.reprChar (reprQuote x)) ++ [reprQuote x]) ++ s) = reprQuote y :: (((cp y).flatMap (Builtin.Str.reprChar (reprQuote y)) ++ [reprQuote y]) ++ t) from e)
  rw [← e1, List.append_assoc, List.append_assoc] at e2
  obtain ⟨h1, h2⟩ := body_inj (quote_is x) hx hy e2
  exact ⟨cp_inj h1, h2⟩

/-! lists, tuples -/
def tailS : List Dt → List Nat
  | [] => []
  | x :: xs => 44 :: 32 :: (cp x.shown ++ tailS xs)
def headS : List Dt → List Nat
  | [] => []
  | x :: xs => cp x.shown ++ tailS xs
theorem join_tail : ∀ (x : Dt) (xs : List Dt), cp (Str.join ", " (PyData.shownAll (x :: xs))) = cp x.shown ++ tailS xs
  | x, [] => by
    show cp x.shown = _
    rw [tailS, List.append_nil]
  | x, y :: xs => by
    show cp (x.shown ++ ", " ++ Str.join ", " (PyData.shownAll (y :: xs))) = _
    rw [cp_cat, cp_cat, join_tail y xs, tailS, List.append_assoc]
    rfl
theorem join_head (xs : List Dt) : cp (Str.join ", " (PyData.shownAll xs)) = headS xs := by
  cases xs with
  | nil => rfl
  | cons x xs => exact join_tail x xs
theorem cp_list (xs : List Dt) : cp (PyData.list xs).shown = 91 :: (headS xs ++ [93]) := by
  rw [PyData.shown, listText_eq_join, cp_cat, cp_cat, join_head]
  rfl
theorem cp_tuple (xs : List Dt) : cp (PyData.tuple xs).shown = 40 :: (headS xs ++ (if xs.length = 1 then [44, 41] else [41])) := by
  rw [PyData.shown]
  unfold tupleText
  rw [cp_cat, cp_cat, join_head, PyData.shownAll_length]
  by_cases h : xs.length = 1
  · rw [if_pos h, if_pos (by simpa using h)]
    rfl
  · rw [if_neg h, if_neg (by simpa using h)]
    rfl
theorem cp_dict (es : List (Dt × Dt)) : ∃ r, cp (PyData.dict es).shown = 123 :: r := by
  rw [PyData.shown]
  unfold dictText
  rw [cp_cat, cp_cat]
  exact ⟨_, rfl⟩
/-- the first sign tells the kind -/
def kindC : Dt → Nat → Prop
  | .none, c => c = 78
  | .bool true, c => c = 84
  | .bool false, c => c = 70
  | .int _, c => numC c
  | .str _, c => c = 39 ∨ c = 34
  | .list _, c => c = 91
  | .tuple _, c => c = 40
  | .dict _, c => c = 123
theorem first_of (d : Dt) : ∃ c r, cp d.shown = c :: r ∧ kindC d c := by
  cases d with
  | none => exact ⟨78, _, rfl, rfl⟩
  | bool b =>
    cases b with
    | true => exact ⟨84, _, rfl, rfl⟩
    | false => exact ⟨70, _, rfl, rfl⟩
  | int i => exact int_ne i
  | str x => exact ⟨_, _, cp_repr x, quote_is x⟩
  | list xs => exact ⟨_, _, cp_list xs, rfl⟩
  | tuple xs => exact ⟨_, _, cp_tuple xs, rfl⟩
  | dict es => obtain ⟨r, e⟩ := cp_dict es; exact ⟨_, r, e, rfl⟩
theorem first_not {d : Dt} {c : Nat} {s r : List Nat} (e : cp d.shown ++ s = c :: r) : kindC d c := by
  obtain ⟨c', r', h1, h2⟩ := first_of d
  rw [h1] at e
  have := (List.cons.inj e).1
  rw [← this]
  exact h2
def Cls2 (s : List Nat) : Prop := ∃ r, s = 93 :: r ∨ s = 41 :: r ∨ s = 44 :: 41 :: r
theorem Cls2.dlm {s : List Nat} (h : Cls2 s) : Dlm s := by
  obtain ⟨r, rfl | rfl | rfl⟩ := h <;> exact dlm_cons (by omega)
theorem tail_dlm (xs : List Dt) {s : List Nat} (h : Cls2 s) : Dlm (tailS xs ++ s) := by
  cases xs with
  | nil => exact h.dlm
  | cons x xs => exact dlm_cons (.inl rfl)
theorem cls_end (xs : List Dt) (s : List Nat) : Cls2 ((if xs.length = 1 then [44, 41] else [41]) ++ s) := by
  by_cases h : xs.length = 1
  · rw [if_pos h]; exact ⟨s, .inr (.inr rfl)⟩
  · rw [if_neg h]; exact ⟨s, .inr (.inl rfl)⟩
theorem tail_cls {x : Dt} {xs : List Dt} {s t : List Nat} (h : Cls2 s) (e : s = tailS (x :: xs) ++ t) : False := by
  have e : s = 44 :: 32 :: (cp x.shown ++ tailS xs ++ t) := e
  obtain ⟨r, h | h | h⟩ := h <;> rw [h] at e
  · exact absurd (List.cons.inj e).1 (by decide)
  · exact absurd (List.cons.inj e).1 (by decide)
  · exact absurd (List.cons.inj (List.cons.inj e).2).1 (by decide)
theorem kind_not {d : Dt} {c : Nat} (h : kindC d c) : c ≠ 93 ∧ c ≠ 41 ∧ c ≠ 44 := by
  cases d with
  | bool b => cases b <;> (have h : c = _ := h; omega)
  | int _ => have h : c = 45 ∨ (48 ≤ c ∧ c ≤ 57) := h; omega
  | str _ => have h : c = 39 ∨ c = 34 := h; omega
  | none => have h : c = 78 := h; omega
  | list _ => have h : c = 91 := h; omega
  | tuple _ => have h : c = 40 := h; omega
  | dict _ => have h : c = 123 := h; omega
theorem cls_not {s r : List Nat} {d : Dt} (h : Cls2 s) (e : s = cp d.shown ++ r) : False := by
  obtain ⟨q, h | h | h⟩ := h <;> (rw [h] at e; have k := kind_not (first_not e.symm); omega)
mutual
theorem shown_read : ∀ (d e : Dt) (s t : List Nat), asc d = true → d.hasDict = false → asc e = true → Dlm s → Dlm t → cp d.shown ++ s = cp e.shown ++ t → d = e ∧ s = t
  | d, e, s, t, hd, hn, he, hs, ht, h => by
    have k1 : ∃ c r, cp e.shown ++ t = c :: r ∧ kindC e c := by
      obtain ⟨c, r, h1, h2⟩ := first_of e
      exact ⟨c, r ++ t, by rw [h1]; rfl, h2⟩
    obtain ⟨c, r, k2, k3⟩ := k1
    have k4 : kindC d c := first_not (h.trans k2)
    match d, e with
    | .none, .none => exact ⟨rfl, List.append_cancel_left h⟩
    | .bool true, .bool true => exact ⟨rfl, List.append_cancel_left h⟩
    | .bool false, .bool false => exact ⟨rfl, List.append_cancel_left h⟩
    | .int i, .int j =>
      obtain ⟨h1, h2⟩ := split_at (int_numC i) (int_numC j) (dlm_num hs) (dlm_num ht) h
      exact ⟨by rw [int_inj h1], h2⟩
    | .str x, .str y =>
      obtain ⟨h1, h2⟩ := text_inj (by simpa only [asc] using hd) (by simpa only [asc] using he) h
      exact ⟨by rw [h1], h2⟩
    | .list xs, .list ys =>
      rw [cp_list, cp_list] at h
      obtain ⟨_, h⟩ := List.cons.inj (show 91 :: ((headS xs ++ [93]) ++ s) = 91 :: ((headS ys ++ [93]) ++ t) from h)
      rw [List.append_assoc, List.append_assoc] at h
      obtain ⟨h1, h2⟩ := head_read xs ys ([93] ++ s) ([93] ++ t) (by simpa only [asc] using hd) (by simpa only [PyData.hasDict] using hn) (by simpa only [asc] using he) ⟨s, .inl rfl⟩ ⟨t, .inl rfl⟩ h
      exact ⟨by rw [h1], List.append_cancel_left h2⟩
    | .tuple xs, .tuple ys =>
      rw [cp_tuple, cp_tuple] at h
      obtain ⟨_, h⟩ := List.cons.inj (show 40 :: ((headS xs ++ _) ++ s) = 40 :: ((headS ys ++ _) ++ t) from h)
      rw [List.append_assoc, List.append_assoc] at h
      obtain ⟨h1, h2⟩ := head_read xs ys _ _ (by simpa only [asc] using hd) (by simpa only [PyData.hasDict] using hn) (by simpa only [asc] using he) (cls_end xs s) (cls_end ys t) h
      rw [h1] at h2
      exact ⟨by rw [h1], List.append_cancel_left h2⟩
    | .dict es, _ => rw [PyData.hasDict] at hn; cases hn
    | .none, .bool b => cases b <;> (have k3 : c = _ := k3; have k4 : c = _ := k4; omega)
    | .none, .int _ => have k3 : c = 45 ∨ (48 ≤ c ∧ c ≤ 57) := k3; have k4 : c = 78 := k4; omega
    | .none, .str _ => have k3 : c = 39 ∨ c = 34 := k3; have k4 : c = 78 := k4; omega
    | .none, .list _ => have k3 : c = 91 := k3; have k4 : c = 78 := k4; omega
    | .none, .tuple _ => have k3 : c = 40 := k3; have k4 : c = 78 := k4; omega
    | .none, .dict _ => have k3 : c = 123 := k3; have k4 : c = 78 := k4; omega
    | .bool b, .none => cases b <;> (have k3 : c = _ := k3; have k4 : c = _ := k4; omega)
    | .bool true, .bool false => have k3 : c = 70 := k3; have k4 : c = 84 := k4; omega
    | .bool false, .bool true => have k3 : c = 84 := k3; have k4 : c = 70 := k4; omega
    | .bool b, .int _ => have k3 : c = 45 ∨ (48 ≤ c ∧ c ≤ 57) := k3; cases b <;> (have k4 : c = _ := k4; omega)
    | .bool b, .str _ => have k3 : c = 39 ∨ c = 34 := k3; cases b <;> (have k4 : c = _ := k4; omega)
    | .bool b, .list _ => have k3 : c = 91 := k3; cases b <;> (have k4 : c = _ := k4; omega)
    | .bool b, .tuple _ => have k3 : c = 40 := k3; cases b <;> (have k4 : c = _ := k4; omega)
    | .bool b, .dict _ => have k3 : c = 123 := k3; cases b <;> (have k4 : c = _ := k4; omega)
    | .int _, .none => have k4 : c = 45 ∨ (48 ≤ c ∧ c ≤ 57) := k4; have k3 : c = 78 := k3; omega
    | .int _, .bool b => have k4 : c = 45 ∨ (48 ≤ c ∧ c ≤ 57) := k4; cases b <;> (have k3 : c = _ := k3; omega)
    | .int _, .str _ => have k4 : c = 45 ∨ (48 ≤ c ∧ c ≤ 57) := k4; have k3 : c = 39 ∨ c = 34 := k3; omega
    | .int _, .list _ => have k4 : c = 45 ∨ (48 ≤ c ∧ c ≤ 57) := k4; have k3 : c = 91 := k3; omega
    | .int _, .tuple _ => have k4 : c = 45 ∨ (48 ≤ c ∧ c ≤ 57) := k4; have k3 : c = 40 := k3; omega
    | .int _, .dict _ => have k4 : c = 45 ∨ (48 ≤ c ∧ c ≤ 57) := k4; have k3 : c = 123 := k3; omega
    | .str _, .none => have k4 : c = 39 ∨ c = 34 := k4; have k3 : c = 78 := k3; omega
    | .str _, .bool b => have k4 : c = 39 ∨ c = 34 := k4; cases b <;> (have k3 : c = _ := k3; omega)
    | .str _, .int _ => have k4 : c = 39 ∨ c = 34 := k4; have k3 : c = 45 ∨ (48 ≤ c ∧ c ≤ 57) := k3; omega
    | .str _, .list _ => have k4 : c = 39 ∨ c = 34 := k4; have k3 : c = 91 := k3; omega
    | .str _, .tuple _ => have k4 : c = 39 ∨ c = 34 := k4; have k3 : c = 40 := k3; omega
    | .str _, .dict _ => have k4 : c = 39 ∨ c = 34 := k4; have k3 : c = 123 := k3; omega
    | .list _, .none => have k4 : c = 91 := k4; have k3 : c = 78 := k3; omega
    | .list _, .bool b => have k4 : c = 91 := k4; cases b <;> (have k3 : c = _ := k3; omega)
    | .list _, .int _ => have k4 : c = 91 := k4; have k3 : c = 45 ∨ (48 ≤ c ∧ c ≤ 57) := k3; omega
    | .list _, .str _ => have k4 : c = 91 := k4; have k3 : c = 39 ∨ c = 34 := k3; omega
    | .list _, .tuple _ => have k4 : c = 91 := k4; have k3 : c = 40 := k3; omega
    | .list _, .dict _ => have k4 : c = 91 := k4; have k3 : c = 123 := k3; omega
    | .tuple _, .none => have k4 : c = 40 := k4; have k3 : c = 78 := k3; omega
    | .tuple _, .bool b => have k4 : c = 40 := k4; cases b <;> (have k3 : c = _ := k3; omega)
    | .tuple _, .int _ => have k4 : c = 40 := k4; have k3 : c = 45 ∨ (48 ≤ c ∧ c ≤ 57) := k3; omega
    | .tuple _, .str _ => have k4 : c = 40 := k4; have k3 : c = 39 ∨ c = 34 := k3; omega
    | .tuple _, .list _ => have k4 : c = 40 := k4; have k3 : c = 91 := k3; omega
    | .tuple _, .dict _ => have k4 : c = 40 := k4; have k3 : c = 123 := k3; omega
theorem head_read : ∀ (xs ys : List Dt) (s t : List Nat), ascs xs = true → PyData.hasDictAll xs = false → ascs ys = true → Cls2 s → Cls2 t → headS xs ++ s = headS ys ++ t → xs = ys ∧ s = t
  | [], [], s, t, _, _, _, _, _, h => ⟨rfl, h⟩
  | [], y :: ys, s, t, _, _, _, hs, _, h => by
    exfalso
    have h : s = cp y.shown ++ tailS ys ++ t := h
    rw [List.append_assoc] at h
    exact cls_not hs h
  | x :: xs, [], s, t, _, _, _, _, ht, h => by
    exfalso
    have h : cp x.shown ++ tailS xs ++ s = t := h
    rw [List.append_assoc] at h
    exact cls_not ht h.symm
  | x :: xs, y :: ys, s, t, hx, hn, hy, hs, ht, h => by
    have hx' : asc x = true ∧ ascs xs = true := by simpa only [ascs, Bool.and_eq_true] using hx
    have hy' : asc y = true ∧ ascs ys = true := by simpa only [ascs, Bool.and_eq_true] using hy
    have hn' : x.hasDict = false ∧ PyData.hasDictAll xs = false := by simpa only [PyData.hasDictAll, Bool.or_eq_false_iff] using hn
    have h : cp x.shown ++ tailS xs ++ s = cp y.shown ++ tailS ys ++ t := h
    rw [List.append_assoc, List.append_assoc] at h
    obtain ⟨h1, h2⟩ := shown_read x y _ _ hx'.1 hn'.1 hy'.1 (tail_dlm xs hs) (tail_dlm ys ht) h
    obtain ⟨h3, h4⟩ := tail_read xs ys s t hx'.2 hn'.2 hy'.2 hs ht h2
    exact ⟨by rw [h1, h3], h4⟩
theorem tail_read : ∀ (xs ys : List Dt) (s t : List Nat), ascs xs = true → PyData.hasDictAll xs = false → ascs ys = true → Cls2 s → Cls2 t → tailS xs ++ s = tailS ys ++ t → xs = ys ∧ s = t
  | [], [], s, t, _, _, _, _, _, h => ⟨rfl, h⟩
  | [], y :: ys, s, t, _, _, _, hs, _, h => (tail_cls hs h).elim
  | x :: xs, [], s, t, _, _, _, _, ht, h => (tail_cls ht h.symm).elim
  | x :: xs, y :: ys, s, t, hx, hn, hy, hs, ht, h => by
    have hx' : asc x = true ∧ ascs xs = true := by simpa only [ascs, Bool.and_eq_true] using hx
    have hy' : asc y = true ∧ ascs ys = true := by simpa only [ascs, Bool.and_eq_true] using hy
    have hn' : x.hasDict = false ∧ PyData.hasDictAll xs = false := by simpa only [PyData.hasDictAll, Bool.or_eq_false_iff] using hn
    have h : 44 :: 32 :: (cp x.shown ++ tailS xs ++ s) = 44 :: 32 :: (cp y.shown ++ tailS ys ++ t) := h
    have h := (List.cons.inj (List.cons.inj h).2).2
    rw [List.append_assoc, List.append_assoc] at h
    obtain ⟨h1, h2⟩ := shown_read x y _ _ hx'.1 hn'.1 hy'.1 (tail_dlm xs hs) (tail_dlm ys ht) h
    obtain ⟨h3, h4⟩ := tail_read xs ys s t hx'.2 hn'.2 hy'.2 hs ht h2
    exact ⟨by rw [h1, h3], h4⟩
end
/-- repr tells data of plain signs apart -/
theorem shown_inj {d e : Dt} (hd : asc d = true) (hn : d.hasDict = false) (he : asc e = true) (h : d.shown = e.shown) : d = e :=
  (shown_read d e [] [] hd hn he dlm_nil dlm_nil (by rw [h])).1
end Dl
namespace Dl
open PySem PySem.Spec L2
open PyProof.Rows hiding St
/-! ### data of bounded size: shown, of plain signs -/
structure Oq (w h : Nat) (d : Dt) : Prop where
  sh : d.showable = true
  ls : d.leavesShort 45 = true
  as : asc d = true
  w : d.weight ≤ w
  h : d.depth ≤ h
theorem Oq.more {w h w' h' : Nat} {d : Dt} (o : Oq w h d) (hw : w ≤ w') (hh : h ≤ h') : Oq w' h' d := ⟨o.sh, o.ls, o.as, Nat.le_trans o.w hw, Nat.le_trans o.h hh⟩
/-- .. told by reckoning -/
def oqB (w h : Nat) (d : Dt) : Bool := d.showable && (d.leavesShort 45 && (asc d && (decide (d.weight ≤ w) && decide (d.depth ≤ h))))
theorem oq_of {w h : Nat} {d : Dt} (z : oqB w h d = true) : Oq w h d := by
  unfold oqB at z
  rw [Bool.and_eq_true, Bool.and_eq_true, Bool.and_eq_true, Bool.and_eq_true, decide_eq_true_eq, decide_eq_true_eq] at z
  exact ⟨z.1, z.2.1, z.2.2.1, z.2.2.2.1, z.2.2.2.2⟩
theorem oqs_of {w h : Nat} {ds : List Dt} (z : ds.all (oqB w h) = true) : ∀ d ∈ ds, Oq w h d := fun d hd => oq_of (List.all_eq_true.mp z d hd)
theorem Oq.good {w h : Nat} {d : Dt} (o : Oq w h d) (hw : w ≤ 300000) (hh : h ≤ 50) : goodD d = true := by
  unfold goodD
  rw [o.sh, o.ls, decide_eq_true (Nat.le_trans o.w hw), decide_eq_true (Nat.le_trans o.h hh)]
  rfl
/-- all of a list -/
structure Oqs (w h : Nat) (ds : List Dt) : Prop where
  sh : PyData.showableAll ds = true
  ls : PyData.leavesShortAll 45 ds = true
  as : ascs ds = true
  w : PyData.weightAll ds ≤ w
  h : PyData.depthAll ds ≤ h
theorem Oqs.nil {w h : Nat} : Oqs w h [] := ⟨rfl, rfl, rfl, Nat.zero_le _, Nat.zero_le _⟩
theorem Oqs.cons {w w' h : Nat} {d : Dt} {ds : List Dt} (a : Oq w h d) (b : Oqs w' h ds) : Oqs (w + 1 + w') h (d :: ds) := by
  refine ⟨?_, ?_, ?_, ?_, ?_⟩
  · simp only [PyData.showableAll, a.sh, b.sh, Bool.and_self]
  · simp only [PyData.leavesShortAll, a.ls, b.ls, Bool.and_self]
  · simp only [ascs, a.as, b.as, Bool.and_self]
  · have h1 := a.w
    have h2 := b.w
    simp only [PyData.weightAll]
    omega
  · have h1 := a.h
    have h2 := b.h
    simp only [PyData.depthAll]
    omega
theorem Oqs.more {w h w' h' : Nat} {d : List Dt} (o : Oqs w h d) (hw : w ≤ w') (hh : h ≤ h') : Oqs w' h' d := ⟨o.sh, o.ls, o.as, Nat.le_trans o.w hw, Nat.le_trans o.h hh⟩
theorem Oqs.of {w h : Nat} : ∀ {ds : List Dt}, (∀ d ∈ ds, Oq w h d) → Oqs (ds.length * (w + 1)) h ds
  | [], _ => .nil
  | d :: ds, hd => by
    have := Oqs.cons (hd d List.mem_cons_self) (Oqs.of fun x hx => hd x (List.mem_cons_of_mem _ hx))
    refine this.more ?_ (Nat.le_refl _)
    rw [List.length_cons, Nat.succ_mul]
    omega
theorem Oqs.mem {w h : Nat} : ∀ {ds : List Dt}, Oqs w h ds → ∀ d ∈ ds, Oq w h d
  | [], _, _, hd => nomatch hd
  | x :: ds, o, d, hd => by
    have h1 : x.showable = true ∧ PyData.showableAll ds = true := by simpa only [PyData.showableAll, Bool.and_eq_true] using o.sh
    have h2 : x.leavesShort 45 = true ∧ PyData.leavesShortAll 45 ds = true := by simpa only [PyData.leavesShortAll, Bool.and_eq_true] using o.ls
    have h3 : asc x = true ∧ ascs ds = true := by simpa only [ascs, Bool.and_eq_true] using o.as
    have h4 := o.w
    have h5 := o.h
    simp only [PyData.weightAll] at h4
    simp only [PyData.depthAll] at h5
    rcases List.mem_cons.mp hd with rfl | hd
    · exact ⟨h1.1, h2.1, h3.1, by omega, by omega⟩
    · exact Oqs.mem ⟨h1.2, h2.2, h3.2, by omega, by omega⟩ d hd
theorem Oq.tup {w h : Nat} {ds : List Dt} (o : Oqs w h ds) : Oq w (h + 1) (.tuple ds) :=
  ⟨by simpa only [PyData.showable] using o.sh, by simpa only [PyData.leavesShort] using o.ls, by simpa only [asc] using o.as, by simpa only [PyData.weight] using o.w, by simpa only [PyData.depth] using Nat.succ_le_succ o.h⟩
theorem Oq.lst {w h : Nat} {ds : List Dt} (o : Oqs w h ds) : Oq w (h + 1) (.list ds) :=
  ⟨by simpa only [PyData.showable] using o.sh, by simpa only [PyData.leavesShort] using o.ls, by simpa only [asc] using o.as, by simpa only [PyData.weight] using o.w, by simpa only [PyData.depth] using Nat.succ_le_succ o.h⟩
theorem Oq.parts {w h : Nat} {ds : List Dt} (o : Oq w h (.tuple ds)) : Oqs w (h - 1) ds := by
  have h5 := o.h
  simp only [PyData.depth] at h5
  exact ⟨by simpa only [PyData.showable] using o.sh, by simpa only [PyData.leavesShort] using o.ls, by simpa only [asc] using o.as, by simpa only [PyData.weight] using o.w, by omega⟩
theorem Oq.items {w h : Nat} {ds : List Dt} (o : Oq w h (.list ds)) : Oqs w (h - 1) ds := by
  have h5 := o.h
  simp only [PyData.depth] at h5
  exact ⟨by simpa only [PyData.showable] using o.sh, by simpa only [PyData.leavesShort] using o.ls, by simpa only [asc] using o.as, by simpa only [PyData.weight] using o.w, by omega⟩
theorem Oqs.app {w w' h : Nat} : ∀ {ds es : List Dt}, Oqs w h ds → Oqs w' h es → Oqs (w + w') h (ds ++ es)
  | [], es, _, b => b.more (by omega) (Nat.le_refl _)
  | d :: ds, es, a, b => by
    have h1 : d.showable = true ∧ PyData.showableAll ds = true := by simpa only [PyData.showableAll, Bool.and_eq_true] using a.sh
    have h2 : d.leavesShort 45 = true ∧ PyData.leavesShortAll 45 ds = true := by simpa only [PyData.leavesShortAll, Bool.and_eq_true] using a.ls
    have h3 : asc d = true ∧ ascs ds = true := by simpa only [ascs, Bool.and_eq_true] using a.as
    have h4 := a.w
    have h5 := a.h
    simp only [PyData.weightAll] at h4
    simp only [PyData.depthAll] at h5
    have z := Oqs.app (w := w - (d.weight + 1)) (ds := ds) (es := es) ⟨h1.2, h2.2, h3.2, by omega, by omega⟩ b
    have y := Oqs.cons (w := d.weight) (h := h) (d := d) ⟨h1.1, h2.1, h3.1, Nat.le_refl _, by omega⟩ z
    exact y.more (by omega) (Nat.le_refl _)
theorem Oqs.app' {w w' h : Nat} {ds es : List Dt} (a : Oqs w h (ds ++ es)) : Oqs w h ds ∧ Oqs w h es := by
  have key : ∀ {l : List Dt}, (∀ d ∈ l, Oq w h d) → PyData.weightAll l ≤ w → Oqs w h l := fun {l} hl hw => by
    have z := Oqs.of hl
    exact ⟨z.sh, z.ls, z.as, hw, z.h⟩
  have wa : ∀ l m : List Dt, PyData.weightAll (l ++ m) = PyData.weightAll l + PyData.weightAll m := fun l m => by
    induction l with
    | nil => simp [PyData.weightAll]
    | cons x l ih => rw [List.cons_append, PyData.weightAll, PyData.weightAll, ih]; omega
  have hw := a.w
  rw [wa] at hw
  exact ⟨key (fun d hd => a.mem d (List.mem_append_left _ hd)) (by omega), key (fun d hd => a.mem d (List.mem_append_right _ hd)) (by omega)⟩
theorem Oqs.weight_app (l m : List Dt) : PyData.weightAll (l ++ m) = PyData.weightAll l + PyData.weightAll m := by
  induction l with
  | nil => simp [PyData.weightAll]
  | cons x l ih => rw [List.cons_append, PyData.weightAll, PyData.weightAll, ih]; omega
/-- a bounded text of plain signs -/
theorem Oq.str {x : Str} {B : Nat} (h1 : x.length ≤ B) (h2 : (cp x).all ascC = true) : Oq B 0 (.str x) := by
  refine ⟨by simp [PyData.showable], ?_, by simpa only [asc] using h2, by simpa [PyData.weight, Str.length] using h1, by simp [PyData.depth]⟩
  simp only [PyData.leavesShort, List.all_eq_true, decide_eq_true_eq]
  intro c hc
  have := List.all_eq_true.mp h2 c hc
  unfold ascC at this
  simp only [Bool.or_eq_true, beq_iff_eq, Bool.and_eq_true, decide_eq_true_eq] at this
  have e : (16 : Nat) ^ 8 = 4294967296 := by decide
  omega
theorem Oq.len {w h : Nat} {x : Str} (o : Oq w h (.str x)) : x.length ≤ w := by
  have := o.w
  simpa [PyData.weight, Str.length] using this
theorem Oq.signs {w h : Nat} {x : Str} (o : Oq w h (.str x)) : (cp x).all ascC = true := by simpa only [asc] using o.as
theorem Oq.txs {w h : Nat} {x : Str} (o : Oq w h (.str x)) : Txs w x := ⟨o.len, fun c hc => by
  have := List.all_eq_true.mp o.signs c hc
  unfold ascC at this
  simp only [Bool.or_eq_true, beq_iff_eq, Bool.and_eq_true, decide_eq_true_eq] at this
  omega⟩
theorem len_ofString (x : String) : (Str.ofString x).length = x.length := by
  have h : (Str.ofString x).cps.toList.length = x.toList.length := by rw [signs_ofString, List.length_map]
  rw [Array.length_toList] at h
  rw [← String.length_toList]
  exact h
/-- whole numbers -/
theorem Oq.int {i : Int} (h : i.natAbs < 10 ^ 40) : Oq 140 0 (.int i) := by
  have h2 : i.natAbs < 2 ^ 134 := Nat.lt_of_lt_of_le h (by decide)
  have h3 : i.natAbs = 0 ∨ i.natAbs.log2 < 134 := by
    by_cases z : i.natAbs = 0
    · exact .inl z
    · exact .inr ((Nat.log2_lt z).mpr h2)
  refine ⟨?_, ?_, rfl, ?_, by simp [PyData.depth]⟩
  · simp only [PyData.showable, decide_eq_true_eq]
    rcases h3 with h3 | h3
    · rw [h3]; decide
    · omega
  · have z := int_text_length_le10 (a := i) (k := 40) (by decide) h
    have e : (Str.ofString (toString i)).length ≤ 45 := by
      rw [len_ofString]
      omega
    simp only [PyData.leavesShort, PyData.shown]
    exact decide_eq_true e
  · simp only [PyData.weight]
    split
    · omega
    · rcases h3 with h3 | h3
      · rw [h3]; decide
      · omega
theorem Oq.bool (b : Bool) : Oq 0 0 (.bool b) := by cases b <;> exact oq_of (by decide +kernel)
theorem Oq.none : Oq 0 0 .none := oq_of (by decide +kernel)
/-- repr of two things: equal just for equal ones -/
theorem shown_eq {w h w' h' : Nat} {d e : Dt} (a : Oq w h d) (n : d.hasDict = false) (b : Oq w' h' e) : (d.shown == e.shown) = true ↔ d = e := by
  rw [beq_iff_eq]
  exact ⟨fun z => shown_inj a.as n b.as z, fun z => by rw [z]⟩
end Dl
namespace Dl
open PySem PySem.Spec L2
open PyProof.Rows hiding St
/-! ### worths: what is what, in plain words -/
def letters : Str := "abcdefghijklmnopqrstuvwxyz"
def isWhole : Dt → Bool
  | .none => false | .bool _ => false | .int _ => true | .str _ => false | .list _ => false | .tuple _ => false | .dict _ => false
def isName : Dt → Bool
  | .none => false | .bool _ => false | .int _ => false | .list _ => false | .tuple _ => false | .dict _ => false
  | .str x => decide (1 ≤ (x.length : Int)) && decide ((x.length : Int) ≤ 8) && (charsD x).all fun d => inV' d (.str letters)
def ordD : Dt → Nat
  | .str x => x.cps.getD 0 0
  | _ => 0
def okSign (d : Dt) : Bool := decide (32 ≤ (ordD d : Int)) && decide ((ordD d : Int) ≤ 126) && !inD (.int (ordD d : Nat)) [.int 37, .int 39]
def isText : Dt → Bool
  | .none => false | .bool _ => false | .int _ => false | .list _ => false | .tuple _ => false | .dict _ => false
  | .str x => decide ((x.length : Int) ≤ 20) && (charsD x).all okSign
def rowOf : Dt → Option (List Dt)
  | .tuple [.str x, .tuple ps] => if x = ("row" : Str) then some ps else none
  | _ => none
def isRowD (d : Dt) : Bool := (rowOf d).isSome
def great (i : Int) : Bool := decide (0 ≤ i) && decide (i ≤ 1000000000000000)
def isNamed : Dt → Bool
  | .tuple [.str x, .int i] => decide (x = ("thing" : Str)) && great i
  | .tuple [.str x, y, z] => (decide (x = ("deed" : Str)) || decide (x = ("kind" : Str))) && isName y && isName z
  | _ => false
def isBare : Dt → Bool
  | .none => true
  | .bool _ => true
  | .int i => decide (-1000000000000000 ≤ i) && decide (i ≤ 1000000000000000)
  | .str x => isText (.str x)
  | .list _ => false | .tuple _ => false | .dict _ => false
def leafGood (d : Dt) : Bool := isBare d || isNamed d
theorem rowOf_some {d : Dt} {ps : List Dt} (h : rowOf d = some ps) : d = .tuple [.str "row", .tuple ps] := by
  unfold rowOf at h
  split at h
  · split at h
    · rename_i e
      cases h
      rw [e]
    · cases h
  · cases h
theorem rowOf_row (ps : List Dt) : rowOf (.tuple [.str "row", .tuple ps]) = some ps := by
  show (if ("row" : Str) = ("row" : Str) then some ps else none) = some ps
  rw [if_pos rfl]
theorem rowOf_lt {d : Dt} {ps : List Dt} (h : rowOf d = some ps) : sizeOf ps < sizeOf d := by
  rw [rowOf_some h]
  simp
  omega
/-! parts, depth, width, leaves from the right -/
mutual
def nod (d : Dt) : Nat := match h : rowOf d with
  | none => 1
  | some ps => have := rowOf_lt h; 1 + nods ps
termination_by sizeOf d
def nods : List Dt → Nat
  | [] => 0
  | p :: ps => nod p + nods ps
termination_by ps => sizeOf ps
end
mutual
def dep (d : Dt) : Nat := match h : rowOf d with
  | none => 0
  | some ps => have := rowOf_lt h; 1 + deps ps
termination_by sizeOf d
def deps : List Dt → Nat
  | [] => 0
  | p :: ps => max (dep p) (deps ps)
termination_by ps => sizeOf ps
end
mutual
def wid (d : Dt) : Bool := match h : rowOf d with
  | none => true
  | some ps => have := rowOf_lt h; decide (ps.length ≤ 40) && wids ps
termination_by sizeOf d
def wids : List Dt → Bool
  | [] => true
  | p :: ps => wid p && wids ps
termination_by ps => sizeOf ps
end
mutual
def lv (d : Dt) : List Dt := match h : rowOf d with
  | none => [d]
  | some ps => have := rowOf_lt h; lvs ps
termination_by sizeOf d
def lvs : List Dt → List Dt
  | [] => []
  | p :: ps => lvs ps ++ lv p
termination_by ps => sizeOf ps
end
theorem nod_leaf {d : Dt} (h : rowOf d = none) : nod d = 1 := by rw [nod]; split <;> simp_all
theorem nod_row {d : Dt} {ps : List Dt} (h : rowOf d = some ps) : nod d = 1 + nods ps := by rw [nod]; split <;> simp_all
theorem dep_leaf {d : Dt} (h : rowOf d = none) : dep d = 0 := by rw [dep]; split <;> simp_all
theorem dep_row {d : Dt} {ps : List Dt} (h : rowOf d = some ps) : dep d = 1 + deps ps := by rw [dep]; split <;> simp_all
theorem wid_leaf {d : Dt} (h : rowOf d = none) : wid d = true := by rw [wid]; split <;> simp_all
theorem wid_row {d : Dt} {ps : List Dt} (h : rowOf d = some ps) : wid d = (decide (ps.length ≤ 40) && wids ps) := by rw [wid]; split <;> simp_all
theorem lv_leaf {d : Dt} (h : rowOf d = none) : lv d = [d] := by rw [lv]; split <;> simp_all
theorem lv_row {d : Dt} {ps : List Dt} (h : rowOf d = some ps) : lv d = lvs ps := by rw [lv]; split <;> simp_all
theorem nod_pos (d : Dt) : 1 ≤ nod d := by
  cases h : rowOf d with
  | none => rw [nod_leaf h]; exact Nat.le_refl _
  | some ps => rw [nod_row h]; omega
/-- a worth within the bounds of number, depth and width -/
def inBounds (d : Dt) : Bool := decide (nod d ≤ 200) && (decide (dep d ≤ 8) && wid d)
def leavesD (d : Dt) : Dt := if inBounds d = true then .list (lv d) else .none
def isWorth (d : Dt) : Bool := inBounds d && (lv d).all leafGood
def isPlain (d : Dt) : Bool := inBounds d && (lv d).all isBare

/-! the pile of what waits: the top is the last -/
def pileN : List (Dt × Nat) → Nat
  | [] => 0
  | p :: r => nod p.1 + pileN r
def fits (p : Dt × Nat) : Bool := decide (dep p.1 + p.2 ≤ 8) && wid p.1
def pileL : List (Dt × Nat) → List Dt
  | [] => []
  | p :: r => pileL r ++ lv p.1
/-- what comes of it in the end -/
def fin (ws : List (Dt × Nat)) (many : Nat) (found : List Dt) : Dt := if (decide (many + pileN ws ≤ 200) && ws.all fits) = true then .list (found ++ pileL ws) else .none
theorem pileN_app (a b : List (Dt × Nat)) : pileN (a ++ b) = pileN a + pileN b := by
  induction a with
  | nil => simp [pileN]
  | cons p a ih => simp only [List.cons_append, pileN, ih]; omega
theorem pileL_app (a b : List (Dt × Nat)) : pileL (a ++ b) = pileL b ++ pileL a := by
  induction a with
  | nil => simp [pileL]
  | cons p a ih => simp only [List.cons_append, pileL, ih, List.append_assoc]
theorem pileN_map (k : Nat) : ∀ ps : List Dt, pileN (ps.map fun p => (p, k)) = nods ps
  | [] => by simp [pileN, nods]
  | p :: ps => by simp only [List.map_cons, pileN, nods, pileN_map k ps]
theorem pileL_map (k : Nat) : ∀ ps : List Dt, pileL (ps.map fun p => (p, k)) = lvs ps
  | [] => by simp [pileL, lvs]
  | p :: ps => by simp only [List.map_cons, pileL, lvs, pileL_map k ps]
theorem fits_map (k : Nat) (hk : k ≤ 8) : ∀ ps : List Dt, (ps.map fun p => (p, k)).all fits = (decide (deps ps + k ≤ 8) && wids ps)
  | [] => by simp [deps, wids]; omega
  | p :: ps => by
    rw [List.map_cons, List.all_cons, fits_map k hk ps, deps, wids]
    unfold fits
    have e : decide (max (dep p) (deps ps) + k ≤ 8) = (decide (dep p + k ≤ 8) && decide (deps ps + k ≤ 8)) := by
      rw [← Bool.decide_and]
      exact decide_eq_decide.mpr (by omega)
    rw [e]
    cases decide (dep p + k ≤ 8) <;> cases decide (deps ps + k ≤ 8) <;> cases wid p <;> cases wids ps <;> rfl
/-- one turn over a leaf -/
theorem fin_leaf {a : List (Dt × Nat)} {d : Dt} {k many : Nat} {found : List Dt} (h : rowOf d = none) (hk : k ≤ 8) : fin (a ++ [(d, k)]) many found = fin a (many + 1) (found ++ [d]) := by
  unfold fin
  have e1 : many + pileN (a ++ [(d, k)]) = many + 1 + pileN a := by rw [pileN_app, pileN, pileN, nod_leaf h]; omega
  have e2 : (a ++ [(d, k)]).all fits = a.all fits := by
    have z : fits (d, k) = true := by
      unfold fits
      rw [dep_leaf h, wid_leaf h, Nat.zero_add, decide_eq_true hk]
      rfl
    rw [List.all_append, List.all_cons, List.all_nil, z, Bool.and_true, Bool.and_true]
  have e3 : found ++ pileL (a ++ [(d, k)]) = found ++ [d] ++ pileL a := by rw [pileL_app, pileL, pileL, List.nil_append, lv_leaf h, List.append_assoc]
  rw [e1, e2, e3]
theorem fin_row {a : List (Dt × Nat)} {d : Dt} {ps : List Dt} {k many : Nat} {found : List Dt} (h : rowOf d = some ps) (hk : k < 8) (hw : ps.length ≤ 40) :
    fin (a ++ [(d, k)]) many found = fin (a ++ ps.map fun p => (p, k + 1)) (many + 1) found := by
  unfold fin
  have e1 : many + pileN (a ++ [(d, k)]) = many + 1 + pileN (a ++ ps.map fun p => (p, k + 1)) := by
    rw [pileN_app, pileN_app, pileN_map, pileN, pileN, nod_row h]
    omega
  have e2 : (a ++ [(d, k)]).all fits = (a ++ ps.map fun p => (p, k + 1)).all fits := by
    rw [List.all_append, List.all_append, fits_map (k + 1) (by omega), List.all_cons, List.all_nil, Bool.and_true]
    unfold fits
    rw [dep_row h, wid_row h, decide_eq_true hw, Bool.true_and]
    have e : decide (1 + deps ps + k ≤ 8) = decide (deps ps + (k + 1) ≤ 8) := decide_eq_decide.mpr (by omega)
    rw [e]
  have e3 : found ++ pileL (a ++ [(d, k)]) = found ++ pileL (a ++ ps.map fun p => (p, k + 1)) := by
    rw [pileL_app, pileL_app, pileL_map, pileL, pileL, List.nil_append, lv_row h]
  rw [e1, e2, e3]
theorem fin_deep {a : List (Dt × Nat)} {d : Dt} {ps : List Dt} {k many : Nat} {found : List Dt} (h : rowOf d = some ps) (hk : k = 8 ∨ 40 < ps.length) : fin (a ++ [(d, k)]) many found = .none := by
  unfold fin
  rw [if_neg]
  intro z
  rw [Bool.and_eq_true, List.all_append, Bool.and_eq_true, List.all_cons, Bool.and_eq_true] at z
  have y := z.2.2.1
  unfold fits at y
  rw [dep_row h, wid_row h, Bool.and_eq_true, decide_eq_true_eq, Bool.and_eq_true, decide_eq_true_eq] at y
  omega
theorem fin_many {a : List (Dt × Nat)} {p : Dt × Nat} {many : Nat} {found : List Dt} (h : 200 < many + 1) : fin (a ++ [p]) many found = .none := by
  unfold fin
  rw [if_neg]
  intro z
  rw [Bool.and_eq_true, decide_eq_true_eq, pileN_app, pileN, pileN] at z
  have := nod_pos p.1
  omega
theorem fin_nil {many : Nat} {found : List Dt} (h : many ≤ 200) : fin [] many found = .list found := by
  unfold fin
  rw [if_pos (by simp [pileN, h]), pileL, List.append_nil]
theorem fin_all (d : Dt) : fin [(d, 0)] 0 [] = leavesD d := by
  unfold fin leavesD inBounds
  have e : (decide (0 + pileN [(d, 0)] ≤ 200) && List.all [(d, 0)] fits) = (decide (nod d ≤ 200) && (decide (dep d ≤ 8) && wid d)) := by
    simp only [pileN, List.all_cons, List.all_nil, fits, Nat.zero_add, Nat.add_zero, Bool.and_true]
  rw [e]
  simp only [pileL, List.nil_append]
end Dl
namespace Dl
open PySem PySem.Spec L2
open PyProof.Rows hiding St
/-! ### a sum of lists is a list of one's own -/
def oCatL (d e : Dt) : Mv (List Dt) := match d, e with
  | .list xs, .list ys => grd (xs.length + ys.length ≤ sizeLine) (ret (xs ++ ys))
  | _, _ => bad
section
variable {X : Cx} {g : Gh} {a b c e : Expr} {es : List Expr} {pos : Pos} {ma mb mc : Me Dt}
theorem dn_plus (ha : DX X g a ma) (hb : DX X g b mb) : DN X g (.BinOp a .Add b pos) (fun δ => bnd (ma δ) fun x => bnd (mb δ) fun y => oCatL x y) := by
  obtain ⟨t, p, ha⟩ := ha
  obtain ⟨u, p2, hb⟩ := hb
  refine ⟨_, pe_op op_cat p p2, fun σ H F δ n Q Qd R q w => ?_⟩
  refine ha σ H F δ n _ _ R (fun v d F1 H1 n1 rb rp hq => ?_) w
  refine hb σ H1 F1 δ n1 _ _ (R.ext rb) (fun v2 d2 F2 H2 n2 rb2 rp2 hq2 => ?_) hq
  have rb3 := rb.trans rb2
  cases d with
  | list xs =>
    cases d2 with
    | list ys =>
      obtain ⟨a1, vs, rfl, h1, r1⟩ := (rp.ext rb2).lst rb3.sub
      obtain ⟨b1, us, rfl, h2, r2⟩ := rp2.lst rb3.sub
      refine ⟨a1, b1, vs, us, rfl, rfl, h1, h2, by rw [r1.length, r2.length]; exact hq2.1, fun p np => ?_⟩
      exact q p (vs ++ us) (xs ++ ys) F2 _ n2 (rb3.layH np) (rb3.old (fun b i => rb3.hand.there i) np) (free_of rb3.sub np) upd_same (r1.app r2) hq2.2
    | _ => exact hq2.elim
  | _ => exact hq2.elim
theorem cat_list (xs ys : List Dt) : oCatL (.list xs) (.list ys) = grd (xs.length + ys.length ≤ sizeLine) (ret (xs ++ ys)) := rfl
end
end Dl
namespace Dz
open PySem PySem.Spec
open PySem.Sem (wp)
open RZ
/-! ### zip(a, b, strict=True): lists or tuples, at the heap's level -/
def ItB (t : Bool) (h : Heap) (i l : Addr) (k : Nat) : Prop := match t with
  | true => h.IsListIter i l k
  | false => h.IsTupleIter i l k
def SeB (t : Bool) (h : Heap) (l : Addr) (xs : Array Value) : Prop := match t with
  | true => h.IsList l xs
  | false => h.IsTuple l xs
theorem ItB.extBut {t : Bool} {h h' : Heap} {a b l : Addr} {i : Nat} (x : ItB t h a l i) (hs : Heap.ExtBut b h h') (hab : a ≠ b) : ItB t h' a l i := by
  cases t with
  | true => exact Heap.IsListIter.extBut x hs hab
  | false => exact Heap.IsTupleIter.extBut x hs hab
theorem SeB.extBut {t : Bool} {h h' : Heap} {a b : Addr} {items : Array Value} (x : SeB t h a items) (hs : Heap.ExtBut b h h') (hab : a ≠ b) : SeB t h' a items := by
  cases t with
  | true => exact Heap.IsList.extBut x hs hab
  | false => exact Heap.IsTuple.extBut x hs hab
theorem ItB.at {t : Bool} {h h' : Heap} {a l : Addr} {i : Nat} (x : ItB t h a l i) (e : ∀ o, h.get? a = some o → h'.get? a = some o) : ItB t h' a l i := by
  cases t with
  | true => exact Heap.IsListIter.at x e
  | false => exact Heap.IsTupleIter.at x e
theorem ItB.obj {t : Bool} {h : Heap} {a l : Addr} {i : Nat} (x : ItB t h a l i) : ∃ o, h.get? a = some o ∧ ∀ v, o.data ≠ .cell v := by
  cases t with
  | true => obtain ⟨o, e, _, d⟩ := x; exact ⟨o, e, fun v q => by rw [d] at q; cases q⟩
  | false => obtain ⟨o, e, _, d⟩ := x; exact ⟨o, e, fun v q => by rw [d] at q; cases q⟩
abbrev IsZipS (h : Heap) (z TI TO : Addr) (f0 : Value) : Prop :=
  h.get? z = some { cls := .type "zip", dict := none, data := .fields #[f0, .bool false, .bool true, .ref TI, .ref TO], slots := #[] }
section
variable {prog : Program} {w : World} {A : Around} {E : Value → Shared → Prop} {s : Shared}
theorem nextOf_item {t : Bool} {it l : Addr} {i : Nat} {items : Array Value} {x : Value} {Q : Value → Shared → Prop} (hit : ItB t s.heap it l i) (hl : SeB t s.heap l items) (hx : items[i]? = some x)
    (hQ : ∀ h', ItB t h' it l (i + 1) → Heap.SameBut it s.heap h' → Q x { s with heap := h' }) : wpAny (model prog w) A (Builtin.SmallTypes.nextOf (.ref it)) Q E s := by
  cases t with
  | true => exact wpAny_nextOf_list_item hit hl hx hQ
  | false => exact nextOf_tuple_item hit hl hx hQ
theorem nextOf_end {t : Bool} {it l : Addr} {i : Nat} {items : Array Value} {Q : Value → Shared → Prop} (hh : A.handled = none) (hit : ItB t s.heap it l i) (hl : SeB t s.heap l items) (hx : items[i]? = none)
    (hE : ∀ h' e, Heap.ExtBut it s.heap h' → (∃ o, h'.get? e = some o ∧ o.cls = .type "StopIteration") → E (.ref e) { s with heap := h' }) : wpAny (model prog w) A (Builtin.SmallTypes.nextOf (.ref it)) Q E s := by
  cases t with
  | true => exact wpAny_nextOf_list_end hh hit hl hx hE
  | false => exact nextOf_tuple_end hh hit hl hx hE
theorem orEnd_item {t : Bool} {it l : Addr} {i : Nat} {items : Array Value} {x : Value} {Q : Option Value → Shared → Prop} (hit : ItB t s.heap it l i) (hl : SeB t s.heap l items) (hx : items[i]? = some x)
    (hQ : ∀ h', ItB t h' it l (i + 1) → Heap.SameBut it s.heap h' → Q (some x) { s with heap := h' }) : wpAny (model prog w) A (Builtin.SmallTypes.nextOrEnd (.ref it)) Q E s := by
  unfold Builtin.SmallTypes.nextOrEnd
  exact wpAny_bind (wpAny_attempt (nextOf_item hit hl hx fun h' a b => wpAny_pure (hQ h' a b)))
theorem orEnd_end {t : Bool} {it l : Addr} {i : Nat} {items : Array Value} {Q : Option Value → Shared → Prop} (hh : A.handled = none) (hit : ItB t s.heap it l i) (hl : SeB t s.heap l items) (hx : items[i]? = none)
    (hQ : ∀ h', Heap.ExtBut it s.heap h' → Q none { s with heap := h' }) : wpAny (model prog w) A (Builtin.SmallTypes.nextOrEnd (.ref it)) Q E s := by
  unfold Builtin.SmallTypes.nextOrEnd
  refine wpAny_bind (wpAny_attempt (nextOf_end hh hit hl hx fun h' e hs he => ?_))
  obtain ⟨o, ho, hc⟩ := he
  exact wpAny_bind (wpAny_isInstance (T := "StopIteration") (b := true) ⟨o, ho, hc⟩ isSubtype_stop (wpAny_pure (hQ h' hs)))

theorem zipS_next_item {t1 t2 : Bool} {z TI TO i1 i2 l1 l2 : Addr} {k1 k2 : Nat} {xs ys : Array Value} {x y a b : Value} {Q : Value → Shared → Prop} (D : ZipApart z TI TO i1 i2 l1 l2)
    (hz : IsZipS s.heap z TI TO .none) (hTI : IsPair s.heap TI (.ref i1) (.ref i2)) (hTO : IsPair s.heap TO a b)
    (h1 : ItB t1 s.heap i1 l1 k1) (h2 : ItB t2 s.heap i2 l2 k2) (hl1 : SeB t1 s.heap l1 xs) (hl2 : SeB t2 s.heap l2 ys) (hx : xs[k1]? = some x) (hy : ys[k2]? = some y)
    (hQ : ∀ h', IsZipS h' z TI TO (rawInt s.heap.objs.size) → IsPair h' TO x y → ItB t1 h' i1 l1 (k1 + 1) → ItB t2 h' i2 l2 (k2 + 1) → IsPair h' s.heap.objs.size x y → h'.objs.size = s.heap.objs.size + 1 →
      (∀ c o, c ≠ z → c ≠ TO → c ≠ i1 → c ≠ i2 → s.heap.get? c = some o → h'.get? c = some o) → Q (.ref s.heap.objs.size) { s with heap := h' }) :
    wpAny (model prog w) A (Builtin.«zip.__next__» ⟨[.ref z], []⟩) (fun fin s' => ∃ v, fin = .done (.ret v) ∧ Q v s') E s := by
  show wpAny _ _ (field (.ref z) 2 >>= _) _ _ _
  refine wpAny_bind (wpAny_field hz rfl (x := .bool true) rfl ?_)
  show wpAny _ _ (field (.ref z) 3 >>= _) _ _ _
  refine wpAny_bind (wpAny_field hz rfl (x := .ref TI) rfl ?_)
  refine wpAny_bind (wpAny_seqItems hTI rfl ?_)
  show wpAny _ _ (Builtin.SmallTypes.ownedTupleIsFree (.ref z) >>= _) _ _ _
  refine wpAny_bind ?_
  unfold Builtin.SmallTypes.ownedTupleIsFree
  refine wpAny_bind (wpAny_field hz rfl (x := .none) rfl (wpAny_pure ?_))
  simp only [if_true]
  refine wpAny_bind (wpAny_rule ?_)
  refine wpAny_bind (wpAny_field hz rfl (x := .ref TO) rfl ?_)
  refine wpAny_bind (wpAny_setField_rec hz (by simp) fun h₁ hz₁ hs₁ => ?_)
  replace hz₁ : IsZipS h₁ z TI TO .ellipsis := hz₁
  refine wpAny_bind ?_
  simp only [List.zipIdx_cons, List.zipIdx_nil, List.forIn_cons, List.forIn_nil]
  refine wpAny_bind (wpAny_bind (wpAny_onRaise ?_))
  show wpAny _ _ (Builtin.SmallTypes.nextOrEnd (.ref i1)) _ _ _
  refine (orEnd_item (h1.extBut hs₁.extBut D.i1z) (hl1.extBut hs₁.extBut D.l1z) hx fun h₂ h1₂ hs₂ => ?_)
  have hTO₂ : IsPair h₂ TO a b := hs₂.extBut _ _ D.TOi1 (hs₁.extBut _ _ D.TOz hTO)
  refine wpAny_bind (wpAny_seqItems hTO₂ rfl ?_)
  refine wpAny_bind (wpAny_updateSeq_pair hTO₂ fun h₃ hTO₃ hs₃ => ?_)
  replace hTO₃ : IsPair h₃ TO x b := hTO₃
  refine wpAny_bind (wpAny_letGo (wpAny_pure ?_))
  refine wpAny_bind (wpAny_bind (wpAny_onRaise ?_))
  show wpAny _ _ (Builtin.SmallTypes.nextOrEnd (.ref i2)) _ _ _
  refine (orEnd_item (((h2.extBut hs₁.extBut D.i2z).extBut hs₂.extBut D.i12.symm).extBut hs₃.extBut D.TOi2.symm)
    (((hl2.extBut hs₁.extBut D.l2z).extBut hs₂.extBut D.l2i1).extBut hs₃.extBut D.l2TO) hy fun h₄ h2₄ hs₄ => ?_)
  have hTO₄ : IsPair h₄ TO x b := hs₄.extBut _ _ D.TOi2 hTO₃
  refine wpAny_bind (wpAny_seqItems hTO₄ rfl ?_)
  refine wpAny_bind (wpAny_updateSeq_pair hTO₄ fun h₅ hTO₅ hs₅ => ?_)
  replace hTO₅ : IsPair h₅ TO x y := hTO₅
  refine wpAny_bind (wpAny_letGo (wpAny_pure (wpAny_pure ?_)))
  refine wpAny_bind (wpAny_seqItems hTO₅ rfl ?_)
  refine wpAny_bind (wpAny_newTuple ?_)
  have hsz : h₅.objs.size = s.heap.objs.size := by rw [hs₅.1, hs₄.1, hs₃.1, hs₂.1, hs₁.1]
  have hz₅ : IsZipS h₅ z TI TO .ellipsis := hs₅.extBut _ _ D.TOz.symm (hs₄.extBut _ _ D.i2z.symm (hs₃.extBut _ _ D.TOz.symm (hs₂.extBut _ _ D.i1z.symm hz₁)))
  have hk₅ : ∀ c o, c ≠ z → c ≠ TO → c ≠ i1 → c ≠ i2 → s.heap.get? c = some o → h₅.get? c = some o := fun c o c1 c2 c3 c4 e =>
    hs₅.extBut _ _ c2 (hs₄.extBut _ _ c4 (hs₃.extBut _ _ c2 (hs₂.extBut _ _ c3 (hs₁.extBut _ _ c1 e))))
  have h1₅ : ItB t1 h₅ i1 l1 (k1 + 1) := ((h1₂.extBut hs₃.extBut D.TOi1.symm).extBut hs₄.extBut D.i12).extBut hs₅.extBut D.TOi1.symm
  have h2₅ : ItB t2 h₅ i2 l2 (k2 + 1) := h2₄.extBut hs₅.extBut D.TOi2.symm
  have hzlt : z < h₅.objs.size := Heap.lt_size hz₅
  have hTOlt : TO < h₅.objs.size := Heap.lt_size hTO₅
  show wpAny _ _ (Builtin.SmallTypes.ownedTupleHandOut (.ref z) (.ref h₅.objs.size) >>= _) _ _ _
  refine wpAny_bind ?_
  unfold Builtin.SmallTypes.ownedTupleHandOut
  have hz₆ : IsZipS (h₅.push { cls := .type "tuple", data := .seq #[x, y] }) z TI TO .ellipsis := Heap.get?_push_of_some _ hz₅
  refine wpAny_bind (wpAny_setField_rec hz₆ (by simp) fun h₇ hz₇ hs₇ => ?_)
  replace hz₇ : IsZipS h₇ z TI TO (rawInt h₅.objs.size) := hz₇
  refine wpAny_setField_rec hz₇ (by simp) fun h₈ hz₈ hs₈ => ?_
  replace hz₈ : IsZipS h₈ z TI TO (rawInt h₅.objs.size) := hz₈
  have up : ∀ c o, c ≠ z → h₅.get? c = some o → h₈.get? c = some o := fun c o c1 e => hs₈.extBut _ _ c1 (hs₇.extBut _ _ c1 (Heap.get?_push_of_some _ e))
  have hT₈ : IsPair h₈ h₅.objs.size x y := hs₈.extBut _ _ (Nat.ne_of_gt hzlt) (hs₇.extBut _ _ (Nat.ne_of_gt hzlt) (Heap.get?_push_size _ rfl))
  have hz8 : h₈.objs.size = h₅.objs.size + 1 := by rw [hs₈.1, hs₇.1, Heap.size_push]
  rw [hsz] at hz₈ hT₈ hz8
  refine wpAny_pure ⟨_, rfl, ?_⟩
  show Q (.ref h₅.objs.size) _
  rw [hsz]
  exact hQ h₈ hz₈ (up _ _ D.TOz hTO₅) (h1₅.at fun o e => up _ o D.i1z e) (h2₅.at fun o e => up _ o D.i2z e) hT₈ hz8 fun c o c1 c2 c3 c4 e => up c o c1 (hk₅ c o c1 c2 c3 c4 e)

theorem zipS_next_end {t1 t2 : Bool} {z TI TO i1 i2 l1 l2 : Addr} {k1 k2 : Nat} {xs ys : Array Value} {a b : Value} {Q : Fin → Shared → Prop} (hh : A.handled = none) (D : ZipApart z TI TO i1 i2 l1 l2)
    (hz : IsZipS s.heap z TI TO .none) (hTI : IsPair s.heap TI (.ref i1) (.ref i2)) (hTO : IsPair s.heap TO a b)
    (h1 : ItB t1 s.heap i1 l1 k1) (h2 : ItB t2 s.heap i2 l2 k2) (hl1 : SeB t1 s.heap l1 xs) (hl2 : SeB t2 s.heap l2 ys) (hx : xs[k1]? = none) (hy : ys[k2]? = none)
    (hE : ∀ h' e, (∀ c o, c ≠ z → c ≠ TO → c ≠ i1 → c ≠ i2 → s.heap.get? c = some o → h'.get? c = some o) → (∃ o, h'.get? e = some o ∧ o.cls = .type "StopIteration") → E (.ref e) { s with heap := h' }) :
    wpAny (model prog w) A (Builtin.«zip.__next__» ⟨[.ref z], []⟩) Q E s := by
  show wpAny _ _ (field (.ref z) 2 >>= _) _ _ _
  refine wpAny_bind (wpAny_field hz rfl (x := .bool true) rfl ?_)
  show wpAny _ _ (field (.ref z) 3 >>= _) _ _ _
  refine wpAny_bind (wpAny_field hz rfl (x := .ref TI) rfl ?_)
  refine wpAny_bind (wpAny_seqItems hTI rfl ?_)
  show wpAny _ _ (Builtin.SmallTypes.ownedTupleIsFree (.ref z) >>= _) _ _ _
  refine wpAny_bind ?_
  unfold Builtin.SmallTypes.ownedTupleIsFree
  refine wpAny_bind (wpAny_field hz rfl (x := .none) rfl (wpAny_pure ?_))
  simp only [if_true]
  refine wpAny_bind (wpAny_rule ?_)
  refine wpAny_bind (wpAny_field hz rfl (x := .ref TO) rfl ?_)
  refine wpAny_bind (wpAny_setField_rec hz (by simp) fun h₁ hz₁ hs₁ => ?_)
  replace hz₁ : IsZipS h₁ z TI TO .ellipsis := hz₁
  refine wpAny_bind ?_
  simp only [List.zipIdx_cons, List.zipIdx_nil, List.forIn_cons, List.forIn_nil]
  refine wpAny_bind (wpAny_bind (wpAny_onRaise ?_))
  show wpAny _ _ (Builtin.SmallTypes.nextOrEnd (.ref i1)) _ _ _
  refine (orEnd_end hh (h1.extBut hs₁.extBut D.i1z) (hl1.extBut hs₁.extBut D.l1z) hx fun h₂ hs₂ => ?_)
  have hz₂ : IsZipS h₂ z TI TO .ellipsis := hs₂ _ _ D.i1z.symm hz₁
  refine wpAny_bind (wpAny_setField_rec hz₂ (by simp) fun h₃ hz₃ hs₃ => ?_)
  refine wpAny_bind ?_
  wp_step
  rw [if_neg (by omega)]
  refine wpAny_bind ?_
  simp only [List.drop_succ_cons, List.drop_zero, List.zipIdx_cons, List.zipIdx_nil, List.forIn_cons, List.forIn_nil]
  have h2₃ : ItB t2 h₃ i2 l2 k2 := ((h2.extBut hs₁.extBut D.i2z).extBut hs₂ D.i12.symm).extBut hs₃.extBut D.i2z
  have hl2₃ : SeB t2 h₃ l2 ys := ((hl2.extBut hs₁.extBut D.l2z).extBut hs₂ D.l2i1).extBut hs₃.extBut D.l2z
  refine wpAny_bind (wpAny_bind (orEnd_end hh h2₃ hl2₃ hy fun h₄ hs₄ => wpAny_pure ?_))
  refine wpAny_pure ?_
  refine wpAny_bind (wpAny_rule ?_)
  unfold Builtin.SmallTypes.stopIteration
  refine wpAny_bind ?_
  simp only [newExc, newTuple]
  refine wpAny_bind (wpAny_newObj_type ?_ (by size_fits))
  refine wpAny_bind (m := firstArgMember _ _) (wpAny_of_eq (a := Value.none) (by first | rfl | (simp only [firstArgMember]; rfl)) ?_)
  refine wpAny_newObj_type ?_ (by size_fits)
  simp only [raiseNew]
  refine wpAny_bind (wpAny_handled ?_)
  first | rw [show A.in1.handled = none from hh] | rw [hh]
  refine wpAny_bind (wpAny_pure (wpAny_throw ?_))
  exact hE _ _ (fun c o c1 c2 c3 c4 x => Heap.get?_push_of_some _ (Heap.get?_push_of_some _ (hs₄ _ _ c4 (hs₃.extBut _ _ c1 (hs₂ _ _ c3 (hs₁.extBut _ _ c1 x)))))) ⟨_, Heap.get?_push_size _ rfl, rfl⟩

theorem pyNext_zipS_item {t1 t2 : Bool} {z TI TO i1 i2 l1 l2 : Addr} {k1 k2 : Nat} {xs ys : Array Value} {x y a b : Value} {Q : Option Value → Shared → Prop} (D : ZipApart z TI TO i1 i2 l1 l2)
    (hz : IsZipS s.heap z TI TO .none) (hTI : IsPair s.heap TI (.ref i1) (.ref i2)) (hTO : IsPair s.heap TO a b)
    (h1 : ItB t1 s.heap i1 l1 k1) (h2 : ItB t2 s.heap i2 l2 k2) (hl1 : SeB t1 s.heap l1 xs) (hl2 : SeB t2 s.heap l2 ys) (hx : xs[k1]? = some x) (hy : ys[k2]? = some y)
    (hQ : ∀ h', IsZipS h' z TI TO (rawInt s.heap.objs.size) → IsPair h' TO x y → ItB t1 h' i1 l1 (k1 + 1) → ItB t2 h' i2 l2 (k2 + 1) → IsPair h' s.heap.objs.size x y → h'.objs.size = s.heap.objs.size + 1 →
      (∀ c o, c ≠ z → c ≠ TO → c ≠ i1 → c ≠ i2 → s.heap.get? c = some o → h'.get? c = some o) → Q (some (.ref s.heap.objs.size)) { s with heap := h' }) :
    wpAny (model prog w) A (pyNext (.ref z)) Q E s := by
  have hT : s.TypeIs (.ref z) "zip" := ⟨_, hz, rfl⟩
  unfold pyNext
  exact wpAny_bind (wpAny_attempt (wpAny_callSpecial?_slot (name := Str.ofString "__next__") hT F.slot_zip_next
    (wpAny_call_entry F.slot_zip_next hT F.entry_zip_next
      (zipS_next_item D hz hTI hTO h1 h2 hl1 hl2 hx hy fun h' a1 a2 a3 a4 a5 a6 a7 => wpAny_pure (hQ h' a1 a2 a3 a4 a5 a6 a7)) (F.args_zip_next_1 _))))

theorem pyNext_zipS_end {t1 t2 : Bool} {z TI TO i1 i2 l1 l2 : Addr} {k1 k2 : Nat} {xs ys : Array Value} {a b : Value} {Q : Option Value → Shared → Prop} (hh : A.handled = none) (D : ZipApart z TI TO i1 i2 l1 l2)
    (hz : IsZipS s.heap z TI TO .none) (hTI : IsPair s.heap TI (.ref i1) (.ref i2)) (hTO : IsPair s.heap TO a b)
    (h1 : ItB t1 s.heap i1 l1 k1) (h2 : ItB t2 s.heap i2 l2 k2) (hl1 : SeB t1 s.heap l1 xs) (hl2 : SeB t2 s.heap l2 ys) (hx : xs[k1]? = none) (hy : ys[k2]? = none)
    (hQ : ∀ h', (∀ c o, c ≠ z → c ≠ TO → c ≠ i1 → c ≠ i2 → s.heap.get? c = some o → h'.get? c = some o) → Q none { s with heap := h' }) : wpAny (model prog w) A (pyNext (.ref z)) Q E s := by
  have hT : s.TypeIs (.ref z) "zip" := ⟨_, hz, rfl⟩
  unfold pyNext
  refine wpAny_bind (wpAny_attempt (wpAny_callSpecial?_slot (name := Str.ofString "__next__") hT F.slot_zip_next
    (wpAny_call_entry F.slot_zip_next hT F.entry_zip_next (zipS_next_end hh D hz hTI hTO h1 h2 hl1 hl2 hx hy fun h' e hk he => ?_) (F.args_zip_next_1 _))))
  obtain ⟨o, ho, hc⟩ := he
  refine wpAny_bind (wpAny_isInstance (T := "StopIteration") (b := true) ⟨o, ho, hc⟩ isSubtype_stop ?_)
  exact wpAny_pure (hQ _ hk)

theorem letOwnedTupleGo_zipS {elts : List Expr} {x1} {pos : Pos} {z TI TO T : Addr} {Q : Unit → Shared → Prop} (hz : IsZipS s.heap z TI TO (rawInt T))
    (hQ : ∀ h', IsZipS h' z TI TO .none → Heap.SameBut z s.heap h' → Q () { s with heap := h' }) :
    wpAny (model prog w) A (letOwnedTupleGo (.Tuple elts x1 pos) (.ref z) (.ref T)) Q E s := by
  unfold letOwnedTupleGo
  refine wpAny_bind (wpAny_load hz ?_)
  show wpAny _ _ (if (["enumerate", "zip", "dict_itemiterator", "dict_reverseitemiterator", "odict_iterator", "itertools.zip_longest", "itertools.pairwise"].contains "zip" &&
      (#[rawInt T, .bool false, .bool true, .ref TI, .ref TO] : Array Value)[0]? == some (rawInt T)) = true then _ else _) Q E s
  rw [if_pos (by simp)]
  refine wpAny_bind (wpAny_rule ?_)
  show wpAny _ _ (setField (.ref z) 0 .none) Q E s
  exact wpAny_setField_rec hz (by simp) fun h' hz' hs' => hQ h' hz' hs'

theorem pyIter_zipS {z TI TO : Addr} {f0 : Value} {Q : Value → Shared → Prop} (hz : IsZipS s.heap z TI TO f0) (h : Q (.ref z) s) : wpAny (model prog w) A (pyIter (.ref z)) Q E s := by
  have hT : s.TypeIs (.ref z) "zip" := ⟨_, hz, rfl⟩
  refine wpAny_pyIter_slot hT F.slot_zip_iter (wpAny_call_entry F.slot_zip_iter hT F.entry_zip_iter ?_ (F.args_zip_iter_1 _))
  show wpAny _ _ (ret (.ref z)) _ _ s
  exact wpAny_pure ⟨_, rfl, "zip", _, hT, F.slot_zip_next.lookup, h⟩
end
theorem typeCall_zipS (a b c : Value) : checkTypeCall "zip" ⟨[a, b], [(Str.ofString "strict", c)]⟩ = pure () := by kernel_rfl
theorem newCall_zipS (a b c : Value) : checkBuiltinCall "zip.__new__" ⟨[.type "zip", a, b], [(Str.ofString "strict", c)]⟩ = pure () := by kernel_rfl
theorem args_init_zipS (obj a b c : Value) : argsOk "object.__init__" ⟨[obj, a, b], [(Str.ofString "strict", c)]⟩ := by unfold argsOk; kernel_rfl
def itO (t : Bool) (l : Addr) : Obj := match t with
  | true => { cls := .type "list_iterator", data := .fields #[.ref l, .int 0 0] }
  | false => { cls := .type "tuple_iterator", data := .fields #[.ref l, .int 0 0] }
theorem begins (t : Bool) (l : Addr) (items : Array Value) : Begins (.ref l) (itO t l) fun h => SeB t h l items := by
  cases t with
  | true => exact begins_list l items
  | false => exact begins_tuple l items
theorem SeB.push {t : Bool} {h : Heap} {l : Addr} {xs : Array Value} (x : SeB t h l xs) (o : Obj) : SeB t (h.push o) l xs := by
  cases t with
  | true => exact Heap.IsList.push x o
  | false => exact Heap.IsTuple.push x o
abbrev zH1 (t1 : Bool) (h : Heap) (l1 : Addr) : Heap := h.push (itO t1 l1)
abbrev zH2 (t1 t2 : Bool) (h : Heap) (l1 l2 : Addr) : Heap := (zH1 t1 h l1).push (itO t2 l2)
abbrev zH3 (t1 t2 : Bool) (h : Heap) (l1 l2 : Addr) : Heap := (zH2 t1 t2 h l1 l2).push { cls := .type "tuple", data := .seq #[.ref h.objs.size, .ref (zH1 t1 h l1).objs.size] }
abbrev zH4 (t1 t2 : Bool) (h : Heap) (l1 l2 : Addr) : Heap := (zH3 t1 t2 h l1 l2).push { cls := .type "tuple", data := .seq #[.none, .none] }
abbrev zH5 (t1 t2 : Bool) (h : Heap) (l1 l2 : Addr) : Heap := (zH4 t1 t2 h l1 l2).push { cls := .type "zip", data := .fields #[.none, .bool false, .bool true, .ref (zH2 t1 t2 h l1 l2).objs.size, .ref (zH3 t1 t2 h l1 l2).objs.size] }
theorem meets_zipS_new (t1 t2 : Bool) (l1 l2 : Addr) (xs ys : Array Value) :
    Meets (Builtin.«zip.__new__» ⟨[.type "zip", .ref l1, .ref l2], [(Str.ofString "strict", .bool true)]⟩) (fun _ R s => SeB t1 s.heap l1 xs ∧ SeB t2 s.heap l2 ys ∧
      R (.ok (.ret (.ref (zH4 t1 t2 s.heap l1 l2).objs.size))) { s with heap := zH5 t1 t2 s.heap l1 l2 }) :=
  .of_wp fun prog w A R s h => by
    obtain ⟨hp, g, d, tk, os⟩ := s; obtain ⟨hl1, hl2, h⟩ := h
    have hsub := sub_zip
    have q1 : ∀ {A' : Around} {E : Value → Shared → Prop} {Q : Value → Shared → Prop}, Q (.ref hp.objs.size) ⟨hp.push (itO t1 l1), g, d, tk, os⟩ → wpAny (model prog w) A' (pyIter (.ref l1)) Q E ⟨hp, g, d, tk, os⟩ :=
      fun q => (begins t1 l1 xs).iter prog w _ _ ⟨hp, g, d, tk, os⟩ _ hl1 q
    have q2 : ∀ {A' : Around} {E : Value → Shared → Prop} {Q : Value → Shared → Prop}, Q (.ref (hp.push (itO t1 l1)).objs.size) ⟨(hp.push (itO t1 l1)).push (itO t2 l2), g, d, tk, os⟩ → wpAny (model prog w) A' (pyIter (.ref l2)) Q E ⟨hp.push (itO t1 l1), g, d, tk, os⟩ :=
      fun q => (begins t2 l2 ys).iter prog w _ _ ⟨hp.push (itO t1 l1), g, d, tk, os⟩ _ (SeB.push hl2 _) q
    have e1 : (Str.ofString "strict" == ("strict" : Str)) = true := by decide +kernel
    have e2 : (Str.ofString "strict" != ("strict" : Str)) = false := by decide +kernel
    wp_walk using q1, q2
    exact ⟨_, rfl, h⟩
section
variable {prog : Program} {w : World} {A : Around} {E : Value → Shared → Prop} {s : Shared}
theorem SeB.lt {t : Bool} {h : Heap} {l : Addr} {xs : Array Value} (x : SeB t h l xs) : l < h.objs.size := by
  cases t with
  | true => obtain ⟨o, e, _⟩ := x; exact Heap.lt_size e
  | false => obtain ⟨o, e, _⟩ := x; exact Heap.lt_size e
theorem itO_ok {t : Bool} {h : Heap} {i l : Addr} (e : h.get? i = some (itO t l)) : ItB t h i l 0 := by
  cases t with
  | true => exact ⟨_, e, rfl, rfl⟩
  | false => exact ⟨_, e, rfl, rfl⟩
theorem itO_live (t : Bool) (l : Addr) : (itO t l).isFreed = false := by cases t <;> rfl
theorem call_zipS {t1 t2 : Bool} {l1 l2 : Addr} {xs ys : Array Value} {Q : Value → Shared → Prop} (hl1 : SeB t1 s.heap l1 xs) (hl2 : SeB t2 s.heap l2 ys)
    (h : ∀ h', IsZipS h' (s.heap.objs.size + 4) (s.heap.objs.size + 2) (s.heap.objs.size + 3) .none → IsPair h' (s.heap.objs.size + 2) (.ref s.heap.objs.size) (.ref (s.heap.objs.size + 1)) →
      IsPair h' (s.heap.objs.size + 3) .none .none → ItB t1 h' s.heap.objs.size l1 0 → ItB t2 h' (s.heap.objs.size + 1) l2 0 → h'.objs.size = s.heap.objs.size + 5 →
      (∀ c o, s.heap.get? c = some o → h'.get? c = some o) → Q (.ref (s.heap.objs.size + 4)) { s with heap := h' }) :
    wpAny (model prog w) A (call (.type "zip") [.ref l1, .ref l2] [(Str.ofString "strict", .bool true)]) Q E s := by
  refine callType_newKw F.called_zip (by decide) (typeCall_zipS _ _ _) (newCall_zipS _ _ _) (fun obj => args_init_zipS obj _ _ _) F.entry_zip_new
    (meets_zipS_new t1 t2 l1 l2 xs ys) ⟨hl1, hl2, ?_⟩
  have z1 : (zH1 t1 s.heap l1).objs.size = s.heap.objs.size + 1 := Heap.size_push ..
  have z2 : (zH2 t1 t2 s.heap l1 l2).objs.size = s.heap.objs.size + 2 := by rw [Heap.size_push, z1]
  have z3 : (zH3 t1 t2 s.heap l1 l2).objs.size = s.heap.objs.size + 3 := by rw [Heap.size_push, z2]
  have z4 : (zH4 t1 t2 s.heap l1 l2).objs.size = s.heap.objs.size + 4 := by rw [Heap.size_push, z3]
  have z5 : (zH5 t1 t2 s.heap l1 l2).objs.size = s.heap.objs.size + 5 := by rw [Heap.size_push, z4]
  have g5 : (zH5 t1 t2 s.heap l1 l2).get? (zH4 t1 t2 s.heap l1 l2).objs.size = some _ := Heap.get?_push_size _ rfl
  have g4 : (zH5 t1 t2 s.heap l1 l2).get? (zH3 t1 t2 s.heap l1 l2).objs.size = some _ := Heap.get?_push_of_some _ (Heap.get?_push_size _ rfl)
  have g3 : (zH5 t1 t2 s.heap l1 l2).get? (zH2 t1 t2 s.heap l1 l2).objs.size = some _ := Heap.get?_push_of_some _ (Heap.get?_push_of_some _ (Heap.get?_push_size _ rfl))
  have g2 : (zH5 t1 t2 s.heap l1 l2).get? (zH1 t1 s.heap l1).objs.size = some (itO t2 l2) := Heap.get?_push_of_some _ (Heap.get?_push_of_some _ (Heap.get?_push_of_some _ (Heap.get?_push_size _ (itO_live t2 l2))))
  have g1 : (zH5 t1 t2 s.heap l1 l2).get? s.heap.objs.size = some (itO t1 l1) := Heap.get?_push_of_some _ (Heap.get?_push_of_some _ (Heap.get?_push_of_some _ (Heap.get?_push_of_some _ (Heap.get?_push_size _ (itO_live t1 l1)))))
  show _ ∧ _
  rw [z2, z3, z4] at g5
  rw [z1, z2] at g3
  rw [z3] at g4
  rw [z1] at g2
  rw [z4]
  exact ⟨⟨_, g5, rfl⟩, h _ g5 g3 g4 (itO_ok g1) (itO_ok g2) z5 fun c o x =>
    Heap.get?_push_of_some _ (Heap.get?_push_of_some _ (Heap.get?_push_of_some _ (Heap.get?_push_of_some _ (Heap.get?_push_of_some _ x))))⟩
end
section
variable {M : Model} {A : Around} {E : Value → Shared → Prop} {s : Shared} {env : Env}
/-- a call of a built-in class with keywords -/
theorem callWith_typeB {pos : Pos} {T : String} {first : List Value} {args : List (Bool × Sem Value)} {keywords : List (Option Str × Sem Value)} {Q : Value → Shared → Prop}
    (hplain : args.any (·.1) = false) (hkw : keywords.any (·.1.isNone) = false)
    (h : wpAny M A (evalArgs (.type T) true args keywords) (fun a s₁ => wpAny M A (call (.type T) (first ++ a.pos) a.kw) Q E s₁) E s) :
    wpAny M A (callWith pos (.type T) first args keywords) Q E s := by
  unfold callWith
  refine wpAny_bind (wpAny_holding (wpAny_mono h (fun a s₁ h₁ => wpAny_bind (wpAny_standAt ?_)) fun _ _ x => x))
  simp only [hplain, hkw, Bool.or_false]
  refine wpAny_bind (wpAny_pure ?_)
  exact wpAny_bind (wpAny_mono h₁ (fun r s₂ hr => wpAny_bind (wpAny_holding (wpAny_point (wpAny_pure hr)))) fun _ _ x => x)
theorem callWith_typeKw {pos : Pos} {T : String} {e : Expr} {rest : List Expr} {kws : List Keyword} {Q : Value → Shared → Prop}
    (h : wpAny M A (spliced (backTo pos (starEach (e :: rest) env))) (fun vs s₁ => wpAny M A (evalAll ((backToKw pos (keywordEach kws env)).map (·.2)))
      (fun kvs s₂ => wpAny M A (call (.type T) vs (((backToKw pos (keywordEach kws env)).filterMap (·.1)).zip kvs)) Q E s₂) E s₁) E s)
    (he : backTo pos (starEach (e :: rest) env) = (false, eval e env) :: backTo pos (starEach rest env) := by rfl)
    (hplain : (backTo pos (starEach (e :: rest) env)).any (·.1) = false := by rfl)
    (hall : (backToKw pos (keywordEach kws env)).all (·.1.isSome) = true := by rfl)
    (hkw : (backToKw pos (keywordEach kws env)).any (·.1.isNone) = false := by rfl) :
    wpAny M A (callWith pos (.type T) [] (backTo pos (starEach (e :: rest) env)) (backToKw pos (keywordEach kws env))) Q E s := by
  refine callWith_typeB hplain hkw ?_
  rw [he] at h ⊢
  exact PyProof.Rows.evalArgs_kwB hall h
end
end Dz
namespace Dl
open PySem PySem.Spec L2
open PyProof.Rows hiding St
open Dz
def SqB (t : Bool) (K : PySem.W.Frag) (H : Hp) (a : Addr) (xs : List V) : Prop := match t with
  | true => SqL K H a xs
  | false => SqT K H a xs
def ItzS (t1 t2 : Bool) (K : PySem.W.Frag) (a b : Addr) : It :=
  ⟨fun i H => ∃ (xs ys : List V) (x y : V), SqB t1 K H a xs ∧ SqB t2 K H b ys ∧ xs[i]? = some x ∧ ys[i]? = some y,
    fun i H v H' => ∃ T x y, v = .ref T ∧ H T = none ∧ H' = upd H T (.tup [x, y]) ∧ (∀ xs, SqB t1 K H a xs → xs[i]? = some x) ∧ ∀ ys, SqB t2 K H b ys → ys[i]? = some y,
    fun i H => ∃ xs ys : List V, SqB t1 K H a xs ∧ SqB t2 K H b ys ∧ xs.length ≤ i ∧ ys.length ≤ i⟩
theorem inv_seqB {X : Cx} {pins : List (Addr × Obj)} {σ : L2.St} {H : Hp} {s : Shared} {t : Bool} {a : Addr} {xs : List V} (I : Inv X pins σ H s) (h : SqB t X.K H a xs) : ∃ its : List Value, Vals xs its ∧ SeB t s.heap a its.toArray := by
  cases t with
  | true => obtain ⟨its, rv, p, _⟩ := I.list h; exact ⟨its, rv, p.isList⟩
  | false => obtain ⟨its, rv, p, _⟩ := I.tuple h; exact ⟨its, rv, p⟩
theorem inv_injB {X : Cx} {pins : List (Addr × Obj)} {σ : L2.St} {H : Hp} {s : Shared} {t : Bool} {a : Addr} {xs ys : List V} (I : Inv X pins σ H s) (h : SqB t X.K H a xs) (h2 : SqB t X.K H a ys) : xs = ys := by
  cases t with
  | true => exact I.list_inj h h2
  | false => exact I.tuple_inj h h2
theorem turn_zipS {P : Program} {w : World} {K : PySem.W.Frag} {elts : List Expr} {kk : Nat} {tpos : Pos} {t1 t2 : Bool} {a b z TI TO i1 i2 : Addr} (D : ZipApart z TI TO i1 i2 a b) :
    Turn P w K (.Tuple elts kk tpos) (ItzS t1 t2 K a b) [z, TI, TO, i1, i2] z (fun i h => IsZipS h z TI TO .none ∧ IsPair h TI (.ref i1) (.ref i2) ∧ (∃ x y, IsPair h TO x y) ∧ ItB t1 h i1 a i ∧ ItB t2 h i2 b i) where
  mem := by simp
  obj := fun i h st c hc => by
    obtain ⟨hz, hTI, ⟨x, y, hTO⟩, h1, h2⟩ := st
    have e' : c = z ∨ c = TI ∨ c = TO ∨ c = i1 ∨ c = i2 := by simpa using hc
    rcases e' with q | q | q | q | q
    · rw [q]; exact ⟨_, hz, fun v q => nomatch q⟩
    · rw [q]; exact ⟨_, hTI, fun v q => nomatch q⟩
    · rw [q]; exact ⟨_, hTO, fun v q => nomatch q⟩
    · rw [q]; exact h1.obj
    · rw [q]; exact h2.obj
  keep := fun i h h' st k => by
    obtain ⟨hz, hTI, ⟨x, y, hTO⟩, h1, h2⟩ := st
    exact ⟨k z (by simp) _ hz, k TI (by simp) _ hTI, ⟨x, y, k TO (by simp) _ hTO⟩, h1.at fun o q => k i1 (by simp) o q, h2.at fun o q => k i2 (by simp) o q⟩
  item := by
    intro X hP hw hK hc i pins s σ H E I hf st hg
    subst hP hw hK
    obtain ⟨hz, hTI, ⟨x0, y0, hTO⟩, h1, h2⟩ := st
    obtain ⟨xs, ys, x, y, hqx, hqy, hx, hy⟩ := hg
    obtain ⟨its, rv, p⟩ := inv_seqB I hqx
    obtain ⟨its2, rv2, p2⟩ := inv_seqB I hqy
    obtain ⟨u, hu, ru⟩ := rv.get hx
    obtain ⟨u2, hu2, ru2⟩ := rv2.get hy
    have hzl : z < s.heap.objs.size := Heap.lt_size hz
    refine pyNext_zipS_item D hz hTI hTO h1 h2 p p2 (x := u) (y := u2) (by simpa using hu) (by simpa using hu2) fun h' z' TO' h1' h2' hT hsz hk => ?_
    refine ⟨_, rfl, letOwnedTupleGo_zipS (s := { s with heap := h' }) z' fun h'' z'' sb => ?_⟩
    have hT2 : h''.get? s.heap.objs.size = some { cls := .type "tuple", data := .seq #[u, u2] } := (sb.2 _ (Nat.ne_of_gt hzl)).trans hT
    have new : ObjOk X.prog X.w (upd H s.heap.objs.size (.tup [x, y])) h'' s.heap.objs.size (.tup [x, y]) :=
      ⟨by show 2 ≤ sizeLine; decide, [u, u2], .cons ru (.cons ru2 .nil), ⟨_, hT2, rfl, _, rfl⟩⟩
    have I1 : Inv X pins σ (upd H s.heap.objs.size (.tup [x, y])) { s with heap := h'' } :=
      I.turnedNew (t' := s.toks) (ch := [z, TI, TO, i1, i2]) (fun c o hb q => (sb.2 c (fun q' => hb (by simp [q']))).trans (hk c o (fun q' => hb (by simp [q'])) (fun q' => hb (by simp [q'])) (fun q' => hb (by simp [q'])) (fun q' => hb (by simp [q'])) q)) hf (Nat.le_refl _) new
    refine ⟨.ref s.heap.objs.size, _, I1, rfl, ⟨_, x, y, rfl, I.hok.fresh (Nat.le_refl _), rfl, fun l hl => by rw [inv_injB I hl hqx]; exact hx, fun l hl => by rw [inv_injB I hl hqy]; exact hy⟩, ⟨z'', ?_, ⟨u, u2, ?_⟩, ?_, ?_⟩, fun c hcm => ?_⟩
    · exact (sb.2 _ D.TIz).trans (hk _ _ D.TIz D.TITO D.TIi1 D.TIi2 hTI)
    · exact (sb.2 _ D.TOz).trans TO'
    · exact h1'.at fun o q => (sb.2 _ D.i1z).trans q
    · exact h2'.at fun o q => (sb.2 _ D.i2z).trans q
    · have hlt : c < s.heap.objs.size := by
        have e' : c = z ∨ c = TI ∨ c = TO ∨ c = i1 ∨ c = i2 := by simpa using hcm
        rcases e' with q | q | q | q | q
        · rw [q]; exact hzl
        · rw [q]; exact Heap.lt_size hTI
        · rw [q]; exact Heap.lt_size hTO
        · rw [q]; obtain ⟨_, e1, _⟩ := h1.obj; exact Heap.lt_size e1
        · rw [q]; obtain ⟨_, e2, _⟩ := h2.obj; exact Heap.lt_size e2
      rw [upd_ne (Nat.ne_of_lt hlt)]
      exact (hf c hcm).1
  done := by
    intro X hP hw hK hc i pins s σ H E I hf st hg
    subst hP hw hK
    obtain ⟨hz, hTI, ⟨x0, y0, hTO⟩, h1, h2⟩ := st
    obtain ⟨xs, ys, hqx, hqy, hx, hy⟩ := hg
    obtain ⟨its, rv, p⟩ := inv_seqB I hqx
    obtain ⟨its2, rv2, p2⟩ := inv_seqB I hqy
    have l1 := rv.length
    have l2 := rv2.length
    exact pyNext_zipS_end (I.ok.hd hc) D hz hTI hTO h1 h2 p p2 (by simp; omega) (by simp; omega) fun h' hk => ⟨rfl, I.turnedL (t' := s.toks) (ch := [z, TI, TO, i1, i2]) (fun c o hb q =>
      hk c o (fun q' => hb (by simp [q'])) (fun q' => hb (by simp [q'])) (fun q' => hb (by simp [q'])) (fun q' => hb (by simp [q'])) q) hf⟩
  self := fun A i s Q E st h => pyIter_zipS st.1 h
def iZipS (K : PySem.W.Frag) (ta tk : TA) : TI := fun σ H R => ta σ H fun vs H1 => tk σ H1 fun zs H2 => ∃ (t1 t2 : Bool) (a b : Addr) (xs ys : List V), vs = [.ref a, .ref b] ∧ zs = [.bl true] ∧ SqB t1 K H2 a xs ∧ SqB t2 K H2 b ys ∧ R (ItzS t1 t2 K a b) H2
theorem pi_zipS {X : Cx} {e e2 v : Expr} {ta tk : TA} {p pos tpos kpos : Pos} {elts : List Expr} {kk : Nat} (hg : Gl X "zip") (hm : X.mg "zip" = none) (ha : PA X [e, e2] ta) (hk : PK X [⟨some "strict", v, kpos⟩] tk)
    (he : backTo pos (starEach [e, e2] X.env) = (false, eval e X.env) :: backTo pos (starEach [e2] X.env) := by rfl) (hpl : (backTo pos (starEach [e, e2] X.env)).any (·.1) = false := by rfl)
    (hall : (backToKw pos (keywordEach [⟨some "strict", v, kpos⟩] X.env)).all (·.1.isSome) = true := by rfl) (hnone : (backToKw pos (keywordEach [⟨some "strict", v, kpos⟩] X.env)).any (·.1.isNone) = false := by rfl) (hks : (backToKw pos (keywordEach [⟨some "strict", v, kpos⟩] X.env)).filterMap (·.1) = [Str.ofString "strict"] := by rfl) :
    PI X (.Tuple elts kk tpos) (.Call (.Name "zip" p) [e, e2] [⟨some "strict", v, kpos⟩] pos) (iZipS X.K ta tk) := by
  refine ⟨fun pins s σ H R I h => ?_⟩
  refine wpAny_Call_Name_kw (ld_blt I hg hm PyProof.Rows.boot_zip ?_)
  refine callWith_typeKw (thn (ha.run pos pins s σ H _ I h) fun us s0 ⟨vs, H0, I0, r0, q0⟩ => thn (hk.run pos pins s0 σ H0 _ I0 q0) fun ws s1 ⟨zs, H1, I1, rk, q1⟩ => ?_) he hpl hall hnone
  rw [hks]
  obtain ⟨t1, t2, a, b, xs, ys, ex, ez, hqx, hqy, q⟩ := q1
  subst ex
  subst ez
  cases r0 with
  | cons r rr =>
    cases rr with
    | cons r' rr =>
      cases rr
      cases r
      cases r'
      cases rk with
      | cons k kk =>
        cases kk
        cases k
        have fresh5 : ∀ c, c ∈ [s1.heap.objs.size + 4, s1.heap.objs.size + 2, s1.heap.objs.size + 3, s1.heap.objs.size, s1.heap.objs.size + 1] → FpOk X pins H1 c := fun c hcm => by
          have e' : c = s1.heap.objs.size + 4 ∨ c = s1.heap.objs.size + 2 ∨ c = s1.heap.objs.size + 3 ∨ c = s1.heap.objs.size ∨ c = s1.heap.objs.size + 1 := by simpa using hcm
          have hle : s1.heap.objs.size ≤ c := by
            rcases e' with z | z | z | z | z
            · rw [z]; exact Nat.le_add_right _ _
            · rw [z]; exact Nat.le_add_right _ _
            · rw [z]; exact Nat.le_add_right _ _
            · rw [z]; exact Nat.le_refl _
            · rw [z]; exact Nat.le_add_right _ _
          exact I1.fpOk hle (I1.hok.fresh hle)
        obtain ⟨its, rv, p1⟩ := inv_seqB I1 hqx
        obtain ⟨its2, rv2, p2⟩ := inv_seqB I1 hqy
        refine call_zipS p1 p2 fun h' hz hTI hTO h1 h2 hsz hk => pyIter_zipS hz ?_
        have I2 : Inv X pins σ H1 { s1 with heap := h' } := I1.kept (t' := s1.toks) hk
        exact ⟨s1.heap.objs.size + 4, [s1.heap.objs.size + 4, s1.heap.objs.size + 2, s1.heap.objs.size + 3, s1.heap.objs.size, s1.heap.objs.size + 1], _, _, H1, rfl, I2, turn_zipS (PySem.W.ktu_apart s1.heap.objs.size a b p1.lt p2.lt), ⟨hz, hTI, ⟨_, _, hTO⟩, h1, h2⟩, fresh5, q⟩
def seqOf : Dt → Option (List Dt)
  | .none => none | .bool _ => none | .int _ => none | .str _ => none | .dict _ => none
  | .list xs => some xs
  | .tuple xs => some xs
def zipD (xs ys : List Dt) : List Dt := List.zipWith (fun x y => PyData.tuple [x, y]) xs ys
def zipSM (x y : Dt) : Mv (List Dt) := match seqOf x, seqOf y with
  | some xs, some ys => grd (xs.length = ys.length) (ret (zipD xs ys))
  | _, _ => bad
def FzB (t : Bool) (K : PySem.W.Frag) (F : Hp) (a : Addr) (vs : List V) : Prop := match t with
  | true => F a = some (.lst vs)
  | false => SqT K F a vs
theorem FzB.sq {t : Bool} {K : PySem.W.Frag} {F H : Hp} {a : Addr} {vs : List V} (h : FzB t K F a vs) (sub : ∀ b o, F b = some o → H b = some o) : SqB t K H a vs := by
  cases t with
  | true => exact SqL.of (sub _ _ h)
  | false => exact sqT_ext sub h
theorem seq_of {K : PySem.W.Frag} {F : Hp} {v : V} {d : Dt} {ds : List Dt} (rp : Rp K F v d) (e : seqOf d = some ds) : ∃ (t : Bool) (a : Addr) (vs : List V), v = .ref a ∧ FzB t K F a vs ∧ RpAll K F vs ds := by
  cases d with
  | list xs => cases e; cases rp with | lst h1 h2 => exact ⟨true, _, _, rfl, h1, h2⟩
  | tuple xs => cases e; cases rp with | tup h1 h2 => exact ⟨false, _, _, rfl, h1, h2⟩
  | _ => cases e
theorem zip_at {xs ys : List Dt} {i : Nat} {d : Dt} (h : (zipD xs ys)[i]? = some d) : ∃ x y, xs[i]? = some x ∧ ys[i]? = some y ∧ d = .tuple [x, y] := by
  unfold zipD at h
  rw [List.getElem?_zipWith] at h
  cases hx : xs[i]? with
  | none => rw [hx] at h; cases h
  | some x =>
    cases hy : ys[i]? with
    | none => rw [hx, hy] at h; cases h
    | some y => rw [hx, hy] at h; cases h; exact ⟨x, y, rfl, rfl, rfl⟩
section
variable {X : Cx} {g : Gh} {a b c e v : Expr} {es elts : List Expr} {pos p tpos kpos : Pos} {kk : Nat} {ma mb mc : Me Dt}
theorem df_zipS (hg : Gl X "zip") (hm : X.mg "zip" = none) (ha : DE X g a ma) (hb : DE X g b mb) (hv : DE X g v (fun _ => ret (.bool true)))
    (h1 : starEach [a, b] X.env = (false, eval a X.env) :: starEach [b] X.env := by rfl) (h2 : starEach [b] X.env = (false, eval b X.env) :: starEach [] X.env := by rfl)
    (he : backTo pos (starEach [a, b] X.env) = (false, eval a X.env) :: backTo pos (starEach [b] X.env) := by rfl) (hpl : (backTo pos (starEach [a, b] X.env)).any (·.1) = false := by rfl)
    (hall : (backToKw pos (keywordEach [⟨some "strict", v, kpos⟩] X.env)).all (·.1.isSome) = true := by rfl) (hnone : (backToKw pos (keywordEach [⟨some "strict", v, kpos⟩] X.env)).any (·.1.isNone) = false := by rfl) (hks : (backToKw pos (keywordEach [⟨some "strict", v, kpos⟩] X.env)).filterMap (·.1) = [Str.ofString "strict"] := by rfl) :
    DF X g (.Tuple elts kk tpos) (.Call (.Name "zip" p) [a, b] [⟨some "strict", v, kpos⟩] pos) (fun δ => bnd (ma δ) fun x => bnd (mb δ) fun y => zipSM x y) := by
  obtain ⟨t, p1, ha⟩ := ha
  obtain ⟨u, p2, hb⟩ := hb
  obtain ⟨k, p3, hv⟩ := hv
  refine ⟨_, PI.lim (pi_zipS hg hm (pa_cons p1 (pa_cons p2 pa_nil h2) h1) (pk_cons p3 pk_nil) he hpl hall hnone hks), fun σ H F δ n R Qd r q w => ?_⟩
  refine ha σ H F δ n _ _ r (fun v1 d1 F1 H1 n1 rb1 rp1 hq1 => ?_) w
  refine hb σ H1 F1 δ n1 _ _ (r.ext rb1) (fun v2 d2 F2 H2 n2 rb2 rp2 hq2 => ?_) hq1
  refine hv σ H2 F2 δ n2 _ (fun d m => d = .bool true ∧ zipSM d1 d2 m Qd g.W) ((r.ext rb1).ext rb2) (fun v3 d3 F3 H3 n3 rb3 rp3 hq3 => ?_) ⟨rfl, hq2⟩
  obtain ⟨rfl, hq3⟩ := hq3
  cases rp3
  unfold zipSM at hq3
  cases e1 : seqOf d1 with
  | none => rw [e1] at hq3; exact hq3.elim
  | some xs =>
    cases e2 : seqOf d2 with
    | none => rw [e1, e2] at hq3; exact hq3.elim
    | some ys =>
      rw [e1, e2] at hq3
      obtain ⟨hlen, hq3⟩ := hq3
      obtain ⟨k1, a1, vs, rfl, f1, r1⟩ := seq_of (rp1.ext' (fun b o h => rb3.f0 b o (rb2.f0 b o h))) e1
      obtain ⟨k2, a2, us, rfl, f2, r2⟩ := seq_of (rp2.ext' rb3.f0) e2
      have rb := (rb1.trans rb2).trans rb3
      have l1 := r1.length
      have l2 := r2.length
      refine ⟨k1, k2, a1, a2, vs, us, rfl, rfl, f1.sq rb.sub, f2.sq rb.sub, fun lim => q _ (zipD xs ys) F3 H3 n3 rb (fun i F4 H4 n4 sm rb4 hi => ?_) ?_ hq3⟩
      · have s1 : SqB k1 X.K H4 a1 vs := f1.sq fun b o h => rb4.sub b o (sm b o h)
        have s2 : SqB k2 X.K H4 a2 us := f2.sq fun b o h => rb4.sub b o (sm b o h)
        refine ⟨fun e => ⟨vs, us, s1, s2, ?_, ?_⟩, fun d hd => ?_⟩
        · unfold zipD at e
          rw [List.length_zipWith] at e
          omega
        · unfold zipD at e
          rw [List.length_zipWith] at e
          omega
        · obtain ⟨x, y, hx, hy, rfl⟩ := zip_at hd
          obtain ⟨v, h3, h4⟩ := (r1.ext' sm).at hx
          obtain ⟨u', h5, h6⟩ := (r2.ext' sm).at hy
          refine ⟨⟨vs, us, v, u', s1, s2, h3, h5⟩, fun z H5 yy => ?_⟩
          obtain ⟨T, x', y', rfl, np, rfl, y1, y2⟩ := yy
          have z1 := y1 vs s1
          have z2 := y2 us s2
          rw [h3] at z1
          rw [h5] at z2
          cases z1
          cases z2
          exact ⟨_, laid_tup rb4 np (.cons h4 (.cons h6 .nil))⟩
      · unfold zipD
        rw [List.length_zipWith]
        have hl : vs.length ≤ sizeLine := lim a1 vs (by cases k1 with | true => exact .inl (f1.sq rb.sub) | false => exact .inr (f1.sq rb.sub))
        omega
def zipM (x y : Dt) : Mv (List Dt) := match x, y with
  | .list xs, .list ys => ret (zipD xs ys)
  | .tuple xs, .tuple ys => ret (zipD xs ys)
  | _, _ => bad
theorem zip_len (xs ys : List Dt) : (zipD xs ys).length = min xs.length ys.length := by
  unfold zipD
  rw [List.length_zipWith]
theorem df_zip (hg : Gl X "zip") (hm : X.mg "zip" = none) (ha : DE X g a ma) (hb : DE X g b mb)
    (h1 : starEach [a, b] X.env = (false, eval a X.env) :: starEach [b] X.env := by rfl) (h2 : starEach [b] X.env = (false, eval b X.env) :: starEach [] X.env := by rfl)
    (hpl : (backTo pos (starEach [b] X.env)).any (·.1) = false := by rfl) :
    DF X g (.Tuple elts kk tpos) (.Call (.Name "zip" p) [a, b] [] pos) (fun δ => bnd (ma δ) fun x => bnd (mb δ) fun y => zipM x y) := by
  obtain ⟨t, p1, ha⟩ := ha
  obtain ⟨u, p2, hb⟩ := hb
  refine ⟨_, PI.lim (RZ.pi_zipA hg hm (pa_cons p1 (pa_cons p2 pa_nil h2) h1) h1 hpl), fun σ H F δ n R Qd r q w => ?_⟩
  refine ha σ H F δ n _ _ r (fun v1 d1 F1 H1 n1 rb1 rp1 hq1 => ?_) w
  refine hb σ H1 F1 δ n1 _ _ (r.ext rb1) (fun v2 d2 F2 H2 n2 rb2 rp2 hq2 => ?_) hq1
  have rb := rb1.trans rb2
  replace rp1 := rp1.ext' rb2.f0
  cases d1 <;> cases d2 <;> first | exact hq2.elim | skip
  · rename_i xs ys
    cases rp1 with
    | @lst a1 vs _ f1 r1 =>
      cases rp2 with
      | @lst a2 us _ f2 r2 =>
        have l1 := r1.length
        have l2 := r2.length
        refine ⟨a1, a2, vs, us, rfl, .inl ⟨SqL.of (rb.sub _ _ f1), SqL.of (rb.sub _ _ f2), fun lim => q _ (zipD xs ys) F2 H2 n2 rb (fun i F4 H4 n4 sm rb4 hi => ?_) ?_ hq2⟩⟩
        · have s1 : SqL X.K H4 a1 vs := SqL.of (rb4.sub _ _ (sm _ _ f1))
          have s2 : SqL X.K H4 a2 us := SqL.of (rb4.sub _ _ (sm _ _ f2))
          refine ⟨fun e => ⟨vs, us, s1, s2, ?_⟩, fun d hd => ?_⟩
          · rw [zip_len] at e
            omega
          · obtain ⟨x, y, hx, hy, rfl⟩ := zip_at hd
            obtain ⟨v, h3, h4⟩ := (r1.ext' sm).at hx
            obtain ⟨u', h5, h6⟩ := (r2.ext' sm).at hy
            refine ⟨⟨vs, us, v, u', s1, s2, h3, h5⟩, fun z H5 yy => ?_⟩
            obtain ⟨T, x', y', rfl, np, rfl, y1, y2⟩ := yy
            have z1 := y1 vs s1
            have z2 := y2 us s2
            rw [h3] at z1
            rw [h5] at z2
            cases z1
            cases z2
            exact ⟨_, laid_tup rb4 np (.cons h4 (.cons h6 .nil))⟩
        · rw [zip_len]
          have hl : vs.length ≤ sizeLine := lim a1 vs (.inl (SqL.of (rb.sub _ _ f1)))
          omega
  · rename_i xs ys
    cases rp1 with
    | @tup a1 vs _ f1 r1 =>
      cases rp2 with
      | @tup a2 us _ f2 r2 =>
        have l1 := r1.length
        have l2 := r2.length
        refine ⟨a1, a2, vs, us, rfl, .inr ⟨sqT_ext rb.sub f1, sqT_ext rb.sub f2, fun lim => q _ (zipD xs ys) F2 H2 n2 rb (fun i F4 H4 n4 sm rb4 hi => ?_) ?_ hq2⟩⟩
        · have s1 : SqT X.K H4 a1 vs := sqT_ext rb4.sub (sqT_ext sm f1)
          have s2 : SqT X.K H4 a2 us := sqT_ext rb4.sub (sqT_ext sm f2)
          refine ⟨fun e => ⟨vs, us, s1, s2, ?_⟩, fun d hd => ?_⟩
          · rw [zip_len] at e
            omega
          · obtain ⟨x, y, hx, hy, rfl⟩ := zip_at hd
            obtain ⟨v, h3, h4⟩ := (r1.ext' sm).at hx
            obtain ⟨u', h5, h6⟩ := (r2.ext' sm).at hy
            refine ⟨⟨vs, us, v, u', s1, s2, h3, h5⟩, fun z H5 yy => ?_⟩
            obtain ⟨T, x', y', rfl, np, rfl, y1, y2⟩ := yy
            have z1 := y1 vs s1
            have z2 := y2 us s2
            rw [h3] at z1
            rw [h5] at z2
            cases z1
            cases z2
            exact ⟨_, laid_tup rb4 np (.cons h4 (.cons h6 .nil))⟩
        · rw [zip_len]
          have hl : vs.length ≤ sizeLine := lim a1 vs (.inr (sqT_ext rb.sub f1))
          omega
end
end Dl
namespace Dz
open PySem PySem.Spec PyProof.Rows
open PySem.Sem (wp)
open HT
/-! ### t[::-1], t[:0:-1] of a tuple -/
theorem down_map (n d : Nat) : (List.range (n - d)).map (fun m => n - 1 - m) = ((List.range (n - d)).map (d + ·)).reverse := by
  apply List.ext_getElem
  · simp
  · intro i h1 h2
    simp only [List.length_map, List.length_range] at h1
    rw [List.getElem_map, List.getElem_reverse, List.getElem_map]
    simp only [List.getElem_range, List.length_map, List.length_range]
    omega
theorem fm_congr {α β : Type} {f g : α → Option β} : ∀ {l : List α}, (∀ x ∈ l, f x = g x) → l.filterMap f = l.filterMap g
  | [], _ => rfl
  | x :: l, h => by
    rw [List.filterMap_cons, List.filterMap_cons, h x List.mem_cons_self, fm_congr fun y hy => h y (List.mem_cons_of_mem _ hy)]
theorem pick_down (xs : Array Value) (d : Nat) : ((List.range (xs.size - d)).filterMap fun (m : Nat) => xs[(((xs.size : Nat) : Int) - 1 + (m : Int) * (-1)).toNat]?).toArray = ((xs.toList.drop d).reverse).toArray := by
  have e : (List.range (xs.size - d)).filterMap (fun (m : Nat) => xs[(((xs.size : Nat) : Int) - 1 + (m : Int) * (-1)).toNat]?) = ((List.range (xs.size - d)).map (fun m => xs.size - 1 - m)).filterMap (xs[·]?) := by
    rw [List.filterMap_map]
    refine fm_congr fun m hm => ?_
    have := List.mem_range.mp hm
    show _ = xs[xs.size - 1 - m]?
    congr 1
    omega
  rw [e, down_map, List.filterMap_reverse, pick_run, List.take_of_length_le (by rw [List.length_drop, Array.length_toList]; exact Nat.le_refl _)]
/-- the part behind the colon: left out, or 0 -/
def stopOf : Nat → Option Int
  | 0 => none
  | _ => some 0
theorem adjust_down (n d : Nat) (hd : d ≤ 1) : Builtin.Slice.sliceAdjust none (stopOf d) (-1) (n : Int) = ((n : Int) - 1, min ((d : Int) - 1) ((n : Int) - 1)) := by
  unfold Builtin.Slice.sliceAdjust
  have h1 : ((-1 : Int) < 0) := by omega
  simp only [h1, if_true]
  match d, hd with
  | 0, _ =>
    refine Prod.ext rfl ?_
    show (-1 : Int) = _
    omega
  | 1, _ =>
    refine Prod.ext rfl ?_
    show (if (0 : Int) < 0 then max ((0 : Int) + (n : Int)) (-1) else min 0 ((n : Int) - 1)) = _
    rw [if_neg (by omega)]
    omega
theorem places_down (n d : Nat) (hd : d ≤ 1) : Builtin.Slice.slicePlaces ((n : Int) - 1) (min ((d : Int) - 1) ((n : Int) - 1)) (-1) = n - d := by
  unfold Builtin.Slice.slicePlaces
  have h1 : ¬ ((-1 : Int) > 0) := by omega
  have e : (- -1 : Int) = 1 := by decide
  simp only [h1, if_false, e, Int.ediv_one]
  split <;> omega
section
variable {prog : Program} {w : World} {A : Around} {E : Value → Shared → Prop} {s : Shared}
theorem sliceApplied_down {sl : Addr} {vl vu vs : Value} {d n : Nat} {Q : Int × Int × Nat → Shared → Prop} (hd : d ≤ 1) (hs : s.heap.IsSliceOf sl vl vu vs) (pl : IsPart vl none) (pu : IsPart vu (stopOf d)) (ps : IsPart vs (some (-1)))
    (h : Q ((n : Int) - 1, -1, n - d) s) : wpAny (model prog w) A (Builtin.Slice.sliceApplied (.ref sl) (pure (n : Int))) Q E s := by
  obtain ⟨os, hos, hcs, hds⟩ := id hs
  unfold Builtin.Slice.sliceApplied Builtin.Slice.sliceFields
  refine wpAny_bind (wpAny_bind (wpAny_field hos hds (x := vl) rfl (wpAny_bind (wpAny_field hos hds (x := vu) rfl (wpAny_bind (wpAny_field hos hds (x := vs) rfl (wpAny_pure ?_)))))))
  refine wpAny_bind (slicePart_ ps ?_)
  show wpAny _ _ (if ((-1 : Int) == 0) = true then _ else _) _ _ s
  rw [if_neg (by decide)]
  refine wpAny_bind (slicePart_ pl (wpAny_bind (slicePart_ pu (wpAny_bind (wpAny_pure ?_)))))
  show wpAny _ _ (match Builtin.Slice.sliceAdjust none (stopOf d) (-1) (n : Int) with | (lo, hi) => pure (lo, (-1 : Int), Builtin.Slice.slicePlaces lo hi (-1))) _ _ s
  rw [adjust_down n d hd]
  show wpAny _ _ (pure ((n : Int) - 1, (-1 : Int), Builtin.Slice.slicePlaces ((n : Int) - 1) (min ((d : Int) - 1) ((n : Int) - 1)) (-1))) _ _ s
  rw [places_down n d hd]
  exact wpAny_pure h
theorem getItem_tuple_down {t sl : Addr} {items : Array Value} {vl vu vs : Value} {d : Nat} {Q : Value → Shared → Prop} (hd : d ≤ 1) (ht : IsTup s.heap t items) (hs : s.heap.IsSliceOf sl vl vu vs) (pl : IsPart vl none) (pu : IsPart vu (stopOf d)) (ps : IsPart vs (some (-1)))
    (h : Q (.ref s.heap.objs.size) { s with heap := s.heap.push { cls := .type "tuple", data := .seq ((items.toList.drop d).reverse).toArray } })
    (hsz : items.size ≤ sizeLine) : wpAny (model prog w) A (getItem (.ref t) (.ref sl)) Q E s := by
  have htake : sizeOk (.seq ((items.toList.drop d).reverse).toArray) := by
    show ((items.toList.drop d).reverse).toArray.size ≤ sizeLine
    rw [List.size_toArray, List.length_reverse, List.length_drop, Array.length_toList]
    omega
  obtain ⟨os, hos, hcs, hds⟩ := id hs
  have hTs : s.TypeIs (.ref sl) "slice" := ⟨os, hos, hcs⟩
  unfold getItem
  try with_reducible refine wpAny_holding ?_
  first | refine wpAny_bind (wpAny_pure ?_) | skip
  refine wpAny_bind (wpAny_sequenceKey ht.typeIs (by decide) ?_)
  refine wpAny_bind (wpAny_callSpecial?_slot (name := Str.ofString "__getitem__") ht.typeIs PyProof.Rows.slot_tuple_getitem
    (wpAny_call_entry PyProof.Rows.slot_tuple_getitem ht.typeIs entry_tuple_getitem ?_ (args_tuple_getitem _ _)))
  show wpAny _ _ (Builtin.Tuple.tupleItemsOf (.ref t) >>= _) _ _ s
  refine wpAny_bind (tupleItemsOf_ ht ?_)
  refine wpAny_bind (wpAny_typeOf hTs ?_)
  rw [if_pos (by decide)]
  refine wpAny_bind (sliceApplied_down hd hs pl pu ps ?_)
  have hno : ¬ (((((items.size : Nat) : Int) - 1) == 0 && (-1 : Int) == 1 && (items.size - d) == items.size) = true) := by
    intro q
    rw [Bool.and_eq_true, Bool.and_eq_true] at q
    exact absurd q.1.2 (by decide)
  show wpAny _ _ (if ((((items.size : Nat) : Int) - 1) == 0 && (-1 : Int) == 1 && (items.size - d) == items.size) = true then _ else _) _ _ s
  rw [if_neg hno, pick_down]
  first
    | exact wpAny_bind (m := Builtin.Tuple.tupleExact _) (wpAny_newObj_type (wpAny_pure ⟨_, rfl, wpAny_pure h⟩) htake)
    | exact wpAny_bind (m := Builtin.Tuple.tupleExact _) (wpAny_newObj_type (wpAny_bind (wpAny_pure (wpAny_pure ⟨_, rfl, wpAny_pure h⟩))) htake)
    | exact wpAny_bind (wpAny_bind (m := Builtin.Tuple.tupleExact _) (wpAny_newObj_type (wpAny_pure (wpAny_pure ⟨_, rfl, wpAny_pure h⟩)) htake))
    | exact wpAny_bind (wpAny_bind (m := Builtin.Tuple.tupleExact _) (wpAny_newObj_type (wpAny_pure ⟨_, rfl, wpAny_pure h⟩) htake))
end
end Dz

namespace Dl
open PySem PySem.Spec L2
open PyProof.Rows hiding St
open Dz
def tDown (K : PySem.W.Frag) (d : Nat) (te : TE) : TE := fun σ H Q => te σ H fun x H1 => ∃ a xs, x = .ref a ∧ SqT K H1 a xs ∧ ∀ p, H1 p = none → Q (.ref p) (upd H1 p (.tup (xs.drop d).reverse))
/-- what stands behind the colon says so -/
def Stops (X : Cx) (hi : Option Expr) (d : Nat) : Prop := ∃ t : TO, PO X hi t ∧ ∀ (σ : L2.St) (H : Hp) (Q : Option Int → Hp → Prop), Q (stopOf d) H → t σ H Q
theorem stops0 {X : Cx} : Stops X none 0 := ⟨_, po_none, fun σ H Q q => q⟩
theorem stops1 {X : Cx} {k : Nat} {p : Pos} : Stops X (some (.Constant (.int 0) k p)) 1 := ⟨_, po_some pe_int, fun σ H Q q => ⟨0, rfl, q⟩⟩
theorem pe_down {X : Cx} {e : Expr} {te : TE} {hi : Option Expr} {d k : Nat} {p1 p2 p3 pos : Pos} (hd : d ≤ 1) (he : PE X e te) (hh : Stops X hi d) : PE X (.Subscript e (.Slice none hi (some (.UnaryOp .USub (.Constant (.int 1) k p1) p2)) p3) pos) (tDown X.K d te) := by
  obtain ⟨th, ph, qh⟩ := hh
  refine ⟨fun pins s σ H Q I h => ?_⟩
  refine Subscript_ (thn (he.run pins s σ H _ I h) fun v s1 ⟨x, H1, I1, r1, q1⟩ => ?_)
  obtain ⟨a, xs, ex, hx, q⟩ := q1
  subst ex
  cases r1
  have hst : PO X (some (.UnaryOp .USub (.Constant (.int 1) k p1) p2)) (tPart (tUn (rU fun i => .int (-i)) (tC (.int 1)))) := po_some (pe_un un_neg pe_int)
  refine wpAny_Slice (thn (po_none.run pins s1 σ H1 (fun o H2 => o = none ∧ H2 = H1) I1 ⟨rfl, rfl⟩) fun vl s2 ⟨l, H2, I2, pl, el, e2⟩ => ?_)
  subst el e2
  refine thn (ph.run pins s2 σ H2 (fun o H3 => o = stopOf d ∧ H3 = H2) I2 (qh σ H2 _ ⟨rfl, rfl⟩)) fun vu s3 ⟨u, H3, I3, pu, eu, e3⟩ => ?_
  subst eu e3
  refine thn (hst.run pins s3 σ H3 (fun o H4 => o = some (-1) ∧ H4 = H3) I3 ⟨1, rfl, -1, rfl, rfl, rfl⟩) fun vs s4 ⟨o, H4, I4, ps, eo, e4⟩ => ?_
  subst eo e4
  have I5 : Inv X pins σ H4 { s4 with heap := s4.heap.push { cls := .type "slice", data := .fields #[vl, vu, vs] } } := I4.kept (t' := s4.toks) fun b ob q => Heap.get?_push_of_some _ q
  obtain ⟨its, r, ht, hz⟩ := I5.tuple hx
  have hlen := r.length
  show wpAny (model X.prog X.w) X.A (subscriptTail e (.Slice none hi (some (.UnaryOp .USub (.Constant (.int 1) k p1) p2)) p3) (.ref a) (.ref s4.heap.objs.size)) (EP X pins σ Q) X.xe { s4 with heap := s4.heap.push { cls := .type "slice", data := .fields #[vl, vu, vs] } }
  refine tail_any (ops := [.ref a, .ref s4.heap.objs.size]) ht.typeIs (PyProof.Rows.slot_tuple_getitem.lookup) ?_ (by with_unfolding_all rfl)
  refine getItem_tuple_down hd ht (Heap.IsSliceOf.new _ vl vu vs) pl pu ps ?_ (by rw [List.size_toArray]; omega)
  refine ⟨.ref _, _, I5.laid (t' := s4.toks) (o := .tup (xs.drop d).reverse) (fun b ob q => Heap.get?_push_of_some _ q) (Nat.le_refl _) ?_, rfl, q _ (I5.hok.fresh (Nat.le_refl _))⟩
  refine ⟨by rw [List.length_reverse, List.length_drop]; omega, _, (r.drop d).reverse, ⟨_, Heap.get?_push_size _ rfl, rfl, _, rfl⟩⟩
def oDown (k : Nat) (d : Dt) : Mv Dt := match d with
  | .tuple xs => ret (.tuple (xs.drop k).reverse)
  | _ => bad
theorem RpAll.revDrop {K : PySem.W.Frag} {F : Hp} {vs : List V} {ds : List Dt} (h : RpAll K F vs ds) (k : Nat) : RpAll K F (vs.drop k).reverse (ds.drop k).reverse := (h.drop k).rev
theorem de_down {X : Cx} {g : Gh} {a : Expr} {hi : Option Expr} {ma : Me Dt} {d k : Nat} {p1 p2 p3 pos : Pos} (hd : d ≤ 1) (ha : DX X g a ma) (hh : Stops X hi d) : DE X g (.Subscript a (.Slice none hi (some (.UnaryOp .USub (.Constant (.int 1) k p1) p2)) p3) pos) (fun δ => bnd (ma δ) (oDown d)) := by
  obtain ⟨t, p, ha⟩ := ha
  refine ⟨_, pe_down hd p hh, fun σ H F δ n Q Qd R q w => ha σ H F δ n _ _ R (fun v x F1 H1 n1 rb rp hq => ?_) w⟩
  cases x with
  | tuple xs =>
    have rp' := rp.dat fun _ e => nomatch e
    cases rp' with
    | @tup a vs _ h1 r1 =>
      refine ⟨a, vs, rfl, sqT_ext rb.sub h1, fun p np => ?_⟩
      obtain ⟨l1, l2⟩ := laid_tup rb np (r1.revDrop d)
      exact q _ _ _ _ n1 l1 l2 hq
  | _ => exact hq.elim
theorem de_revT {X : Cx} {g : Gh} {a : Expr} {ma : Me Dt} {k : Nat} {p1 p2 p3 pos : Pos} (ha : DX X g a ma) : DE X g (.Subscript a (.Slice none none (some (.UnaryOp .USub (.Constant (.int 1) k p1) p2)) p3) pos) (fun δ => bnd (ma δ) (oDown 0)) := de_down (Nat.zero_le _) ha stops0
theorem de_revT1 {X : Cx} {g : Gh} {a : Expr} {ma : Me Dt} {k j : Nat} {p1 p2 p3 p4 pos : Pos} (ha : DX X g a ma) : DE X g (.Subscript a (.Slice none (some (.Constant (.int 0) j p4)) (some (.UnaryOp .USub (.Constant (.int 1) k p1) p2)) p3) pos) (fun δ => bnd (ma δ) (oDown 1)) := de_down (Nat.le_refl _) ha stops1
end Dl
namespace Dl
open PySem PySem.Spec L2
open PyProof.Rows hiding St
def oUpper : Dt → List Dt → Mv Dt := o10 (fun a => a.length ≤ 5592405) fun a => .str (Txt.upper a)
theorem de_upper {X : Cx} {g : Gh} {a : Expr} {ma : Me Dt} {pos apos : Pos} (ha : DX X g a ma) (hbase : attributeBase a "upper" X.env (eval a X.env) = eval a X.env := by rfl) (hline : (apos.endLine == pos.line) = true := by rfl) :
    DE X g (.Call (.Attribute a "upper" apos) [] [] pos) (fun δ => bnd (ma δ) fun d => onStr d (oUpper d [])) := de_m0 F.slot_str_upper F.type_str_upper mt_upper xm_s0 ha hbase hline
def revT (x : Str) : Str := ⟨x.cps.toList.reverse.toArray⟩
theorem rev_made (x : Str) (t k : Tok) : sliceMade x t none none (some (-1, k)) = .str (revT x) := by
  unfold sliceMade
  rw [if_neg (by
    intro q
    rw [Bool.and_eq_true] at q
    exact absurd q.1 (show ¬ (((-1 : Int) == 1) = true) by decide))]
  unfold slicePicked revT
  have e : Builtin.Str.strSliceIndices (Option.map (·.1) (none : Option (Int × Tok))) (Option.map (·.1) (none : Option (Int × Tok))) ((Option.map (·.1) (some ((-1 : Int), k))).getD 1) x.length = sliceRange ((x.length : Int) - 1) (-1) (-1) := rfl
  rw [e, PySem.W.krv_sliceRange, PySem.W.krv_range, List.filterMap_reverse]
  have e2 : (List.range x.length).filterMap (x.cps[·]?) = x.cps.toList := PySem.W.krv_all x.cps
  rw [e2]
def tRevS (te : TE) : TE := fun σ H Q => te σ H fun x H1 => ∃ z, x = .str z ∧ z.length ≤ sizeLine ∧ Q (.str (revT z)) H1
theorem revT_len (z : Str) : (revT z).length = z.length := by unfold revT Str.length; simp
theorem pe_revS {X : Cx} {e : Expr} {te : TE} {k : Nat} {p1 p2 p3 pos : Pos} (he : PE X e te) : PE X (.Subscript e (.Slice none none (some (.UnaryOp .USub (.Constant (.int 1) k p1) p2)) p3) pos) (tRevS te) := by
  refine ⟨fun pins s σ H Q I h => ?_⟩
  refine Subscript_ (thn (he.run pins s σ H _ I h) fun v s1 ⟨x, H1, I1, r1, q1⟩ => ?_)
  obtain ⟨z, ex, hz, q⟩ := q1
  subst ex
  obtain ⟨tz, rfl⟩ := r1
  have hst : PO X (some (.UnaryOp .USub (.Constant (.int 1) k p1) p2)) (tPart (tUn (rU fun i => .int (-i)) (tC (.int 1)))) := po_some (pe_un un_neg pe_int)
  refine wpAny_Slice (thn (po_none.run pins s1 σ H1 (fun o H2 => o = none ∧ H2 = H1) I1 ⟨rfl, rfl⟩) fun vl s2 ⟨l, H2, I2, pl, el, e2⟩ => ?_)
  subst el e2
  refine thn (po_none.run pins s2 σ H2 (fun o H3 => o = none ∧ H3 = H2) I2 ⟨rfl, rfl⟩) fun vu s3 ⟨u, H3, I3, pu, eu, e3⟩ => ?_
  subst eu e3
  refine thn (hst.run pins s3 σ H3 (fun o H4 => o = some (-1) ∧ H4 = H3) I3 ⟨1, rfl, -1, rfl, rfl, rfl⟩) fun vs s4 ⟨o, H4, I4, ps, eo, e4⟩ => ?_
  subst eo e4
  cases pl
  cases pu
  cases ps with
  | int i tk =>
    have I5 : Inv X pins σ H4 { s4 with heap := s4.heap.push { cls := .type "slice", data := .fields #[.none, .none, .int (-1) tk] } } := I4.kept (t' := s4.toks) fun b ob q => Heap.get?_push_of_some _ q
    show wpAny (model X.prog X.w) X.A (subscriptTail e (.Slice none none (some (.UnaryOp .USub (.Constant (.int 1) k p1) p2)) p3) (.str z tz) (.ref s4.heap.objs.size)) (EP X pins σ Q) X.xe { s4 with heap := s4.heap.push { cls := .type "slice", data := .fields #[.none, .none, .int (-1) tk] } }
    refine tail_any (ops := [.str z tz, .ref s4.heap.objs.size]) (typeIs_str _ z tz) (PySem.F.slot_str_getitem.lookup) ?_ (by with_unfolding_all rfl)
    refine wpAny_getItem_str_slice (l := none) (u := none) (st := some (-1, tk)) ⟨_, Heap.get?_push_size _ rfl, rfl, rfl⟩ rfl ?_
    rw [rev_made]
    exact ⟨by rw [revT_len]; exact hz, .str (revT z), H4, I5.tok _, ⟨_, rfl⟩, q⟩
def oRevS (d : Dt) : Mv Dt := match d with
  | .str x => grd (x.length ≤ sizeLine) (ret (.str (revT x)))
  | _ => bad
theorem de_revS {X : Cx} {g : Gh} {a : Expr} {ma : Me Dt} {k : Nat} {p1 p2 p3 pos : Pos} (ha : DX X g a ma) : DE X g (.Subscript a (.Slice none none (some (.UnaryOp .USub (.Constant (.int 1) k p1) p2)) p3) pos) (fun δ => bnd (ma δ) oRevS) := by
  obtain ⟨t, p, ha⟩ := ha
  refine ⟨_, pe_revS p, fun σ H F δ n Q Qd R q w => ha σ H F δ n _ _ R (fun v x F1 H1 n1 rb rp hq => ?_) w⟩
  cases x with
  | str x =>
    have hv := rp.str
    exact ⟨x, hv, hq.1, q _ _ F1 H1 n1 rb (.str _) hq.2⟩
  | _ => exact hq.elim
end Dl
namespace Dl
open PySem PySem.Spec L2
open PyProof.Rows hiding St
/-! ### texts of plain signs, of bounded length -/
structure Tas (B : Nat) (x : Str) : Prop where
  l : x.length ≤ B
  s : ∀ c ∈ cp x, ascC c = true
theorem Tas.oq {B : Nat} {x : Str} (t : Tas B x) : Oq B 0 (.str x) := Oq.str t.l (List.all_eq_true.mpr t.s)
theorem Oq.tas {w h : Nat} {x : Str} (o : Oq w h (.str x)) : Tas w x := ⟨o.len, List.all_eq_true.mp o.signs⟩
theorem Tas.more {B C : Nat} {x : Str} (t : Tas B x) (h : B ≤ C) : Tas C x := ⟨Nat.le_trans t.l h, t.s⟩
theorem cutS_len (x : Str) (lo hi : Option Int) : (Txt.slice x lo hi).length ≤ x.length := by
  rw [← C8.cutS_slice]
  unfold cutS
  show Array.size _ ≤ _
  rw [List.size_toArray, List.length_take, List.length_drop]
  have e : x.cps.toList.length = x.length := by simp [Str.length]
  omega
theorem Tas.slice {B : Nat} {x : Str} (t : Tas B x) (lo hi : Option Int) : Tas B (Txt.slice x lo hi) := by
  refine ⟨Nat.le_trans (cutS_len x lo hi) t.l, fun c hc => ?_⟩
  rw [← C8.cutS_slice] at hc
  unfold cutS at hc
  have hc : c ∈ (x.cps.toList.drop (HT.sIx x.length 0 lo)).take (HT.sIx x.length x.length hi - HT.sIx x.length 0 lo) := by simpa [cp] using hc
  exact t.s c (List.mem_of_mem_drop (List.mem_of_mem_take hc))
theorem Tas.rev {B : Nat} {x : Str} (t : Tas B x) : Tas B (revT x) := by
  refine ⟨by rw [revT_len]; exact t.l, fun c hc => t.s c ?_⟩
  unfold revT cp at hc
  simpa using hc
theorem upper_asc : ∀ c : Nat, ascC c = true → ∃ d, Unicode.upperOf c = [d] ∧ ascC d = true := by
  have key : (List.range 128).all (fun c => !ascC c || (match Unicode.upperOf c with | [d] => ascC d | _ => false)) = true := by decide +kernel
  intro c hc
  have hl : c < 128 := by
    unfold ascC at hc
    simp only [Bool.or_eq_true, beq_iff_eq, Bool.and_eq_true, decide_eq_true_eq] at hc
    omega
  have z := List.all_eq_true.mp key c (List.mem_range.mpr hl)
  rw [hc] at z
  cases e : Unicode.upperOf c with
  | nil => rw [e] at z; cases z
  | cons d r =>
    cases r with
    | nil => rw [e] at z; exact ⟨d, rfl, z⟩
    | cons _ _ => rw [e] at z; cases z
theorem flat_one {g : Nat → Bool} : ∀ (l : List Nat) (f : Nat → List Nat), (∀ c ∈ l, ∃ d, f c = [d] ∧ g d = true) → (l.flatMap f).length = l.length ∧ ∀ d ∈ l.flatMap f, g d = true
  | [], _, _ => ⟨rfl, fun _ h => nomatch h⟩
  | c :: l, f, h => by
    obtain ⟨d, e, hd⟩ := h c List.mem_cons_self
    obtain ⟨h1, h2⟩ := flat_one l f fun x hx => h x (List.mem_cons_of_mem _ hx)
    rw [List.flatMap_cons, e]
    refine ⟨by rw [List.length_append, h1]; simp only [List.length_cons, List.length_nil]; omega, fun x hx => ?_⟩
    rcases List.mem_append.mp hx with hx | hx
    · rw [List.mem_singleton.mp hx]; exact hd
    · exact h2 x hx
theorem mapIdx_flat {f : Nat → List Nat} : ∀ l : List Nat, List.map Array.toList (List.mapIdx (fun _ c => (f c).toArray) l) = List.map f l
  | [] => rfl
  | c :: l => by
    rw [List.mapIdx_cons, List.map_cons, List.map_cons, mapIdx_flat l]
theorem upper_cp (x : Str) : cp (Txt.upper x) = (cp x).flatMap Unicode.upperOf := by
  unfold Txt.upper placed cp
  simp only [Array.toList_flatten, Array.toList_mapIdx, List.flatMap]
  rw [mapIdx_flat]
theorem Tas.upper {B : Nat} {x : Str} (t : Tas B x) : Tas B (Txt.upper x) := by
  obtain ⟨h1, h2⟩ := flat_one (g := ascC) (cp x) Unicode.upperOf fun c hc => upper_asc c (t.s c hc)
  rw [← upper_cp] at h1 h2
  refine ⟨?_, h2⟩
  have e : ∀ y : Str, (cp y).length = y.length := fun y => by simp [cp, Str.length]
  rw [← e, h1, e]
  exact t.l
theorem Tas.ofInt {i : Int} (h : i.natAbs < 10 ^ 40) : Tas 41 ((toString i : String) : Str) := by
  refine ⟨?_, fun c hc => ?_⟩
  · have z := int_text_length_le10 (a := i) (k := 40) (by decide) h
    show (Str.ofString (toString i)).length ≤ 41
    rw [len_ofString]
    omega
  · by_cases hz : c ≠ 45 ∧ (c < 48 ∨ 57 < c)
    · exact absurd hc (int_text_free' c hz i)
    · unfold ascC
      simp only [Bool.or_eq_true, beq_iff_eq, Bool.and_eq_true, decide_eq_true_eq]
      omega
end Dl
namespace Dl
open PySem PySem.Spec L2
open PyProof.Rows hiding St
/-! ### worths all of whose leaves are good -/
/-- the forms of leaves -/
def leafS : Dt → Bool
  | .none => true | .bool _ => true | .int _ => true | .str _ => true
  | .tuple [.str x, .int _] => x != ("row" : Str)
  | .tuple [.str x, .str _, .str _] => x != ("row" : Str)
  | _ => false
theorem isName_str {d : Dt} (h : isName d = true) : ∃ x, d = .str x := by
  cases d <;> first | exact ⟨_, rfl⟩ | cases h
theorem named_cases {d : Dt} (h : isNamed d = true) : (∃ i, d = .tuple [.str "thing", .int i] ∧ great i = true) ∨ ∃ x y z, d = .tuple [.str x, .str y, .str z] ∧ (x = "deed" ∨ x = "kind") ∧ isName (.str y) = true ∧ isName (.str z) = true := by
  unfold isNamed at h
  split at h
  · rw [Bool.and_eq_true, decide_eq_true_eq] at h
    rw [h.1]
    exact .inl ⟨_, rfl, h.2⟩
  · rw [Bool.and_eq_true, Bool.and_eq_true, Bool.or_eq_true, decide_eq_true_eq, decide_eq_true_eq] at h
    obtain ⟨⟨h1, h2⟩, h3⟩ := h
    obtain ⟨y, rfl⟩ := isName_str h2
    obtain ⟨z, rfl⟩ := isName_str h3
    exact .inr ⟨_, y, z, rfl, h1, h2, h3⟩
  · cases h
theorem leafGood_S {d : Dt} (h : leafGood d = true) : leafS d = true := by
  unfold leafGood at h
  rw [Bool.or_eq_true] at h
  rcases h with h | h
  · cases d <;> first | rfl | cases h
  · rcases named_cases h with ⟨i, rfl, _⟩ | ⟨x, y, z, rfl, hx | hx, _⟩
    · exact (by decide +kernel : (("thing" : Str) != ("row" : Str)) = true)
    · rw [hx]; exact (by decide +kernel : (("deed" : Str) != ("row" : Str)) = true)
    · rw [hx]; exact (by decide +kernel : (("kind" : Str) != ("row" : Str)) = true)
theorem leafS_row {d : Dt} (h : leafS d = true) : rowOf d = none := by
  cases hr : rowOf d with
  | none => rfl
  | some ps =>
    rw [rowOf_some hr] at h
    cases ps <;> simp [leafS] at h
theorem leaf_row {d : Dt} (h : leafGood d = true) : rowOf d = none := leafS_row (leafGood_S h)
def wellD (d : Dt) : Bool := (lv d).all leafGood
def wellsD (ps : List Dt) : Bool := (lvs ps).all leafGood
theorem well_leaf {d : Dt} (h : rowOf d = none) (w : wellD d = true) : leafGood d = true := by
  unfold wellD at w
  rw [lv_leaf h, List.all_cons, List.all_nil, Bool.and_true] at w
  exact w
theorem well_leafS {d : Dt} (h : rowOf d = none) (w : wellD d = true) : leafS d = true := leafGood_S (well_leaf h w)
theorem well_row {d : Dt} {ps : List Dt} (h : rowOf d = some ps) : wellD d = wellsD ps := by
  unfold wellD wellsD
  rw [lv_row h]
theorem wellsD_nil : wellsD [] = true := by unfold wellsD; rw [lvs]; rfl
theorem wellsD_cons (p : Dt) (ps : List Dt) : wellsD (p :: ps) = (wellD p && wellsD ps) := by
  unfold wellsD wellD
  rw [lvs, List.all_append, Bool.and_comm]
theorem wells_mem : ∀ {ps : List Dt}, wellsD ps = true → ∀ p ∈ ps, wellD p = true
  | p :: ps, h, q, hq => by
    rw [wellsD_cons, Bool.and_eq_true] at h
    rcases List.mem_cons.mp hq with rfl | hq
    · exact h.1
    · exact wells_mem h.2 q hq
theorem wells_of : ∀ {ps : List Dt}, (∀ p ∈ ps, wellD p = true) → wellsD ps = true
  | [], _ => wellsD_nil
  | p :: ps, h => by
    rw [wellsD_cons, h p List.mem_cons_self, wells_of fun q hq => h q (List.mem_cons_of_mem _ hq)]
    rfl
theorem leaf_well {d : Dt} (h : leafGood d = true) : wellD d = true := by
  unfold wellD
  rw [lv_leaf (leaf_row h), List.all_cons, h]
  rfl
theorem row_well {ds : List Dt} (h : ∀ d ∈ ds, wellD d = true) : wellD (.tuple [.str "row", .tuple ds]) = true := by
  rw [well_row (rowOf_row ds)]
  exact wells_of h
theorem leafInt {i : Int} (h0 : -1000000000000000 ≤ i) (h1 : i ≤ 1000000000000000) : leafGood (.int i) = true := by
  show ((decide (-1000000000000000 ≤ i) && decide (i ≤ 1000000000000000)) || false) = true
  rw [decide_eq_true h0, decide_eq_true h1]
  rfl
theorem leafThing {i : Int} (h0 : 0 ≤ i) (h1 : i ≤ 1000000000000000) : leafGood (.tuple [.str "thing", .int i]) = true := by
  show (false || (decide (("thing" : Str) = ("thing" : Str)) && (decide (0 ≤ i) && decide (i ≤ 1000000000000000)))) = true
  rw [decide_eq_true h0, decide_eq_true h1]
  decide +kernel
theorem leafDeed {x : Str} {y z : Dt} (hx : x = "deed" ∨ x = "kind") (hy : isName y = true) (hz : isName z = true) : leafGood (.tuple [.str x, y, z]) = true := by
  obtain ⟨a, rfl⟩ := isName_str hy
  show (false || ((decide (x = ("deed" : Str)) || decide (x = ("kind" : Str))) && isName (.str a) && isName z)) = true
  rw [hy, hz]
  rcases hx with rfl | rfl <;> decide +kernel
theorem leafText {x : Str} (h : isText (.str x) = true) : leafGood (.str x) = true := by
  show (isText (.str x) || false) = true
  rw [h]
  rfl
/-! ### cuts -/
theorem cut_take {ds : List Dt} {r : Int} (h0 : 0 ≤ r) : Dl.cutD ds none (some r) = ds.take r.toNat := by
  unfold Dl.cutD
  have e : HT.sIx ds.length ds.length (some r) = min r.toNat ds.length := by
    show (if r < 0 then (r + (ds.length : Int)).toNat else min r.toNat ds.length) = _
    rw [if_neg (by omega)]
  rw [e]
  show (ds.drop 0).take (min r.toNat ds.length - 0) = _
  rw [List.drop_zero, Nat.sub_zero, List.take_eq_take_iff]
  omega
theorem cut_drop {ds : List Dt} {r : Int} (h0 : 0 ≤ r) : Dl.cutD ds (some r) none = ds.drop r.toNat := by
  unfold Dl.cutD
  have e : HT.sIx ds.length 0 (some r) = min r.toNat ds.length := by
    show (if r < 0 then (r + (ds.length : Int)).toNat else min r.toNat ds.length) = _
    rw [if_neg (by omega)]
  rw [e]
  show (ds.drop (min r.toNat ds.length)).take (ds.length - min r.toNat ds.length) = _
  rw [List.take_of_length_le (by rw [List.length_drop]; exact Nat.le_refl _)]
  by_cases z : r.toNat ≤ ds.length
  · rw [Nat.min_eq_left z]
  · rw [Nat.min_eq_right (by omega), List.drop_eq_nil_of_le (Nat.le_refl _), List.drop_eq_nil_of_le (by omega)]
theorem cut_init {ds : List Dt} : Dl.cutD ds none (some (-1)) = ds.take (ds.length - 1) := by
  unfold Dl.cutD
  have e : HT.sIx ds.length ds.length (some (-1)) = ds.length - 1 := by
    show (if (-1 : Int) < 0 then (-1 + (ds.length : Int)).toNat else min (-1 : Int).toNat ds.length) = _
    rw [if_pos (by omega)]
    omega
  rw [e]
  show (ds.drop 0).take (ds.length - 1 - 0) = _
  rw [List.drop_zero, Nat.sub_zero]
/-! ### weights of parts -/
theorem weight_append (a b : List Dt) : PyData.weightAll (a ++ b) = PyData.weightAll a + PyData.weightAll b := Oqs.weight_app a b
theorem weight_rev (a : List Dt) : PyData.weightAll a.reverse = PyData.weightAll a := by
  induction a with
  | nil => rfl
  | cons x a ih => rw [List.reverse_cons, weight_append, ih, PyData.weightAll, PyData.weightAll, PyData.weightAll]; omega
theorem weight_take (a : List Dt) (n : Nat) : PyData.weightAll (a.take n) + PyData.weightAll (a.drop n) = PyData.weightAll a := by
  rw [← weight_append, List.take_append_drop]
theorem weight_tup (ps : List Dt) : (PyData.tuple ps).weight = PyData.weightAll ps := by simp only [PyData.weight]
theorem weight_two (a b : Dt) : (PyData.tuple [a, b]).weight = a.weight + 1 + (b.weight + 1 + 0) := by simp only [PyData.weight, PyData.weightAll]
theorem weight_row (ps : List Dt) : (PyData.tuple [.str "row", .tuple ps]).weight = PyData.weightAll ps + 5 := by
  have e : (PyData.str (Str.ofString "row")).weight = 3 := by decide +kernel
  rw [weight_two, weight_tup, e]
  omega
theorem depth_row (ps : List Dt) : (PyData.tuple [.str "row", .tuple ps]).depth = PyData.depthAll ps + 2 := by
  simp only [PyData.depth, PyData.depthAll]
  omega
theorem depthAll_mem : ∀ {ps : List Dt} {h : Nat}, (∀ p ∈ ps, p.depth ≤ h) → PyData.depthAll ps ≤ h
  | [], _, _ => Nat.zero_le _
  | p :: ps, h, a => by
    rw [PyData.depthAll]
    exact Nat.max_le.mpr ⟨a p List.mem_cons_self, depthAll_mem fun q hq => a q (List.mem_cons_of_mem _ hq)⟩
theorem depth_mem : ∀ {ps : List Dt} {p : Dt}, p ∈ ps → p.depth ≤ PyData.depthAll ps
  | q :: ps, p, h => by
    rw [PyData.depthAll]
    rcases List.mem_cons.mp h with rfl | h
    · exact Nat.le_max_left _ _
    · exact Nat.le_trans (depth_mem h) (Nat.le_max_right _ _)
/-! ### texts that are worths, sign by sign -/
def okS (c : Nat) : Bool := decide (32 ≤ (c : Int)) && decide ((c : Int) ≤ 126) && !inD (.int (c : Nat)) [.int 37, .int 39]
theorem okS_iff (c : Nat) : okS c = true ↔ 32 ≤ c ∧ c ≤ 126 ∧ c ≠ 37 ∧ c ≠ 39 := by
  have e : inD (.int (c : Nat)) [.int 37, .int 39] = ((37 == (c : Int)) || (39 == (c : Int))) := by
    unfold inD
    simp only [List.any_cons, List.any_nil, Bool.or_false, PyData.eqv]
  unfold okS
  rw [e]
  simp only [Bool.and_eq_true, decide_eq_true_eq, Bool.not_eq_true', Bool.or_eq_false_iff, beq_eq_false_iff_ne]
  omega
theorem isText_iff (x : Str) : isText (.str x) = true ↔ x.length ≤ 20 ∧ ∀ c ∈ cp x, okS c = true := by
  show (decide ((x.length : Int) ≤ 20) && (charsD x).all okSign) = true ↔ _
  unfold charsD
  rw [Bool.and_eq_true, decide_eq_true_eq, List.all_map, List.all_eq_true]
  constructor
  · exact fun h => ⟨by omega, h.2⟩
  · exact fun h => ⟨by omega, h.2⟩
theorem text_slice {x : Str} (h : isText (.str x) = true) (lo hi : Option Int) : isText (.str (Txt.slice x lo hi)) = true := by
  rw [isText_iff] at h ⊢
  refine ⟨Nat.le_trans (cutS_len x lo hi) h.1, fun c hc => ?_⟩
  rw [← C8.cutS_slice] at hc
  unfold cutS at hc
  have hc : c ∈ (x.cps.toList.drop (HT.sIx x.length 0 lo)).take (HT.sIx x.length x.length hi - HT.sIx x.length 0 lo) := by simpa [cp] using hc
  exact h.2 c (List.mem_of_mem_drop (List.mem_of_mem_take hc))
theorem text_rev {x : Str} (h : isText (.str x) = true) : isText (.str (revT x)) = true := by
  rw [isText_iff] at h ⊢
  refine ⟨by rw [revT_len]; exact h.1, fun c hc => h.2 c ?_⟩
  unfold revT cp at hc
  simpa using hc
theorem upper_ok : ∀ c : Nat, okS c = true → ∃ d, Unicode.upperOf c = [d] ∧ okS d = true := by
  have key : (List.range 128).all (fun c => !okS c || (match Unicode.upperOf c with | [d] => okS d | _ => false)) = true := by decide +kernel
  intro c hc
  have hl : c < 128 := by have := (okS_iff c).mp hc; omega
  have z := List.all_eq_true.mp key c (List.mem_range.mpr hl)
  rw [hc] at z
  cases e : Unicode.upperOf c with
  | nil => rw [e] at z; cases z
  | cons d r =>
    cases r with
    | nil => rw [e] at z; exact ⟨d, rfl, z⟩
    | cons _ _ => rw [e] at z; cases z
theorem text_upper {x : Str} (h : isText (.str x) = true) : isText (.str (Txt.upper x)) = true := by
  rw [isText_iff] at h ⊢
  obtain ⟨h1, h2⟩ := flat_one (g := okS) (cp x) Unicode.upperOf fun c hc => upper_ok c (h.2 c hc)
  rw [← upper_cp] at h1 h2
  refine ⟨?_, h2⟩
  have e : ∀ y : Str, (cp y).length = y.length := fun y => by simp [cp, Str.length]
  rw [← e, h1, e]
  exact h.1
theorem text_int {i : Int} (h : i.natAbs ≤ 10 ^ 15) : isText (.str ((toString i : String) : Str)) = true := by
  rw [isText_iff]
  refine ⟨?_, fun c hc => ?_⟩
  · have z := int_text_length_le10 (a := i) (k := 16) (by decide) (Nat.lt_of_le_of_lt h (by decide))
    show (Str.ofString (toString i)).length ≤ 20
    rw [len_ofString]
    omega
  · rw [okS_iff]
    by_cases hz : c ≠ 45 ∧ (c < 48 ∨ 57 < c)
    · exact absurd hc (int_text_free' c hz i)
    · omega
theorem text_oq {x : Str} (h : isText (.str x) = true) : Oq 20 0 (.str x) := by
  rw [isText_iff] at h
  refine Oq.str h.1 (List.all_eq_true.mpr fun c hc => ?_)
  have := (okS_iff c).mp (h.2 c hc)
  unfold ascC
  simp only [Bool.or_eq_true, beq_iff_eq, Bool.and_eq_true, decide_eq_true_eq]
  omega
theorem has_one (x : Str) (c : Nat) : inV' (.str ⟨#[c]⟩) (.str x) = decide (c ∈ cp x) := StrLaws.found_one x c
theorem letters_cp : cp letters = (List.range 26).map (97 + ·) := by decide +kernel
theorem one_letter (c : Nat) : inV' (.str ⟨#[c]⟩) (.str letters) = true ↔ 97 ≤ c ∧ c ≤ 122 := by
  rw [has_one, decide_eq_true_eq, letters_cp, List.mem_map]
  constructor
  · rintro ⟨a, ha, rfl⟩
    have := List.mem_range.mp ha
    omega
  · exact fun h => ⟨c - 97, List.mem_range.mpr (by omega), by omega⟩
theorem name_iff (x : Str) : isName (.str x) = true ↔ 1 ≤ x.length ∧ x.length ≤ 8 ∧ ∀ c ∈ cp x, 97 ≤ c ∧ c ≤ 122 := by
  show (decide (1 ≤ (x.length : Int)) && decide ((x.length : Int) ≤ 8) && (charsD x).all fun d => inV' d (.str letters)) = true ↔ _
  unfold charsD
  rw [Bool.and_eq_true, Bool.and_eq_true, decide_eq_true_eq, decide_eq_true_eq, List.all_map, List.all_eq_true]
  constructor
  · exact fun h => ⟨by omega, by omega, fun c hc => (one_letter c).mp (h.2 c hc)⟩
  · exact fun h => ⟨⟨by omega, by omega⟩, fun c hc => (one_letter c).mpr (h.2.2 c hc)⟩
theorem name_text {x : Str} (h : isName (.str x) = true) : isText (.str x) = true := by
  rw [name_iff] at h
  rw [isText_iff]
  refine ⟨by omega, fun c hc => ?_⟩
  rw [okS_iff]
  have := h.2.2 c hc
  omega
theorem name_oq {x : Str} (h : isName (.str x) = true) : Oq 20 0 (.str x) := text_oq (name_text h)
theorem lg_int {i : Int} (h : leafGood (.int i) = true) : -1000000000000000 ≤ i ∧ i ≤ 1000000000000000 := by
  unfold leafGood isBare isNamed at h
  simpa using h
theorem lg_str {x : Str} (h : leafGood (.str x) = true) : isText (.str x) = true := by
  unfold leafGood isNamed at h
  simpa [isBare] using h
theorem lg_tup {xs : List Dt} (h : leafGood (.tuple xs) = true) : isNamed (.tuple xs) = true := by
  unfold leafGood at h
  simpa [isBare] using h
/-! ### how many, how deep, how wide -/
structure Wt (w h N D : Nat) (d : Dt) : Prop where
  o : Oq w h d
  g : wellD d = true
  n : nod d ≤ N
  dp : dep d ≤ D
  w : wid d = true
theorem Wt.more {w h N D w' h' N' D' : Nat} {d : Dt} (t : Wt w h N D d) (a : w ≤ w') (b : h ≤ h') (c : N ≤ N') (e : D ≤ D') : Wt w' h' N' D' d := ⟨t.o.more a b, t.g, Nat.le_trans t.n c, Nat.le_trans t.dp e, t.w⟩
theorem nods_le {N : Nat} : ∀ {ps : List Dt}, (∀ p ∈ ps, nod p ≤ N) → nods ps ≤ ps.length * N
  | [], _ => by rw [nods]; exact Nat.zero_le _
  | p :: ps, h => by
    rw [nods, List.length_cons, Nat.succ_mul]
    have h1 := h p List.mem_cons_self
    have h2 := nods_le fun q hq => h q (List.mem_cons_of_mem _ hq)
    omega
theorem deps_le {D : Nat} : ∀ {ps : List Dt}, (∀ p ∈ ps, dep p ≤ D) → deps ps ≤ D
  | [], _ => by rw [deps]; exact Nat.zero_le _
  | p :: ps, h => by
    rw [deps]
    exact Nat.max_le.mpr ⟨h p List.mem_cons_self, deps_le fun q hq => h q (List.mem_cons_of_mem _ hq)⟩
theorem wids_of : ∀ {ps : List Dt}, (∀ p ∈ ps, wid p = true) → wids ps = true
  | [], _ => by rw [wids]
  | p :: ps, h => by
    rw [wids, h p List.mem_cons_self, wids_of fun q hq => h q (List.mem_cons_of_mem _ hq)]
    rfl
theorem nods_app (a b : List Dt) : nods (a ++ b) = nods a + nods b := by
  induction a with
  | nil => rw [List.nil_append, nods, Nat.zero_add]
  | cons p a ih => rw [List.cons_append, nods, nods, ih, Nat.add_assoc]
theorem nod_of (ps : List Dt) : nod (.tuple [.str "row", .tuple ps]) = 1 + nods ps := nod_row (rowOf_row ps)
theorem dep_of (ps : List Dt) : dep (.tuple [.str "row", .tuple ps]) = 1 + deps ps := dep_row (rowOf_row ps)
theorem wid_of (ps : List Dt) : wid (.tuple [.str "row", .tuple ps]) = (decide (ps.length ≤ 40) && wids ps) := wid_row (rowOf_row ps)
theorem Wt.leaf {w h : Nat} {d : Dt} (o : Oq w h d) (g : leafGood d = true) : Wt w h 1 0 d := by
  have hr := leaf_row g
  exact ⟨o, leaf_well g, by rw [nod_leaf hr]; exact Nat.le_refl _, by rw [dep_leaf hr]; exact Nat.le_refl _, wid_leaf hr⟩
theorem row_oq {w h : Nat} {ds : List Dt} (o : Oqs w h ds) : Oq (w + 5) (h + 2) (.tuple [.str "row", .tuple ds]) :=
  (Oq.tup (Oqs.cons (w := 3) (h := h + 1) (oq_of (w := 3) (h := 0) (by decide +kernel) |>.more (Nat.le_refl _) (by omega)) (Oqs.cons (Oq.tup o) (Oqs.nil (w := 0))))).more (by omega) (by omega)
/-- a row of parts that are so, sums told by hand -/
theorem Wt.row {w h D : Nat} {ds : List Dt} {N : Nat} (o : Oqs w h ds) (g : ∀ d ∈ ds, wellD d = true) (hn : nods ds ≤ N) (hd : ∀ d ∈ ds, dep d ≤ D) (hw : ds.length ≤ 40) (hs : ∀ d ∈ ds, wid d = true) : Wt (w + 5) (h + 2) (1 + N) (1 + D) (.tuple [.str "row", .tuple ds]) := by
  refine ⟨row_oq o, row_well g, by rw [nod_of]; omega, ?_, ?_⟩
  · rw [dep_of]
    have := deps_le hd
    omega
  · rw [wid_of, wids_of hs, decide_eq_true hw]
    rfl
theorem Wt.rowOf {w h N D : Nat} {ds : List Dt} (a : ∀ d ∈ ds, Wt w h N D d) (hw : ds.length ≤ 40) : Wt (ds.length * (w + 1) + 5) (h + 2) (1 + ds.length * N) (1 + D) (.tuple [.str "row", .tuple ds]) :=
  .row (Oqs.of fun d hd => (a d hd).o) (fun d hd => (a d hd).g) (nods_le fun d hd => (a d hd).n) (fun d hd => (a d hd).dp) hw fun d hd => (a d hd).w
theorem Wt.worth {w h : Nat} {d : Dt} (t : Wt w h 200 8 d) : isWorth d = true := by
  unfold isWorth inBounds
  rw [decide_eq_true t.n, decide_eq_true t.dp, t.w]
  exact t.g
/-! ### chains and wide ones -/
def chainD (x : Dt) : Nat → Dt
  | 0 => x
  | n + 1 => chainD (.tuple [.str "row", .tuple [x]]) n
def wideD (x : Dt) (n : Nat) : Dt := .tuple [.str "row", .tuple (List.replicate n x)]
theorem chain_wt {w h N D : Nat} : ∀ (n : Nat) {x : Dt}, Wt w h N D x → Wt (w + 10 * n) (h + 2 * n) (N + n) (D + n) (chainD x n)
  | 0, x, o => o
  | n + 1, x, o => by
    have z := Wt.rowOf (ds := [x]) (w := w) (h := h) (N := N) (D := D) (fun d hd => by rw [List.mem_singleton.mp hd]; exact o) (by show 1 ≤ 40; decide)
    have y := chain_wt n (z.more (w' := w + 10) (h' := h + 2) (N' := N + 1) (D' := D + 1) (by simp only [List.length_singleton]; omega) (by omega) (by simp only [List.length_singleton]; omega) (by omega))
    exact y.more (by omega) (by omega) (by omega) (by omega)
theorem wide_wt {w h N D n : Nat} {x : Dt} (o : Wt w h N D x) (hn : n ≤ 40) : Wt (n * (w + 1) + 5) (h + 2) (1 + n * N) (1 + D) (wideD x n) := by
  have z := Wt.rowOf (ds := List.replicate n x) (fun d hd => by rw [(List.mem_replicate.mp hd).2]; exact o) (by rw [List.length_replicate]; exact hn)
  rw [List.length_replicate] at z
  exact z
theorem rep_oq {w h n : Nat} {x : Dt} (o : Oq w h x) : Oqs (n * (w + 1)) h (List.replicate n x) := by
  have z := Oqs.of (ds := List.replicate n x) (w := w) (h := h) fun d hd => by rw [(List.mem_replicate.mp hd).2]; exact o
  rw [List.length_replicate] at z
  exact z
/-- without bounds of number, depth, width -/
theorem chain_oq {w h : Nat} : ∀ (n : Nat) {x : Dt}, Oq w h x → Oq (w + 10 * n) (h + 2 * n) (chainD x n)
  | 0, x, o => o
  | n + 1, x, o => (chain_oq n ((row_oq (Oqs.cons o (Oqs.nil (w := 0)))).more (w' := w + 10) (h' := h + 2) (by omega) (by omega))).more (by omega) (by omega)
theorem wide_oq {w h n : Nat} {x : Dt} (o : Oq w h x) : Oq (n * (w + 1) + 5) (h + 2) (wideD x n) := row_oq (rep_oq o)
theorem chain_well : ∀ (n : Nat) {x : Dt}, wellD x = true → wellD (chainD x n) = true
  | 0, x, o => o
  | n + 1, x, o => chain_well n (row_well fun d hd => by rw [List.mem_singleton.mp hd]; exact o)
theorem wide_well {n : Nat} {x : Dt} (o : wellD x = true) : wellD (wideD x n) = true := row_well fun d hd => by rw [(List.mem_replicate.mp hd).2]; exact o
theorem mem_repT {xs : List Dt} {k : Int} {y : Dt} (h : y ∈ repT xs k) : y ∈ xs := by
  unfold repT at h
  obtain ⟨l, hl, hy⟩ := List.mem_flatten.mp h
  rw [(List.mem_replicate.mp hl).2] at hy
  exact hy
theorem nods_repT (xs : List Dt) (k : Int) : nods (repT xs k) = k.toNat * nods xs := by
  unfold repT
  generalize k.toNat = m
  induction m with
  | zero => rw [List.replicate_zero, List.flatten_nil, nods, Nat.zero_mul]
  | succ m ih => rw [List.replicate_succ, List.flatten_cons, nods_app, ih, Nat.succ_mul, Nat.add_comm]
end Dl
namespace Dl
open PySem PySem.Spec L2
open PyProof.Rows hiding St
/-- a loop whose turns keep a word: of how many turns were gone, the slots, the draws that are left -/
theorem forM_inv {gt : Dt → List Ds → Mv (List Ds)} {mb : Ms} {k : Sk} {W : Wx} {items : List Dt} {δ : List Ds} {n : Nat} (I : Nat → List Ds → Nat → Prop) (h0 : I 0 δ n)
    (turn : ∀ (i : Nat) (x : Dt), items[i]? = some x → ∀ (δ : List Ds) (n : Nat), I i δ n → ∀ k' : Sk, (∀ δ' n', I (i + 1) δ' n' → k'.nx δ' n') → k'.ct = k'.nx → k'.rt = k.rt → k'.bk = k.nx → gt x δ n (fun δ' n' => mb δ' n' k' W) W)
    (fin : ∀ δ n, I items.length δ n → k.nx δ n) : forM gt mb items δ n k W := by
  have key : ∀ (l : List Dt) (i : Nat) (δ : List Ds) (n : Nat), items.drop i = l → i ≤ items.length → I i δ n → forM gt mb l δ n k W := by
    intro l
    induction l with
    | nil =>
      intro i δ n e hi h
      have hl : items.length ≤ i := by
        have := congrArg List.length e
        rw [List.length_drop, List.length_nil] at this
        omega
      have e : i = items.length := by omega
      subst e
      exact fin δ n h
    | cons x l ih =>
      intro i δ n e hi h
      have hlt : i < items.length := by
        have := congrArg List.length e
        rw [List.length_drop, List.length_cons] at this
        omega
      have ex : items[i]? = some x := by
        rw [List.drop_eq_getElem_cons hlt] at e
        rw [List.getElem?_eq_getElem hlt]
        exact congrArg some (List.cons.inj e).1
      have el : items.drop (i + 1) = l := by
        rw [List.drop_eq_getElem_cons hlt] at e
        exact (List.cons.inj e).2
      exact turn i x ex δ n h _ (fun δ' n' h' => ih (i + 1) δ' n' el (by omega) h') rfl rfl rfl
  exact key items 0 δ n rfl (Nat.zero_le _) h0
end Dl
namespace Dl
open PySem PySem.Spec L2
open PyProof.Rows hiding St
/-! ### written dicts of the top, text keys: flat data and tuples of such -/
structure TabOk (K : PySem.W.Frag) (w : World) (mg : Str → Option Value) (x : Str) (es : List (Str × Dt)) : Prop where
  ex : ∃ (a : Addr) (ar : Array DictEntry) (n : Nat), mg x = some (.ref a) ∧ KDict K w a ar n ∧
    ∀ z : Str, match es.lookup z with
      | some d => ∃ u v, PySem.W.nsIn K a z = some (some u) ∧ RelV v u ∧ ∀ F, Rp K F v d
      | none => PySem.W.nsIn K a z = some none
def flatB (u : Value) (d : Dt) : Bool := match u, d with
  | .none, .none => true
  | .bool b, .bool c => b == c
  | .int i _, .int j => i == j
  | .str x _, .str y => x == y
  | _, _ => false
theorem flatB_ok {K : PySem.W.Frag} {u : Value} {d : Dt} (h : flatB u d = true) : ∃ v, RelV v u ∧ ∀ F, Rp K F v d := by
  cases u <;> cases d <;> first | cases h | skip
  · exact ⟨.non, rfl, fun _ => .non⟩
  · rename_i b c
    have e : b = c := by simpa [flatB] using h
    subst e
    exact ⟨.bl b, rfl, fun _ => .bl b⟩
  · rename_i i t j
    have e : i = j := by simpa [flatB] using h
    subst e
    exact ⟨.int i, ⟨t, rfl⟩, fun _ => .int i⟩
  · rename_i x t y
    have e : x = y := by simpa [flatB] using h
    subst e
    exact ⟨.str x, ⟨t, rfl⟩, fun _ => .str x⟩
def flatsB : List Value → List Dt → Bool
  | [], [] => true
  | u :: us, d :: ds => flatB u d && flatsB us ds
  | _, _ => false
theorem flatsB_ok {K : PySem.W.Frag} : ∀ {us : List Value} {ds : List Dt}, flatsB us ds = true → ∃ vs, Vals vs us ∧ ∀ F, RpAll K F vs ds
  | [], [], _ => ⟨[], .nil, fun _ => .nil⟩
  | u :: us, d :: ds, h => by
    have h : (flatB u d && flatsB us ds) = true := h
    rw [Bool.and_eq_true] at h
    obtain ⟨v, r, k⟩ := flatB_ok (K := K) h.1
    obtain ⟨vs, rs, ks⟩ := flatsB_ok (K := K) h.2
    exact ⟨v :: vs, .cons r rs, fun F => .cons (k F) (ks F)⟩
  | [], _ :: _, h => by cases h
  | _ :: _, [], h => by cases h
def datB (K : PySem.W.Frag) (u : Value) (d : Dt) : Bool := match u, d with
  | .ref b, .tuple ds => (match K.lookup b with
    | some ⟨.type c, _, .seq its _, _⟩ => decide (c = "tuple") && (decide (its.size ≤ sizeLine) && flatsB its.toList ds)
    | _ => false)
  | _, _ => flatB u d
theorem datB_ok {K : PySem.W.Frag} {u : Value} {d : Dt} (h : datB K u d = true) : ∃ v, RelV v u ∧ ∀ F, Rp K F v d := by
  unfold datB at h
  split at h
  · rename_i b ds
    cases q : K.lookup b with
    | none =>
      rw [q] at h
      cases h
    | some o =>
      obtain ⟨oc, od, dt, osl⟩ := o
      rw [q] at h
      cases oc with
      | type c =>
        cases dt with
        | seq its n =>
          have h : (decide (c = "tuple") && (decide (its.size ≤ sizeLine) && flatsB its.toList ds)) = true := h
          rw [Bool.and_eq_true, Bool.and_eq_true] at h
          obtain ⟨vs, rs, ks⟩ := flatsB_ok (K := K) h.2.2
          exact ⟨.ref b, rfl, fun F => .tup (.inr ⟨_, its, n, q, congrArg Value.type (of_decide_eq_true h.1), rfl, of_decide_eq_true h.2.1, rs⟩) (ks F)⟩
        | _ => cases h
      | _ => cases dt <;> cases h
  · exact flatB_ok h
def tabB (K : PySem.W.Frag) (x : Str) (es : List (Str × Dt)) : Bool := es.all fun p => match PySem.W.nsIn K (He.ga K x) p.1 with
  | some (some u) => datB K u p.2
  | _ => false
theorem find_none {es : List DictEntry} {ks : List Str} {P : Params} {z : Str} (h : es.map He.keyOf = He.keysIn P ks) (hz : z ∉ ks) : es.find? (·.key.isStr z) = none ∧ es.any (·.refKey) = false := by
  induction es generalizing ks with
  | nil => exact ⟨rfl, rfl⟩
  | cons e es ih =>
    cases ks with
    | nil => cases h
    | cons k ks =>
      have h1 : He.keyOf e :: es.map He.keyOf = some (k, PyData.keyHash P k) :: He.keysIn P ks := h
      injection h1 with h2 h3
      obtain ⟨i1, i2⟩ := ih h3 (fun y => hz (List.mem_cons_of_mem _ y))
      unfold He.keyOf at h2
      split at h2
      · rename_i x t q
        have h4 := Option.some.inj h2
        obtain ⟨h5, _⟩ := Prod.mk.inj h4
        have hk : e.key.isStr z = false := by
          rw [q, h5]
          cases y : (Value.str k t).isStr z with
          | false => rfl
          | true =>
            have : k = z := by simpa [Value.isStr] using y
            exact absurd (this ▸ List.mem_cons_self) hz
        refine ⟨?_, ?_⟩
        · rw [List.find?_cons, hk]
          exact i1
        · rw [List.any_cons, i2]
          unfold DictEntry.refKey
          rw [q]
          rfl
      · cases h2
theorem lookup_none {z : Str} : ∀ {es : List (Str × Dt)}, es.lookup z = none → z ∉ es.map (·.1)
  | [], _, h => by cases h
  | q :: es, e, h => by
    rw [List.lookup_cons] at e
    cases y : z == q.1 with
    | true => rw [y] at e; cases e
    | false =>
      rw [y] at e
      rw [List.map_cons] at h
      rcases List.mem_cons.mp h with h | h
      · rw [h] at y; simp at y
      · exact lookup_none e h
theorem tab_ok {K : PySem.W.Frag} {w : World} {mg : Str → Option Value} {x : Str} {es : List (Str × Dt)} (hm : mg x = some (.ref (He.ga K x))) (hd : He.dicW K (He.ga K x) = some (He.keysIn w.params (es.map (·.1)))) (hv : tabB K x es = true) : TabOk K w mg x es := by
  obtain ⟨ar, n, D⟩ := He.dicW_ok hd
  refine ⟨_, ar, n, hm, D, fun z => ?_⟩
  cases e : es.lookup z with
  | some d =>
    have hmem : (z, d) ∈ es := by
      clear hd hv
      induction es with
      | nil => cases e
      | cons p es ih =>
        rw [List.lookup_cons] at e
        cases q : z == p.1 with
        | true =>
          rw [q] at e
          have e1 : z = p.1 := by simpa using q
          have e2 : p.2 = d := by simpa using e
          rw [e1, ← e2]
          exact List.mem_cons_self
        | false =>
          rw [q] at e
          exact List.mem_cons_of_mem _ (ih e)
    have z1 := List.all_eq_true.mp hv _ hmem
    cases q : PySem.W.nsIn K (He.ga K x) z with
    | none =>
      rw [q] at z1
      cases z1
    | some r =>
      rw [q] at z1
      cases r with
      | none => cases z1
      | some u =>
        obtain ⟨v, r, k⟩ := datB_ok z1
        exact ⟨u, v, rfl, r, k⟩
  | none =>
    have hz : z ∉ es.map (·.1) := lookup_none e
    unfold He.dicW at hd
    rw [D.at_] at hd
    have hk : ar.toList.map He.keyOf = He.keysIn w.params (es.map (·.1)) := by
      cases y : decide (("dict" : String) = "dict") && ((#[] : Array (Option Value)).isEmpty && !(He.ga K x == sysModules)) with
      | true =>
        have hd : (match decide (("dict" : String) = "dict") && ((#[] : Array (Option Value)).isEmpty && !(He.ga K x == sysModules)) with
          | true => some (ar.toList.map He.keyOf)
          | false => none) = some (He.keysIn w.params (es.map (·.1))) := hd
        rw [y] at hd
        exact Option.some.inj hd
      | false =>
        rw [D.low] at y
        cases y
    obtain ⟨f1, f2⟩ := find_none hk hz
    unfold PySem.W.nsIn
    rw [D.at_]
    show (match ar.toList.find? (·.key.isStr z) with
      | some e => some (some e.val)
      | none => if ar.toList.any (·.refKey) then none else some none) = some none
    rw [f1, f2]
    rfl
section
variable {X : Cx} {g : Gh} {a b : Expr} {pos p : Pos} {ma mb : Me Dt} {x : Str} {es : List (Str × Dt)}
def oTabIn (es : List (Str × Dt)) (d : Dt) : Mv Dt := match d with
  | .str z => ret (.bool (es.lookup z).isSome)
  | _ => bad
def oTabAt (es : List (Str × Dt)) (d : Dt) : Mv Dt := match d with
  | .str z => (match es.lookup z with | some v => ret v | none => bad)
  | _ => bad
theorem RpX.str_eq {K : PySem.W.Frag} {hd : Hd} {F H : Hp} {v : V} {z : Str} (h : RpX K hd F H v (.str z)) : v = .str z := by
  rcases h with h | ⟨_, _, _, _, e, _⟩
  · cases h; rfl
  · cases e
/-- x in TABLE -/
theorem de_inC (T : TabOk X.K X.w X.mg x es) (ha : DX X g a ma) (hg : Gl X x := by rfl) (hd : (x == ("__debug__" : Str)) = false := by decide) (hm : behindInMarks .In (.Name x p) = false := by rfl) :
    DE X g (.Compare a [.In] [.Name x p] pos) (fun δ => bnd (ma δ) (oTabIn es)) := by
  obtain ⟨ad, ar, n, hmg, D, hz⟩ := T.ex
  obtain ⟨t, pt, ha⟩ := ha
  refine ⟨_, pe_cmpR (op_in_kd D) pt (pe_glob (v := .ref ad) hg hmg rfl hd) hm, fun σ H F δ n Q Qd R q w => ha σ H F δ n _ _ R (fun v d F1 H1 n1 rb rp hq => ?_) w⟩
  cases d with
  | str z =>
    have ev := rp.str_eq
    subst ev
    have hz := hz z
    have hq : Qd (.bool (es.lookup z).isSome) n1 := hq
    cases e : es.lookup z with
    | some d =>
      rw [e] at hz hq
      obtain ⟨u, v, h1, _⟩ := hz
      exact ⟨z, _, rfl, rfl, h1, q _ _ F1 H1 n1 rb (.bl _) hq⟩
    | none =>
      rw [e] at hz hq
      exact ⟨z, _, rfl, rfl, hz, q _ _ F1 H1 n1 rb (.bl _) hq⟩
  | _ => exact hq.elim
theorem dt_inC (T : TabOk X.K X.w X.mg x es) (ha : DX X g a ma) (hg : Gl X x := by rfl) (hd : (x == ("__debug__" : Str)) = false := by decide) (hm : behindInMarks .In (.Name x p) = false := by rfl) :
    DT X g (.Compare a [.In] [.Name x p] pos) (fun δ => bnd (bnd (ma δ) (oTabIn es)) asB) := by
  obtain ⟨ad, ar, n, hmg, D, hz⟩ := T.ex
  obtain ⟨t, pt, ha⟩ := ha
  refine ⟨_, pt_cmpR (op_in_kd D) pt (pe_glob (v := .ref ad) hg hmg rfl hd) hm, fun σ H F δ n Q Qd R q w => ha σ H F δ n _ _ R (fun v d F1 H1 n1 rb rp hq => ?_) w⟩
  cases d with
  | str z =>
    have ev := rp.str_eq
    subst ev
    have hz := hz z
    have hq : Qd (es.lookup z).isSome n1 := hq
    cases e : es.lookup z with
    | some d =>
      rw [e] at hz hq
      obtain ⟨u, v, h1, _⟩ := hz
      exact ⟨z, _, rfl, rfl, h1, _, rfl, q _ F1 H1 n1 rb hq⟩
    | none =>
      rw [e] at hz hq
      exact ⟨z, _, rfl, rfl, hz, _, rfl, q _ F1 H1 n1 rb hq⟩
  | _ => exact hq.elim
def oTabNotIn (es : List (Str × Dt)) (d : Dt) : Mv Dt := match d with
  | .str z => ret (.bool (!(es.lookup z).isSome))
  | _ => bad
theorem dt_notInC (T : TabOk X.K X.w X.mg x es) (ha : DX X g a ma) (hg : Gl X x := by rfl) (hd : (x == ("__debug__" : Str)) = false := by decide) (hm : behindInMarks .NotIn (.Name x p) = false := by rfl) :
    DT X g (.Compare a [.NotIn] [.Name x p] pos) (fun δ => bnd (bnd (ma δ) (oTabNotIn es)) asB) := by
  obtain ⟨ad, ar, n, hmg, D, hz⟩ := T.ex
  obtain ⟨t, pt, ha⟩ := ha
  refine ⟨_, pt_cmpR (op_notIn_kd D) pt (pe_glob (v := .ref ad) hg hmg rfl hd) hm, fun σ H F δ n Q Qd R q w => ha σ H F δ n _ _ R (fun v d F1 H1 n1 rb rp hq => ?_) w⟩
  cases d with
  | str z =>
    have ev := rp.str_eq
    subst ev
    have hz := hz z
    have hq : Qd (!(es.lookup z).isSome) n1 := hq
    cases e : es.lookup z with
    | some d =>
      rw [e] at hz hq
      obtain ⟨u, v, h1, _⟩ := hz
      exact ⟨z, _, rfl, rfl, h1, _, rfl, q _ F1 H1 n1 rb hq⟩
    | none =>
      rw [e] at hz hq
      exact ⟨z, _, rfl, rfl, hz, _, rfl, q _ F1 H1 n1 rb hq⟩
  | _ => exact hq.elim
/-- TABLE[x] -/
theorem de_atC (T : TabOk X.K X.w X.mg x es) (ha : DX X g a ma) (hs : PlainIx a) (hg : Gl X x := by rfl) (hd : (x == ("__debug__" : Str)) = false := by decide) :
    DE X g (.Subscript (.Name x p) a pos) (fun δ => bnd (ma δ) (oTabAt es)) := by
  obtain ⟨ad, ar, n, hmg, D, hz⟩ := T.ex
  obtain ⟨t, pt, ha⟩ := ha
  refine ⟨_, pe_ix ix_kdict (pe_glob (v := .ref ad) hg hmg rfl hd) pt hs, fun σ H F δ n Q Qd R q w => ha σ H F δ n _ _ R (fun v d F1 H1 n1 rb rp hq => ?_) w⟩
  cases d with
  | str z =>
    have ev := rp.str_eq
    subst ev
    have hz := hz z
    have hq : (match es.lookup z with | some v => ret v | none => bad : Mv Dt) n1 Qd g.W := hq
    cases e : es.lookup z with
    | some d =>
      rw [e] at hz hq
      obtain ⟨u, v, h1, h2, h3⟩ := hz
      exact ⟨ad, z, v, rfl, rfl, ⟨ar, _, u, D.at_, D.lit, h1, h2⟩, q _ _ F1 H1 n1 rb (h3 F1) hq⟩
    | none =>
      rw [e] at hq
      exact hq.elim
  | _ => exact hq.elim
end
/-! ### a head that tells tables too -/
abbrev Tb := Str × List Str
def tabsIn (K : PySem.W.Frag) (ts : List Tb) : List (Option (List (Option (Str × Int)))) := ts.map fun t => He.dicW K (He.ga K t.1)
def tabsDue (w : World) (ts : List Tb) : List (Option (List (Option (Str × Int)))) := ts.map fun t => some (He.keysIn w.params t.2)
def obsZ (n : Nat) (fa : List He.Fa) (fn : List He.DefD) (ex : PySem.W.Frag → Bool) (ts : List Tb) (g : Addr → Option Obj) : (He.AlD × Bool) × List (Option (List (Option (Str × Int)))) := (obsY n fa fn ex g, tabsIn (He.frG g (He.asD g n)) ts)
def hookZ (n : Nat) (fa : List He.Fa) (fn : List He.DefD) (ex : PySem.W.Frag → Bool) (ts : List Tb) : PySem.W.Hook where
  α := (He.AlD × Bool) × List (Option (List (Option (Str × Int))))
  obs := fun s => obsZ n fa fn ex ts s.heap.get?
  val := fun w => ((He.valD fn, true), tabsDue w ts)
  says := fun w h => ∃ K : PySem.W.Frag, K.In h ∧ ((He.SaysD fa fn K ∧ ex K = true) ∧ tabsIn K ts = tabsDue w ts)
  of := fun w s e => ⟨He.frG s.heap.get? (He.asD s.heap.get? n), He.frG_in, ⟨show He.obsD fa fn _ = He.valD fn from congrArg (fun z => z.1.1) e, show ex _ = true from congrArg (fun z => z.1.2) e⟩, show tabsIn _ ts = tabsDue w ts from congrArg Prod.snd e⟩
  keeps := fun _ _ _ ⟨K, hK, c⟩ k => ⟨K, PySem.W.Frag.In.keeps hK k, c⟩
theorem obsZ_eq {n : Nat} {fa : List He.Fa} {fn : List He.DefD} {ex : PySem.W.Frag → Bool} {ts : List Tb} {g : Addr → Option Obj} {s : Shared} (h : ∀ a, g a = s.heap.get? a) : obsZ n fa fn ex ts g = (hookZ n fa fn ex ts).obs s := by
  have e : g = s.heap.get? := funext h
  subst e
  rfl
theorem tabs_at {K : PySem.W.Frag} {w : World} {ts : List Tb} (h : tabsIn K ts = tabsDue w ts) (i : Nat) {t : Tb} (e : ts[i]? = some t := by rfl) : He.dicW K (He.ga K t.1) = some (He.keysIn w.params t.2) := by
  have h1 : (tabsIn K ts)[i]? = (tabsDue w ts)[i]? := by rw [h]
  unfold tabsIn tabsDue at h1
  rw [List.getElem?_map, List.getElem?_map, e] at h1
  exact Option.some.inj h1
/-! ### methods of texts with any arguments -/
section
variable {X : Cx} {g : Gh} {a e : Expr} {es : List Expr} {pos : Pos} {ma : Me Dt} {ms : Me (List Dt)}
theorem de_mN {id : String} {name : Str} {apos : Pos} {r : V → List V → Hp → VK → Prop} {o : Dt → List Dt → Mv Dt} (slot : Slot "str" name id) (ty : typeOf (.builtin id) = pure (.type "method_descriptor")) (rule : MtR X id r) (k : XM X r o) (ha : DX X g a ma) (hb : DXs X g (e :: es) ms)
    (hbase : attributeBase a name X.env (eval a X.env) = eval a X.env := by rfl)
    (hfew : ((backTo pos (starEach (e :: es) X.env)).all (fun x => !x.1) && (backToKw pos (keywordEach [] X.env)).all (fun x => x.1.isSome)
      && decide ((e :: es).length + ([] : List Keyword).length + (if ([] : List Keyword).isEmpty then 0 else 1) < 30)) = true := by rfl)
    (hline : (apos.endLine == pos.line) = true := by rfl) (hs : starEach (e :: es) X.env = (false, eval e X.env) :: starEach es X.env := by rfl) (hplain : (backTo pos (starEach es X.env)).any (·.1) = false := by rfl) :
    DE X g (.Call (.Attribute a name apos) (e :: es) [] pos) (fun δ => bnd (ma δ) fun d => onStr d (bnd (ms δ) fun ds => o d ds)) := by
  obtain ⟨t, pt, ha⟩ := ha
  obtain ⟨u, pu, hb⟩ := hb
  refine ⟨_, pe_bm PySem.F.plainAttrs_str slot ty rule pt pu hbase hfew hline hs hplain, fun σ H F δ n Q Qd R q w => ha σ H F δ n _ _ R (fun v d F1 H1 n1 rb rp hq => ?_) w⟩
  cases d with
  | str x =>
    have hv := rp.str_eq
    subst hv
    refine ⟨rfl, hb σ H1 F1 δ n1 _ _ (R.ext rb) (fun vs ds F2 H2 n2 rb2 rp2 hq2 => ?_) hq⟩
    exact k H2 n2 (.str x) vs (.str x) ds Q Qd g.W (.str x) (rp2.now rb2.sub) hq2 fun v' d' s hq => q v' d' F2 H2 n2 (rb.trans rb2) (s F2) hq
  | _ => exact hq.elim
def oFind3 : Dt → List Dt → Mv Dt
  | .str x, [.str y, .int i] => ret (.int (Txt.find3 x y i))
  | _, _ => bad
theorem xm_find3 : XM X (fun x xs H Q => ∃ (a b : Str) (i : Int), x = .str a ∧ xs = [.str b, .int i] ∧ Q (.int (Txt.find3 a b i)) H) oFind3 := by
  intro H n x xs d ds Q Qd W hx h w q
  match d, ds, w with
  | .str x, [.str y, .int i], w =>
    cases hx
    cases h with
    | cons h1 h2 =>
      cases h1
      cases h2 with
      | cons h3 h4 =>
        cases h3
        cases h4
        exact ⟨x, y, i, rfl, rfl, q _ _ (fun _ => .int _) w⟩
theorem de_find3 {apos : Pos} {b c : Expr} (ha : DX X g a ma) (hb : DXs X g [b, c] ms)
    (hbase : attributeBase a "find" X.env (eval a X.env) = eval a X.env := by rfl)
    (hfew : ((backTo pos (starEach [b, c] X.env)).all (fun x => !x.1) && (backToKw pos (keywordEach [] X.env)).all (fun x => x.1.isSome)
      && decide ([b, c].length + ([] : List Keyword).length + (if ([] : List Keyword).isEmpty then 0 else 1) < 30)) = true := by rfl)
    (hline : (apos.endLine == pos.line) = true := by rfl) (hs : starEach [b, c] X.env = (false, eval b X.env) :: starEach [c] X.env := by rfl) (hplain : (backTo pos (starEach [c] X.env)).any (·.1) = false := by rfl) :
    DE X g (.Call (.Attribute a "find" apos) [b, c] [] pos) (fun δ => bnd (ma δ) fun d => onStr d (bnd (ms δ) fun ds => oFind3 d ds)) :=
  de_mN F.slot_str_find F.type_str_find mt_find3 xm_find3 ha hb hbase hfew hline hs hplain
end
/-- the first sign c from a place on -/
theorem occ_from {x : Str} {c lo j : Nat} (hj : (cp x)[j]? = some c) (h1 : lo ≤ j) (h2 : ∀ k, lo ≤ k → k < j → (cp x)[k]? ≠ some c) : ∃ r, Builtin.Str.occurrences x ⟨#[c]⟩ lo x.length 1 = j :: r := by
  have hlen : j < x.length := by
    have := (List.getElem?_eq_some_iff.mp hj).1
    simpa [cp, Str.length] using this
  rw [StrLaws.occ_eq]
  have at_iff : ∀ i, StrLaws.At x ⟨#[c]⟩ x.length i ↔ (cp x)[i]? = some c := fun i => StrLaws.subAt_one x c i
  rcases StrLaws.occ_first x ⟨#[c]⟩ x.length 1 (Nat.le_refl _) (List.range' lo (x.length + 1 - lo)) lo (fun i hi => (List.mem_range'_1.mp hi).1) with ⟨h0, hn⟩ | ⟨pre, a, post, e, h0, ha, hn⟩
  · exact absurd ((at_iff j).mpr hj) (hn j (List.mem_range'_1.mpr ⟨h1, by omega⟩))
  · have hal : lo ≤ a := by
      have : a ∈ List.range' lo (x.length + 1 - lo) := by rw [e]; simp
      exact (List.mem_range'_1.mp this).1
    have hja : a = j := by
      rcases Nat.lt_trichotomy a j with h | h | h
      · exact absurd ((at_iff a).mp ha) (h2 a hal h)
      · exact h
      · have hm : j ∈ pre ++ a :: post := by rw [← e]; exact List.mem_range'_1.mpr ⟨h1, by omega⟩
        rcases List.mem_append.mp hm with hm | hm
        · exact absurd ((at_iff j).mpr hj) (hn j hm)
        · have pw : (pre ++ a :: post).Pairwise (· < ·) := by rw [← e]; exact List.pairwise_lt_range'
          have p2 := (List.pairwise_append.mp pw).2.1
          rcases List.mem_cons.mp hm with rfl | hm
          · omega
          · have := (List.pairwise_cons.mp p2).1 j hm
            omega
    subst hja
    generalize (forIn (List.range' lo (x.length + 1 - lo)) ((#[] : Array Nat), lo) (StrLaws.occBody x ⟨#[c]⟩ x.length 1)).run.fst = arr at h0
    have h1 : arr.toList[0]? = some a := by simpa using h0
    cases hL : arr.toList with
    | nil => rw [hL] at h1; cases h1
    | cons b t => rw [hL] at h1; simp at h1; rw [h1]; exact ⟨t, rfl⟩
theorem find3_first {x : Str} {c : Nat} {i : Int} {j : Nat} (hi : 0 ≤ i) (hj : (cp x)[j]? = some c) (h1 : i.toNat ≤ j) (h2 : ∀ k, i.toNat ≤ k → k < j → (cp x)[k]? ≠ some c) : Txt.find3 x ⟨#[c]⟩ i = (j : Int) := by
  have hlen : j < x.length := by
    have := (List.getElem?_eq_some_iff.mp hj).1
    simpa [cp, Str.length] using this
  have e : fromIndex x.length i = i.toNat := by
    unfold fromIndex
    split <;> omega
  obtain ⟨r, h⟩ := occ_from hj h1 h2
  unfold Txt.find3
  rw [e, h]
end Dl
namespace Dl
open PySem PySem.Spec L2 PySem.NumText PySem.W.KIN
open PyProof.Rows hiding St
/-! ### statements that are never reached, isdigit -/
theorem ds_never {X : Cx} {g : Gh} {st : Stmt} : DS X g st (fun _ _ _ _ => False) := ⟨fun _ _ _ => False, ⟨fun _ _ _ _ _ _ h => h.elim⟩, fun _ _ _ _ _ _ _ _ _ _ _ _ w => w⟩
theorem de_isdigit {X : Cx} {g : Gh} {a : Expr} {ma : Me Dt} {pos apos : Pos} (ha : DX X g a ma) (hbase : attributeBase a "isdigit" X.env (eval a X.env) = eval a X.env := by rfl) (hline : (apos.endLine == pos.line) = true := by rfl) :
    DE X g (.Call (.Attribute a "isdigit" apos) [] [] pos) (fun δ => bnd (ma δ) fun d => onStr d (o10 (fun _ => True) (fun a => .bool (Txt.isdigit a)) d [])) := de_m0 F.slot_str_isdigit F.type_str_isdigit mt_isdigit xm_b0 ha hbase hline
/-! ### f-strings -/
def jM : List (Me Dt) → Str → Me Str
  | [], acc => fun _ => ret acc
  | m :: ms, acc => fun δ => bnd (m δ) fun d => match d with
    | .str y => grd ((acc ++ y).length ≤ sizeLine) (jM ms (acc ++ y) δ)
    | _ => bad
def DJs (X : Cx) (g : Gh) (es : List Expr) (ms : List (Me Dt)) : Prop := ∃ ts : List TE, PJ X es ts ∧ ∀ (acc : Str) (σ : L2.St) (H F : Hp) (δ : List Ds) (n : Nat) (Q : Str → Hp → Prop) (Qd : Kd Str), g.R X.K F σ H δ n →
  (∀ out F' H' n', RelB g.hd F H F' H' n' → Qd out n' → Q out H') → jM ms acc δ n Qd g.W → tJs ts acc σ H Q
section
variable {X : Cx} {g : Gh} {e v1 v2 : Expr} {es : List Expr} {m : Me Dt} {ms : List (Me Dt)} {pos : Pos}
theorem dj_nil : DJs X g [] [] := ⟨[], .nil, fun acc σ H F δ n Q Qd R q w => q acc F H n R.b.refl w⟩
theorem dj_cons (h : DE X g e m) (hr : DJs X g es ms) : DJs X g (e :: es) (m :: ms) := by
  obtain ⟨t, p, h⟩ := h
  obtain ⟨ts, ps, hr⟩ := hr
  refine ⟨_, .cons p ps, fun acc σ H F δ n Q Qd R q w => h σ H F δ n _ _ R (fun v d F1 H1 n1 rb rp hq => ?_) w⟩
  cases d with
  | str y =>
    cases rp
    exact ⟨y, rfl, hq.1, hr (acc ++ y) σ H1 F1 δ n1 Q Qd (R.ext rb) (fun out F2 H2 n2 rb2 hq2 => q out F2 H2 n2 (rb.trans rb2) hq2) hq.2⟩
  | _ => exact hq.elim
theorem de_joined (h : DJs X g (v1 :: v2 :: es) ms) : DE X g (.JoinedStr (v1 :: v2 :: es) pos) (fun δ => bnd (jM ms Str.empty δ) fun x => ret (.str x)) := by
  obtain ⟨ts, ps, h⟩ := h
  exact ⟨_, pe_joined ps, fun σ H F δ n Q Qd R q w => h Str.empty σ H F δ n _ _ R (fun out F1 H1 n1 rb hq => q _ _ F1 H1 n1 rb (.str out) hq) w⟩
theorem de_j1 (h : DE X g e m) : DE X g (.JoinedStr [e] pos) m := by
  obtain ⟨t, p, h⟩ := h
  exact ⟨_, pe_joined1 p, h⟩
end
/-! ### texts by their signs -/
def mkS (l : List Nat) : Str := ⟨l.toArray⟩
@[simp] theorem cp_mkS (l : List Nat) : cp (mkS l) = l := rfl
theorem mkS_cp (x : Str) : mkS (cp x) = x := cp_inj rfl
theorem len_cp (x : Str) : x.length = (cp x).length := by simp [cp, Str.length]
theorem slice_cp (x : Str) (lo hi : Option Int) : cp (Txt.slice x lo hi) = ((cp x).drop (HT.sIx x.length 0 lo)).take (HT.sIx x.length x.length hi - HT.sIx x.length 0 lo) := by
  rw [← C8.cutS_slice]
  unfold cutS cp
  simp
theorem sIx_in {n d : Nat} {i : Int} (h0 : 0 ≤ i) : HT.sIx n d (some i) = min i.toNat n := by
  show (if i < 0 then (i + (n : Int)).toNat else min i.toNat n) = _
  rw [if_neg (by omega)]
/-- text[i:j] -/
theorem slice_mid {x : Str} {A B R : List Nat} {i j : Int} (h : cp x = A ++ B ++ R) (hi : i = A.length) (hj : j = i + B.length) : Txt.slice x (some i) (some j) = mkS B := by
  apply cp_inj
  have hl : x.length = A.length + B.length + R.length := by rw [len_cp, h]; simp [Nat.add_assoc]
  rw [slice_cp, sIx_in (by omega), sIx_in (by omega), h, cp_mkS]
  rw [show min i.toNat x.length = A.length by omega, show min j.toNat x.length = A.length + B.length by omega, List.append_assoc, List.drop_left, show A.length + B.length - A.length = B.length by omega, List.take_left]
/-- text[i:] -/
theorem slice_from {x : Str} {i : Int} (h0 : 0 ≤ i) : Txt.slice x (some i) none = mkS ((cp x).drop i.toNat) := by
  apply cp_inj
  rw [slice_cp, sIx_in h0, cp_mkS]
  show ((cp x).drop (min i.toNat x.length)).take (x.length - min i.toNat x.length) = _
  rw [List.take_of_length_le (by rw [List.length_drop, len_cp]; omega)]
  by_cases z : i.toNat ≤ x.length
  · rw [Nat.min_eq_left z]
  · rw [len_cp] at z ⊢
    rw [Nat.min_eq_right (by omega), List.drop_eq_nil_of_le (Nat.le_refl _), List.drop_eq_nil_of_le (by omega)]
/-- text[i:i + 1] at a sign -/
theorem slice_one {x : Str} {A R : List Nat} {c : Nat} {i j : Int} (h : cp x = A ++ c :: R) (hi : i = A.length) (hj : j = i + 1) : Txt.slice x (some i) (some j) = ⟨#[c]⟩ :=
  slice_mid (B := [c]) (R := R) (by rw [h]; simp) hi hj
/-- text[i:i + 1] at the end -/
theorem slice_end {x : Str} {A : List Nat} {i j : Int} (h : cp x = A) (hi : i = A.length) (hj : j = i + 1) : Txt.slice x (some i) (some j) = mkS [] := by
  apply cp_inj
  have hl : x.length = A.length := by rw [len_cp, h]
  rw [slice_cp, sIx_in (by omega), sIx_in (by omega), cp_mkS, show min i.toNat x.length = A.length by omega, h, List.drop_length, List.take_nil]
/-- text[i] -/
theorem at_sign {x : Str} {A R : List Nat} {c : Nat} {i : Int} (h : cp x = A ++ c :: R) (hi : i = A.length) (hz : x.length ≤ sizeLine) : oAt (.str x) (.int i) = ret (PyData.str ⟨#[c]⟩) := by
  have e : L2.atI (cp x) i = some c := by
    have z := L2.atI_nat (xs := cp x) (j := A.length) (v := c) (by rw [h]; simp)
    rw [hi]
    exact z
  show grd (x.length ≤ sizeLine) (match L2.atI x.cps.toList i with | some c => ret (PyData.str ⟨#[c]⟩) | none => bad) = _
  rw [grd_true hz, e]
/-! ### figures -/
def digs (m : Nat) : List Nat := (Nat.toDigits 10 m).map Char.toNat
theorem digs_all (m : Nat) : AllDigits (digs m) := by
  intro c hc
  unfold digs at hc
  obtain ⟨ch, hch, e⟩ := List.mem_map.mp hc
  have r := digit_range (Nat.isDigit_of_mem_toDigits (by decide) (by decide) hch)
  rw [← e]
  exact r
theorem digs_ne (m : Nat) : digs m ≠ [] := by
  unfold digs
  intro h
  rw [List.map_eq_nil_iff] at h
  exact Nat.toDigits_ne_nil h
theorem digs_cp (m : Nat) : cp ((toString (m : Int) : String) : Str) = digs m := signs_num m
theorem digs_len {m k : Nat} (hk : 0 < k) (h : m < 10 ^ k) : (digs m).length ≤ k := by
  unfold digs
  rw [List.length_map]
  exact (Nat.length_toDigits_le_iff (by decide) hk).mpr h
theorem digs_head {m : Nat} {r : List Nat} (h : digs m = 48 :: r) : r = [] := by
  have hv := val_back m
  have hall := digs_all m
  change digitsVal (digs m) = m at hv
  have e := toDigits_all (digs m) hall
  rw [hv] at e
  have el := congrArg List.length e
  have l1 : (Nat.toDigits 10 m).length = r.length + 1 := by
    have := congrArg List.length h
    unfold digs at this
    rw [List.length_map] at this
    exact this
  rw [l1, h] at el
  have dw : (48 :: r).dropWhile (· == 48) = r.dropWhile (· == 48) := by simp
  rw [dw] at el
  have dl : (r.dropWhile (· == 48)).length ≤ r.length := (List.dropWhile_suffix _).length_le
  cases q : r.dropWhile (· == 48) with
  | nil =>
    rw [q] at el
    have : r.length = 0 := by simpa using el
    exact List.eq_nil_of_length_eq_zero this
  | cons a b =>
    rw [q] at el dl
    simp at el dl
    omega
theorem digs_read {m : Nat} (h : m < 10 ^ 600) : oIntC [.str (mkS (digs m))] = ret (PyData.int (m : Int)) := by
  have hl := digs_len (k := 600) (by decide) h
  have l2 : (mkS (digs m)).length ≤ 640 := by rw [len_cp, cp_mkS]; omega
  have e : PySem.intText? (mkS (digs m)) = some (m : Int) := by
    have z := intText_digits (x := mkS (digs m)) (digs_all m) (digs_ne m) (by omega)
    rw [z]
    have hv := val_back m
    exact congrArg (fun n : Nat => some (n : Int)) hv
  show (match PySem.intText? (mkS (digs m)) with | some k => grd ((mkS (digs m)).length ≤ 640) (ret (PyData.int k)) | none => bad : Mv Dt) = _
  rw [e]
  exact grd_true l2 _
theorem int_cp (i : Int) : cp ((toString i : String) : Str) = if i < 0 then 45 :: digs i.natAbs else digs i.natAbs := by
  cases i with
  | ofNat m =>
    rw [if_neg (by have : (0 : Int) ≤ Int.ofNat m := Int.natCast_nonneg m; omega)]
    exact digs_cp m
  | negSucc m =>
    rw [if_pos (by omega)]
    have e : toString (Int.negSucc m) = "-" ++ (Nat.repr (m + 1)) := rfl
    show (Str.ofString (toString (Int.negSucc m))).cps.toList = _
    rw [signs_ofString, e, String.toList_append, List.map_append]
    show [45] ++ (Nat.repr (m + 1)).toList.map Char.toNat = _
    rw [Nat.toList_repr]
    rfl
/-! ### a worth's text -/
def leafL : Dt → List Nat
  | .none => [110, 111, 110, 101]
  | .bool b => if b then [121, 101, 115] else [110, 111]
  | .int i => cp ((toString i : String) : Str)
  | .str x => 39 :: (cp x ++ [39])
  | .tuple [.str _, .int i] => 35 :: cp ((toString i : String) : Str)
  | .tuple [.str k, .str m, .str n] => cp m ++ (if k = ("deed" : Str) then 46 else 58) :: cp n
  | _ => []
mutual
def tl (d : Dt) : List Nat := match h : rowOf d with
  | none => leafL d
  | some ps => have := rowOf_lt h; 91 :: (tls ps ++ [93])
termination_by sizeOf d
def tls : List Dt → List Nat
  | [] => []
  | [p] => tl p
  | p :: q :: ps => tl p ++ 32 :: tls (q :: ps)
termination_by ps => sizeOf ps
end
theorem tl_leaf {d : Dt} (h : rowOf d = none) : tl d = leafL d := by rw [tl]; split <;> simp_all
theorem tl_row {d : Dt} {ps : List Dt} (h : rowOf d = some ps) : tl d = 91 :: (tls ps ++ [93]) := by rw [tl]; split <;> simp_all
theorem tls_nil : tls [] = [] := by rw [tls]
theorem tls_one (p : Dt) : tls [p] = tl p := by rw [tls]
theorem tls_cons (p q : Dt) (ps : List Dt) : tls (p :: q :: ps) = tl p ++ 32 :: tls (q :: ps) := by rw [tls]
def txD (d : Dt) : Dt := .str (mkS (tl d))
theorem join_cp : ∀ ps : List Dt, cp (Txt.join " " (ps.map fun p => mkS (tl p))) = tls ps := by
  intro ps
  show cp (Builtin.Str.glued " " (ps.map fun p => mkS (tl p))) = _
  rw [StrLaws.glued_eq_join]
  induction ps with
  | nil => rw [tls_nil]; rfl
  | cons p ps ih =>
    cases ps with
    | nil => rw [tls_one]; rfl
    | cons q ps =>
      rw [tls_cons, List.map_cons, List.map_cons, join_cons_cons, cp_cat, cp_cat]
      rw [List.map_cons] at ih
      rw [ih, cp_mkS, List.append_assoc]
      rfl
/-- .. each with a blank ahead -/
def tlb (ps : List Dt) : List Nat := ps.flatMap fun p => 32 :: tl p
theorem tlb_eq : ∀ ps : List Dt, tlb ps = if ps.isEmpty then [] else 32 :: tls ps
  | [] => rfl
  | [p] => by
    show (32 :: tl p) ++ [] = 32 :: tls [p]
    rw [tls_one, List.append_nil]
  | p :: q :: ps => by
    show (32 :: tl p) ++ tlb (q :: ps) = 32 :: tls (p :: q :: ps)
    rw [tlb_eq (q :: ps), tls_cons]
    rfl
theorem tlb_drop (ps : List Dt) : (tlb ps).drop 1 = tls ps := by
  rw [tlb_eq]
  cases ps with
  | nil => rw [tls_nil]; rfl
  | cons p ps => rfl
theorem tlb_len (ps : List Dt) : (tlb ps).length ≤ (tls ps).length + 1 := by
  rw [tlb_eq]
  split
  · exact Nat.zero_le _
  · exact Nat.le_refl _
theorem tlb_app (a b : List Dt) : tlb (a ++ b) = tlb a ++ tlb b := List.flatMap_append
theorem tlb_take {ps : List Dt} {i : Nat} {p : Dt} (h : ps[i]? = some p) : tlb (ps.take (i + 1)) = tlb (ps.take i) ++ 32 :: tl p := by
  rw [List.take_succ, h, tlb_app]
  show _ ++ ((32 :: tl p) ++ []) = _
  rw [List.append_nil]
theorem tlb_take_len (ps : List Dt) (i : Nat) : (tlb (ps.take i)).length ≤ (tlb ps).length := by
  have e : tlb ps = tlb (ps.take i) ++ tlb (ps.drop i) := by rw [← tlb_app, List.take_append_drop]
  rw [e, List.length_append]
  omega
theorem leaf_len {d : Dt} (h : leafGood d = true) : (leafL d).length ≤ 22 := by
  have hs := leafGood_S h
  have hint : ∀ i : Int, -1000000000000000 ≤ i → i ≤ 1000000000000000 → (cp ((toString i : String) : Str)).length ≤ 17 := fun i h0 h1 => by
    rw [int_cp]
    have := digs_len (m := i.natAbs) (k := 16) (by decide) (by omega)
    split
    · rw [List.length_cons]; omega
    · omega
  cases d with
  | none => decide
  | bool b => cases b <;> decide
  | int i =>
    obtain ⟨a, b⟩ := lg_int h
    have := hint i a b
    show (cp ((toString i : String) : Str)).length ≤ 22
    omega
  | str x =>
    have := ((isText_iff x).mp (lg_str h)).1
    rw [len_cp] at this
    show (39 :: (cp x ++ [39])).length ≤ 22
    rw [List.length_cons, List.length_append, List.length_singleton]
    omega
  | tuple xs =>
    rcases named_cases (lg_tup h) with ⟨i, e, gi⟩ | ⟨a, b, c, e, ha, hb, hc⟩
    · cases e
      unfold great at gi
      rw [Bool.and_eq_true, decide_eq_true_eq, decide_eq_true_eq] at gi
      have := hint i (by omega) (by omega)
      show (35 :: cp ((toString i : String) : Str)).length ≤ 22
      rw [List.length_cons]
      omega
    · cases e
      have hb := ((name_iff b).mp hb).2.1
      have hc := ((name_iff c).mp hc).2.1
      rw [len_cp] at hb hc
      show (cp b ++ (if a = ("deed" : Str) then 46 else 58) :: cp c).length ≤ 22
      rw [List.length_append, List.length_cons]
      omega
  | list xs => cases hs
  | dict es => cases hs
mutual
theorem tl_len (d : Dt) (h : wellD d = true) : (tl d).length + 1 ≤ 30 * nod d := by
  cases hr : rowOf d with
  | none =>
    rw [tl_leaf hr, nod_leaf hr]
    have := leaf_len (well_leaf hr h)
    omega
  | some ps =>
    have hlt := rowOf_lt hr
    have z := tls_len ps (by rw [← well_row hr]; exact h)
    rw [tl_row hr, nod_row hr, List.length_cons, List.length_append, List.length_singleton]
    omega
termination_by sizeOf d
theorem tls_len (ps : List Dt) (h : wellsD ps = true) : (tls ps).length ≤ 30 * nods ps := by
  cases ps with
  | nil => rw [tls_nil]; exact Nat.zero_le _
  | cons p ps =>
    rw [wellsD_cons, Bool.and_eq_true] at h
    have z1 := tl_len p h.1
    cases ps with
    | nil =>
      rw [tls_one, nods, nods]
      omega
    | cons q ps =>
      have z2 := tls_len (q :: ps) h.2
      rw [tls_cons, nods, List.length_append, List.length_cons]
      omega
termination_by sizeOf ps
end
end Dl
namespace Dl
open PySem PySem.Spec L2
open PyProof.Rows hiding St
/-! ### dicts as data: d[k], k in d -/
def vdD : List (Dt × Dt) → Key → Option Dt
  | [], _ => none
  | (d, x) :: r, k => if keyOf d = some k then some x else vdD r k
theorem keyOf_kD (k : Key) : keyOf (kD k) = some k := by cases k <;> rfl
theorem key_eq {d : Dt} {k : Key} (h : keyOf d = some k) : d = kD k := by
  cases d <;> first | cases h; rfl | cases h
theorem vd_val {K : PySem.W.Frag} {F : Hp} : ∀ {kvs : List (Key × V)} {es : List (Dt × Dt)} (k : Key), RpKv K F kvs es → match vdD es k with
    | some d => ∃ v, valV kvs k = some v ∧ Rp K F v d
    | none => valV kvs k = none
  | _, _, k, .nil => rfl
  | _, _, k, .cons (k := q) (v := v) (d := d) (r := r) (es := es) h1 h2 => by
    have ih := vd_val k h2
    unfold vdD
    rw [keyOf_kD]
    by_cases e : q = k
    · rw [if_pos (by rw [e])]
      refine ⟨v, ?_, h1⟩
      unfold valV
      rw [List.find?_cons_of_pos (by simpa using e)]
      rfl
    · rw [if_neg (fun z => e (Option.some.inj z))]
      have e2 : valV ((q, v) :: r) k = valV r k := by
        unfold valV
        rw [List.find?_cons_of_neg (by simpa using e)]
      rw [e2]
      exact ih
section
variable {X : Cx} {g : Gh} {a b : Expr} {pos : Pos} {ma mb : Me Dt}
def oDix (d i : Dt) : Mv Dt := match d, keyOf i with
  | .dict es, some k => (match vdD es k with | some v => ret v | none => bad)
  | _, _ => bad
def oDin (i d : Dt) : Mv Dt := match d, keyOf i with
  | .dict es, some k => ret (.bool (vdD es k).isSome)
  | _, _ => bad
def oDnin (i d : Dt) : Mv Dt := match d, keyOf i with
  | .dict es, some k => ret (.bool (!(vdD es k).isSome))
  | _, _ => bad
theorem kV_of {K : PySem.W.Frag} {F : Hp} {v : V} {k : Key} (h : Rp K F v (kD k)) : v = kV k := by
  cases k <;> (cases h; rfl)
theorem de_dix (hu : X.A.units + 64 < cLine) (ha : DE X g a ma) (hb : DE X g b mb) (hs : NoSl b := by exact fun _ _ => rfl) : DE X g (.Subscript a b pos) (fun δ => bnd (ma δ) fun x => bnd (mb δ) fun y => oDix x y) := by
  obtain ⟨t, p, ha⟩ := ha
  obtain ⟨u, p2, hb⟩ := hb
  refine ⟨_, pe_dget (show X.A.units + 1 < cLine by omega) p p2 hs, fun σ H F δ n Q Qd R q w => ?_⟩
  refine ha σ H F δ n _ _ R (fun v d F1 H1 n1 rb rp hq => ?_) w
  refine hb σ H1 F1 δ n1 _ _ (R.ext rb) (fun v2 d2 F2 H2 n2 rb2 rp2 hq2 => ?_) hq
  have rp := rp.ext' rb2.f0
  unfold oDix at hq2
  cases d with
  | dict es =>
    cases ek : keyOf d2 with
    | none => rw [ek] at hq2; exact hq2.elim
    | some k =>
      rw [ek] at hq2
      have hq2 : (match vdD es k with | some v => ret v | none => bad : Mv Dt) n2 Qd g.W := hq2
      rw [key_eq ek] at rp2
      cases rp with
      | @dct ad kvs _ h1 h2 =>
        have z := vd_val k h2
        cases e : vdD es k with
        | none => rw [e] at hq2; exact hq2.elim
        | some x =>
          rw [e] at hq2 z
          obtain ⟨vv, z1, z2⟩ := z
          refine ⟨ad, vv, rfl, ?_, q vv x F2 H2 n2 (rb.trans rb2) z2 hq2⟩
          rw [kV_of rp2, ← z1]
          exact DGet.k (rb2.sub _ _ h1)
  | _ => exact hq2.elim
theorem de_dIn (hu : X.A.units + 64 < cLine) (ha : DE X g a ma) (hb : DE X g b mb) (hm : behindInMarks .In b = false) : DE X g (.Compare a [.In] [b] pos) (fun δ => bnd (ma δ) fun x => bnd (mb δ) fun y => oDin x y) := by
  obtain ⟨t, p, ha⟩ := ha
  obtain ⟨u, p2, hb⟩ := hb
  refine ⟨_, pe_cmp (pc_din (show X.A.units + 1 < cLine by omega) p p2) hm, fun σ H F δ n Q Qd R q w => ?_⟩
  refine ha σ H F δ n _ _ R (fun v d F1 H1 n1 rb rp hq => ?_) w
  refine hb σ H1 F1 δ n1 _ _ (R.ext rb) (fun v2 d2 F2 H2 n2 rb2 rp2 hq2 => ?_) hq
  have rp := rp.ext' rb2.f0
  unfold oDin at hq2
  cases d2 with
  | dict es =>
    cases ek : keyOf d with
    | none => rw [ek] at hq2; exact hq2.elim
    | some k =>
      rw [ek] at hq2
      have hq2 : Qd (.bool (vdD es k).isSome) n2 := hq2
      rw [key_eq ek] at rp
      cases rp2 with
      | @dct ad kvs _ h1 h2 =>
        have z := vd_val k h2
        cases e : vdD es k with
        | none =>
          rw [e] at hq2 z
          refine ⟨ad, none, rfl, ?_, q _ _ F2 H2 n2 (rb.trans rb2) (.bl _) hq2⟩
          rw [kV_of rp, ← z]
          exact DGet.k (rb2.sub _ _ h1)
        | some x =>
          rw [e] at hq2 z
          obtain ⟨vv, z1, z2⟩ := z
          refine ⟨ad, some vv, rfl, ?_, q _ _ F2 H2 n2 (rb.trans rb2) (.bl _) hq2⟩
          rw [kV_of rp, ← z1]
          exact DGet.k (rb2.sub _ _ h1)
  | _ => exact hq2.elim
end
end Dl
namespace Ev
open PySem PySem.Spec L2 Dl
open PyProof.Rows hiding St
def topS (i : Nat) : Stmt := PySem.Challenge.pw_everso_k04_worths_there_and_back.main.body.getD i (.Pass ⟨0, 0, 0, 0⟩)
structure Fc (K : PySem.W.Frag) (mg : Str → Option Value) : Prop where
  m_abs : mg "abs" = none
  m_all : mg "all" = none
  m_bool : mg "bool" = none
  m_int : mg "int" = none
  m_isinstance : mg "isinstance" = none
  m_len : mg "len" = none
  m_list : mg "list" = none
  m_ord : mg "ord" = none
  m_range : mg "range" = none
  m_repr : mg "repr" = none
  m_str : mg "str" = none
  m_tuple : mg "tuple" = none
  c_LETTERS : ∃ t, mg "LETTERS" = some (.str "abcdefghijklmnopqrstuvwxyz" t)
  c_LONGEST_NAME : ∃ t, mg "LONGEST_NAME" = some (.int 8 t)
  c_GREATEST : ∃ t, mg "GREATEST" = some (.int 1000000000000000 t)
  c_LONGEST_TEXT : ∃ t, mg "LONGEST_TEXT" = some (.int 20 t)
  c_FIRST_SIGN : ∃ t, mg "FIRST_SIGN" = some (.int 32 t)
  c_LAST_SIGN : ∃ t, mg "LAST_SIGN" = some (.int 126 t)
  c_NO_SIGNS : ∃ u, mg "NO_SIGNS" = some u ∧ RelV (.ref (He.ga K "NO_SIGNS")) u
  r_NO_SIGNS : ∀ F, Rp K F (.ref (He.ga K "NO_SIGNS")) (.tuple [.int 37, .int 39])
  c_ROW : ∃ t, mg "ROW" = some (.str "row" t)
  c_THING : ∃ t, mg "THING" = some (.str "thing" t)
  c_DEED : ∃ t, mg "DEED" = some (.str "deed" t)
  c_KIND : ∃ t, mg "KIND" = some (.str "kind" t)
  c_WIDEST : ∃ t, mg "WIDEST" = some (.int 40 t)
  c_MOST_IN_ALL : ∃ t, mg "MOST_IN_ALL" = some (.int 200 t)
  c_DEEPEST : ∃ t, mg "DEEPEST" = some (.int 8 t)
  c_FIGURES : ∃ t, mg "FIGURES" = some (.str "0123456789" t)
  c_MOST_FIGURES : ∃ t, mg "MOST_FIGURES" = some (.int 16 t)
def tab_WORDS : List (Str × Dt) := [("none", .none), ("yes", .bool true), ("no", .bool false)]
def tab_SORTS : List (Str × Dt) := [(".", .str "deed"), (":", .str "kind")]
structure Ft (K : PySem.W.Frag) (w : World) (mg : Str → Option Value) : Prop where
  t_WORDS : TabOk K w mg "WORDS" tab_WORDS
  t_SORTS : TabOk K w mg "SORTS" tab_SORTS
abbrev s_18 : Stmt := topS 18
abbrev n_18 : List Str := ["thing"]
theorem sc_18 : FnScope n_18 ["thing"] (defScope s_18) := ⟨rfl, rfl, rfl, by decide +kernel, rfl, by decide +kernel, by decide +kernel⟩
abbrev s_19 : Stmt := topS 19
abbrev n_19 : List Str := ["thing", "sign"]
theorem sc_19 : FnScope n_19 ["thing"] (defScope s_19) := ⟨rfl, rfl, rfl, by decide +kernel, rfl, by decide +kernel, by decide +kernel⟩
abbrev s_20 : Stmt := topS 20
abbrev n_20 : List Str := ["thing", "sign"]
theorem sc_20 : FnScope n_20 ["thing"] (defScope s_20) := ⟨rfl, rfl, rfl, by decide +kernel, rfl, by decide +kernel, by decide +kernel⟩
abbrev s_21 : Stmt := topS 21
abbrev n_21 : List Str := ["thing"]
theorem sc_21 : FnScope n_21 ["thing"] (defScope s_21) := ⟨rfl, rfl, rfl, by decide +kernel, rfl, by decide +kernel, by decide +kernel⟩
abbrev s_22 : Stmt := topS 22
abbrev n_22 : List Str := ["thing"]
theorem sc_22 : FnScope n_22 ["thing"] (defScope s_22) := ⟨rfl, rfl, rfl, by decide +kernel, rfl, by decide +kernel, by decide +kernel⟩
abbrev s_23 : Stmt := topS 23
abbrev n_23 : List Str := ["thing"]
theorem sc_23 : FnScope n_23 ["thing"] (defScope s_23) := ⟨rfl, rfl, rfl, by decide +kernel, rfl, by decide +kernel, by decide +kernel⟩
abbrev s_24 : Stmt := topS 24
abbrev n_24 : List Str := ["thing", "found", "waiting", "many", "here", "within", "part"]
theorem sc_24 : FnScope n_24 ["thing"] (defScope s_24) := ⟨rfl, rfl, rfl, by decide +kernel, rfl, by decide +kernel, by decide +kernel⟩
abbrev s_25 : Stmt := topS 25
abbrev n_25 : List Str := ["thing", "found", "one"]
theorem sc_25 : FnScope n_25 ["thing"] (defScope s_25) := ⟨rfl, rfl, rfl, by decide +kernel, rfl, by decide +kernel, by decide +kernel⟩
abbrev s_31 : Stmt := topS 31
abbrev n_31 : List Str := ["worth", "part", "sort", "module", "name"]
theorem sc_31 : FnScope n_31 ["worth"] (defScope s_31) := ⟨rfl, rfl, rfl, by decide +kernel, rfl, by decide +kernel, by decide +kernel⟩
abbrev s_32 : Stmt := topS 32
abbrev n_32 : List Str := ["text", "at", "signs"]
theorem sc_32 : FnScope n_32 ["text", "at", "signs"] (defScope s_32) := ⟨rfl, rfl, rfl, by decide +kernel, rfl, by decide +kernel, by decide +kernel⟩
abbrev s_33 : Stmt := topS 33
abbrev n_33 : List Str := ["text", "at", "end"]
theorem sc_33 : FnScope n_33 ["text", "at"] (defScope s_33) := ⟨rfl, rfl, rfl, by decide +kernel, rfl, by decide +kernel, by decide +kernel⟩
abbrev s_34 : Stmt := topS 34
abbrev n_34 : List Str := ["text", "at", "found"]
theorem sc_34 : FnScope n_34 ["text", "at"] (defScope s_34) := ⟨rfl, rfl, rfl, by decide +kernel, rfl, by decide +kernel, by decide +kernel⟩
abbrev s_35 : Stmt := topS 35
abbrev n_35 : List Str := ["text", "at", "end"]
theorem sc_35 : FnScope n_35 ["text", "at"] (defScope s_35) := ⟨rfl, rfl, rfl, by decide +kernel, rfl, by decide +kernel, by decide +kernel⟩
abbrev s_36 : Stmt := topS 36
abbrev n_36 : List Str := ["text", "at", "parts", "end", "found", "part"]
theorem sc_36 : FnScope n_36 ["text", "at"] (defScope s_36) := ⟨rfl, rfl, rfl, by decide +kernel, rfl, by decide +kernel, by decide +kernel⟩
abbrev s_37 : Stmt := topS 37
abbrev n_37 : List Str := ["text", "at", "found"]
theorem sc_37 : FnScope n_37 ["text", "at"] (defScope s_37) := ⟨rfl, rfl, rfl, by decide +kernel, rfl, by decide +kernel, by decide +kernel⟩
abbrev s_38 : Stmt := topS 38
abbrev n_38 : List Str := ["text", "at", "end", "first", "sign", "further"]
theorem sc_38 : FnScope n_38 ["text", "at"] (defScope s_38) := ⟨rfl, rfl, rfl, by decide +kernel, rfl, by decide +kernel, by decide +kernel⟩
abbrev s_39 : Stmt := topS 39
abbrev n_39 : List Str := ["text", "at", "sign"]
theorem sc_39 : FnScope n_39 ["text", "at"] (defScope s_39) := ⟨rfl, rfl, rfl, by decide +kernel, rfl, by decide +kernel, by decide +kernel⟩
abbrev s_40 : Stmt := topS 40
abbrev n_40 : List Str := ["text", "found"]
theorem sc_40 : FnScope n_40 ["text"] (defScope s_40) := ⟨rfl, rfl, rfl, by decide +kernel, rfl, by decide +kernel, by decide +kernel⟩
abbrev s_42 : Stmt := topS 42
abbrev n_42 : List Str := ["_law_script", "_law_cells", "_law_total", "_law_cell"]
theorem sc_42 : FnScope n_42 ["_law_script"] (defScope s_42) := ⟨rfl, rfl, rfl, by decide +kernel, rfl, by decide +kernel, by decide +kernel⟩
abbrev s_43 : Stmt := topS 43
abbrev n_43 : List Str := ["_law_hand", "_law_lots", "_law_cell", "_law_mixed"]
theorem sc_43 : FnScope n_43 ["_law_hand", "_law_lots"] (defScope s_43) := ⟨rfl, rfl, rfl, by decide +kernel, rfl, by decide +kernel, by decide +kernel⟩
abbrev s_44 : Stmt := topS 44
abbrev n_44 : List Str := ["_law_hand", "_law_some"]
theorem sc_44 : FnScope n_44 ["_law_hand", "_law_some"] (defScope s_44) := ⟨rfl, rfl, rfl, by decide +kernel, rfl, by decide +kernel, by decide +kernel⟩
abbrev s_45 : Stmt := topS 45
abbrev n_45 : List Str := ["_law_hand"]
theorem sc_45 : FnScope n_45 ["_law_hand"] (defScope s_45) := ⟨rfl, rfl, rfl, by decide +kernel, rfl, by decide +kernel, by decide +kernel⟩
abbrev s_46 : Stmt := topS 46
abbrev n_46 : List Str := ["_law_hand", "_law_sort", "_law_number", "_law_words", "_law_word", "_law_first", "_law_last", "_law_some"]
theorem sc_46 : FnScope n_46 ["_law_hand"] (defScope s_46) := ⟨rfl, rfl, rfl, by decide +kernel, rfl, by decide +kernel, by decide +kernel⟩
abbrev s_47 : Stmt := topS 47
abbrev n_47 : List Str := ["_law_some", "_law_parts"]
theorem sc_47 : FnScope n_47 [] (defScope s_47) := ⟨rfl, rfl, rfl, by decide +kernel, rfl, by decide +kernel, by decide +kernel⟩
abbrev s_48 : Stmt := topS 48
abbrev n_48 : List Str := ["_law_hand", "_law_deep", "_law_way", "_law_turn"]
theorem sc_48 : FnScope n_48 ["_law_hand", "_law_deep"] (defScope s_48) := ⟨rfl, rfl, rfl, by decide +kernel, rfl, by decide +kernel, by decide +kernel⟩
abbrev s_49 : Stmt := topS 49
abbrev n_49 : List Str := ["_law_inner", "_law_lots", "_law_turn"]
theorem sc_49 : FnScope n_49 ["_law_inner", "_law_lots"] (defScope s_49) := ⟨rfl, rfl, rfl, by decide +kernel, rfl, by decide +kernel, by decide +kernel⟩
abbrev s_50 : Stmt := topS 50
abbrev n_50 : List Str := ["_law_inner", "_law_lots"]
theorem sc_50 : FnScope n_50 ["_law_inner", "_law_lots"] (defScope s_50) := ⟨rfl, rfl, rfl, by decide +kernel, rfl, by decide +kernel, by decide +kernel⟩
abbrev s_51 : Stmt := topS 51
abbrev n_51 : List Str := ["_law_hand", "_law_inner", "_law_other_leaf", "_law_found"]
theorem sc_51 : FnScope n_51 ["_law_hand"] (defScope s_51) := ⟨rfl, rfl, rfl, by decide +kernel, rfl, by decide +kernel, by decide +kernel⟩
abbrev s_52 : Stmt := topS 52
abbrev n_52 : List Str := ["_law_hand", "_law_inner", "_law_other_leaf", "_law_found"]
theorem sc_52 : FnScope n_52 ["_law_hand"] (defScope s_52) := ⟨rfl, rfl, rfl, by decide +kernel, rfl, by decide +kernel, by decide +kernel⟩
abbrev s_53 : Stmt := topS 53
abbrev n_53 : List Str := ["_law_hand", "_law_every", "_law_turn"]
theorem sc_53 : FnScope n_53 ["_law_hand"] (defScope s_53) := ⟨rfl, rfl, rfl, by decide +kernel, rfl, by decide +kernel, by decide +kernel⟩
abbrev s_54 : Stmt := topS 54
abbrev n_54 : List Str := ["_law_it", "_law_found", "_law_part"]
theorem sc_54 : FnScope n_54 ["_law_it"] (defScope s_54) := ⟨rfl, rfl, rfl, by decide +kernel, rfl, by decide +kernel, by decide +kernel⟩
abbrev s_55 : Stmt := topS 55
abbrev n_55 : List Str := ["_law_it", "_law_kept", "_law_due", "_law_found", "_law_told"]
theorem sc_55 : FnScope n_55 ["_law_it"] (defScope s_55) := ⟨rfl, rfl, rfl, by decide +kernel, rfl, by decide +kernel, by decide +kernel⟩
abbrev s_56 : Stmt := topS 56
abbrev n_56 : List Str := ["_law_script", "_law_hand", "_law_some", "_law_turn", "_law_it"]
theorem sc_56 : FnScope n_56 ["_law_script"] (defScope s_56) := ⟨rfl, rfl, rfl, by decide +kernel, rfl, by decide +kernel, by decide +kernel⟩
/-! ### the program's worths -/
def fitW (d : Dt) : Prop := d.weight ≤ 300000
def thingOk : Dt → Bool
  | .int i => great i
  | _ => false
theorem fitW_str {x : Str} (h : fitW (.str x)) : x.length ≤ sizeLine := by
  have h : (PyData.str x).weight ≤ 300000 := h
  have e : (PyData.str x).weight = x.length := by simp [PyData.weight, Str.length]
  rw [e] at h
  exact Nat.le_trans h (by decide)
theorem weight_mem : ∀ {xs : List Dt} {y : Dt}, y ∈ xs → y.weight + 1 ≤ PyData.weightAll xs
  | x :: xs, y, h => by
    rw [PyData.weightAll]
    rcases List.mem_cons.mp h with rfl | h
    · omega
    · have := weight_mem h
      omega
theorem fitW_mem {xs : List Dt} {y : Dt} (h : fitW (.tuple xs)) (hy : y ∈ xs) : fitW y := by
  have h : (PyData.tuple xs).weight ≤ 300000 := h
  rw [PyData.weight] at h
  have := weight_mem hy
  unfold fitW
  omega
def mPure (f : Dt → Dt) : List Da → Mv Dt
  | [.d x] => grd (fitW x) (Dl.ret (f x))
  | _ => bad
theorem mPure_is {f : Dt → Dt} {x : Dt} (c : Nat) (hc : c = 1) (h : fitW x) : many c (mPure f) [Da.d x] = Dl.ret (f x) := (many_app _ _ _ (by rw [hc]; rfl)).trans (grd_true h _)
theorem mPureK_is {f : Dt → Dt} {x : Dt} (c : Nat) (hc : c = 1) (h : fitW x) : manyK c (mPure f) [0] [Da.d x] = Dl.ret (f x) := (manyK_app _ _ _ _ (by rw [hc]; rfl) (by rw [hc]; rfl)).trans (grd_true h _)
section
variable {P : Program} {w : World} {K : PySem.W.Frag} {mg : Str → Option Value} {base : Heap} {f : Addr} {fd : FuncData} {k : Nat}

theorem ok_is_whole (F : Fc K mg) (D : Df K mg "is_whole" s_18 ["thing"] f fd) : Kn P w K mg base (k + 1) "is_whole" s_18 ["thing"] (mPure fun x => .bool (isWhole x)) := by
  refine D.kn (FnD.of _ D.d sc_18 (fun cdv A outer s H E g hx room => have hu := hu64 room; have hu1 := hu65 room;
    (dss_one (ds_ret (de_and (de_isi ts_int rfl F.m_isinstance rfl F.m_int rfl (dx_var 0)) (de_one (de_not (de_isi ts_bool rfl F.m_isinstance rfl F.m_bool rfl (dx_var 0)))))))) ?_)
  intro as n Qd W hl h
  match as, hl, h with
  | [.d x], _, ⟨hz, hq⟩ => cases x <;> exact hq


theorem ok_is_name (F : Fc K mg) (D : Df K mg "is_name" s_19 ["thing"] f fd) : Kn P w K mg base (k + 1) "is_name" s_19 ["thing"] (mPure fun x => .bool (isName x)) := by
  refine D.kn (FnD.of _ D.d sc_19 (fun cdv A outer s H E g hx room => have hu := hu64 room; have hu1 := hu65 room;
    (dss_cons (ds_if (DW.tst (dw_or (dt_not (DE.tst (de_isi ts_str rfl F.m_isinstance rfl F.m_str rfl (dx_var 0)))) (dw_or1 (dt_not (dt_chain op_le op_le x2_cmp x2_cmp (DE.now de_int) (DE.now (de_callX call_len xc_len rfl F.m_len rfl (dxs_cons (dx_var 0) dxs_nil))) (DE.now (de_gi F.c_LONGEST_NAME))))))) (dss_one (ds_ret de_bl)) dss_nil)
 (dss_one (ds_ret (de_callX (cr_all rfl) xc_all rfl F.m_all rfl (dxs_cons (DE.now (DN.dat (dn_lc rfl sc_19.nd (own := [("sign", 1)]) (blk_ok rfl) (DF.di (df_str (de_var 0))) (fun _ _ _ _ _ => (dg_name 1 sc_19.nd)) (fun _ _ _ _ _ => difs_nil) (fun _ _ _ _ _ => (de_cmpX (op_inA hu1) x2_in (dx_var 1) (DE.now (de_gs F.c_LETTERS)) rfl))))) dxs_nil)))))) ?_)
  intro as n Qd W hl h
  match as, hl, h with
  | [.d x], _, ⟨hz, hq⟩ =>
    cases x with
    | str x =>
      have hz' : x.length ≤ sizeLine := fitW_str hz
      rw [show slotsOf n_19 [Da.d (PyData.str x)] = [Ds.d (.str x), .no] from rfl]
      simp only [sSeq, sIf, sNext, sAsg, sPar, sPar3, gN, bnd_ret, ret_app, bnd_grd, grd_app, sl_zero, sl_succ, slX_zero, slX_own, slX_succ, slO_zero, slO_own, slO_succ, slH_zero, slH_succ, frz_zero, frz_succ, own_zero, own_succ, onStr_str, asB_bool, asI_int, both_if, either_if, bothD_if, eitherD_if, choose_if, List.set_cons_zero, List.set_cons_succ, Bool.not_true, Bool.not_false, if_true, if_false, Bool.false_eq_true, grd_nil, isStr, oLen, oC, grd_true hz', ite_ret2]
      rw [lcD_map (items := charsD x) (fun d => .bool (inV' d (.str letters)))]
      · rw [bnd_ret, bnd_ret, bnd_ret, oAll_map]
        have hq : Qd (.bool (isName (.str x))) n := hq
        simp only [isName] at hq
        cases h1 : decide (1 ≤ (x.length : Int)) <;> cases h2 : decide ((x.length : Int) ≤ 8) <;> (rw [h1, h2] at hq; exact hq)
      · show grd (x.length ≤ sizeLine) _ = _
        rw [grd_true hz']
      · intro d hd
        obtain ⟨c, rfl⟩ := mem_chars hd
        exact ⟨_, rfl, grd_true ⟨_, rfl⟩ _⟩
    | _ => exact hq


theorem ok_is_text (F : Fc K mg) (D : Df K mg "is_text" s_20 ["thing"] f fd) : Kn P w K mg base (k + 1) "is_text" s_20 ["thing"] (mPure fun x => .bool (isText x)) := by
  refine D.kn (FnD.of _ D.d sc_20 (fun cdv A outer s H E g hx room => have hu := hu64 room; have hu1 := hu65 room;
    (dss_cons (ds_if (DW.tst (dw_or (dt_not (DE.tst (de_isi ts_str rfl F.m_isinstance rfl F.m_str rfl (dx_var 0)))) (dw_or1 (dt_cmpX op_gt x2_cmp (DE.now (de_callX call_len xc_len rfl F.m_len rfl (dxs_cons (dx_var 0) dxs_nil))) (DE.now (de_gi F.c_LONGEST_TEXT)) (nomark _))))) (dss_one (ds_ret de_bl)) dss_nil)
 (dss_one (ds_ret (de_callX (cr_all rfl) xc_all rfl F.m_all rfl (dxs_cons (DE.now (DN.dat (dn_lc rfl sc_20.nd (own := [("sign", 1)]) (blk_ok rfl) (DF.di (df_str (de_var 0))) (fun _ _ _ _ _ => (dg_name 1 sc_20.nd)) (fun _ _ _ _ _ => difs_nil) (fun _ _ _ _ _ => (de_and (de_chain op_le op_le x2_cmp x2_cmp (DE.now (de_gi F.c_FIRST_SIGN)) (DE.now (de_callX call_ord xc_ord rfl F.m_ord rfl (dxs_cons (dx_var 1) dxs_nil))) (DE.now (de_gi F.c_LAST_SIGN))) (de_one (de_cmpX (op_notInA hu1) x2_notIn (DE.now (de_callX call_ord xc_ord rfl F.m_ord rfl (dxs_cons (dx_var 1) dxs_nil))) (DE.now (de_gc F.c_NO_SIGNS F.r_NO_SIGNS)) rfl))))))) dxs_nil)))))) ?_)
  intro as n Qd W hl h
  match as, hl, h with
  | [.d x], _, ⟨hz, hq⟩ =>
    cases x with
    | str x =>
      have hz' : x.length ≤ sizeLine := fitW_str hz
      rw [show slotsOf n_20 [Da.d (PyData.str x)] = [Ds.d (.str x), .no] from rfl]
      simp only [sSeq, sIf, sNext, sAsg, sPar, sPar3, gN, bnd_ret, ret_app, bnd_grd, grd_app, sl_zero, sl_succ, slX_zero, slX_own, slX_succ, slO_zero, slO_own, slO_succ, slH_zero, slH_succ, frz_zero, frz_succ, own_zero, own_succ, onStr_str, asB_bool, asI_int, both_if, either_if, bothD_if, eitherD_if, choose_if, List.set_cons_zero, List.set_cons_succ, Bool.not_true, Bool.not_false, if_true, if_false, Bool.false_eq_true, grd_nil, isStr, oLen, oC, grd_true hz', ite_ret2]
      rw [lcD_map (items := charsD x) (fun d => .bool (okSign d))]
      · rw [bnd_ret, bnd_ret, bnd_ret, oAll_map]
        have hq : Qd (.bool (isText (.str x))) n := hq
        simp only [isText] at hq
        have e : decide ((20 : Int) < (x.length : Int)) = !decide ((x.length : Int) ≤ 20) := by rw [← decide_not]; exact decide_eq_decide.mpr (by omega)
        rw [e]
        cases h2 : decide ((x.length : Int) ≤ 20) <;> (rw [h2] at hq; exact hq)
      · show grd (x.length ≤ sizeLine) _ = _
        rw [grd_true hz']
      · intro d hd
        obtain ⟨c, rfl⟩ := mem_chars hd
        refine ⟨_, rfl, ?_⟩
        have eo : oOrd [.str ⟨#[c]⟩] = Dl.ret (.int (c : Nat)) := grd_true rfl _
        have en : oNotIn (.int (c : Nat)) (.tuple [.int 37, .int 39]) = Dl.ret (.bool (!inD (.int (c : Nat)) [.int 37, .int 39])) := grd_true ⟨rfl, rfl⟩ _
        have es : okSign (.str ⟨#[c]⟩) = (decide (32 ≤ (c : Int)) && decide ((c : Int) ≤ 126) && !inD (.int (c : Nat)) [.int 37, .int 39]) := rfl
        rw [es]
        simp only [sSeq, sIf, sNext, sAsg, sPar, sPar3, gN, bnd_ret, ret_app, bnd_grd, grd_app, sl_zero, sl_succ, slX_zero, slX_own, slX_succ, slO_zero, slO_own, slO_succ, slH_zero, slH_succ, frz_zero, frz_succ, own_zero, own_succ, onStr_str, asB_bool, asI_int, both_if, either_if, bothD_if, eitherD_if, choose_if, List.set_cons_zero, List.set_cons_succ, Bool.not_true, Bool.not_false, if_true, if_false, Bool.false_eq_true, grd_nil, eo, en, oC, wipeD_cons, wipeD_nil, List.map]
        cases decide (32 ≤ (c : Int)) <;> cases decide ((c : Int) ≤ 126) <;> rfl
    | _ => exact hq


theorem ok_is_row (F : Fc K mg) (D : Df K mg "is_row" s_21 ["thing"] f fd) : Kn P w K mg base (k + 1) "is_row" s_21 ["thing"] (mPure fun x => .bool (isRowD x)) := by
  refine D.kn (FnD.of _ D.d sc_21 (fun cdv A outer s H E g hx room => have hu := hu64 room; have hu1 := hu65 room;
    (dss_cons (ds_if (DW.tst (dw_or (dt_not (DE.tst (de_isi ts_tuple rfl F.m_isinstance rfl F.m_tuple rfl (dx_var 0)))) (dw_or (dt_cmpX (op_neA hu) x2_ne (DE.now (de_callX call_len xc_len rfl F.m_len rfl (dxs_cons (dx_var 0) dxs_nil))) (DE.now de_int) (nomark _)) (dw_or1 (dt_not (DE.tst (de_isi ts_str rfl F.m_isinstance rfl F.m_str rfl (DE.now (de_at (dx_var 0) (DE.now de_int) (fun _ _ => rfl)))))))))) (dss_one (ds_ret de_bl)) dss_nil)
 (dss_one (ds_ret (de_and (de_cmpX (op_eqA hu) x2_eq (DE.now (de_at (dx_var 0) (DE.now de_int) (fun _ _ => rfl))) (DE.now (de_gs F.c_ROW)) (nomark _)) (de_one (de_isi ts_tuple rfl F.m_isinstance rfl F.m_tuple rfl (DE.now (de_at (dx_var 0) (DE.now de_int) (fun _ _ => rfl)))))))))) ?_)
  intro as n Qd W hl h
  match as, hl, h with
  | [.d x], _, ⟨hz, hq⟩ =>
    cases x with
    | tuple ds =>
      match ds, hz, hq with
      | [], _, hq =>
        rw [show slotsOf n_21 [Da.d (PyData.tuple [])] = [Ds.d (.tuple [])] from rfl]
        simp only [sSeq, sIf, sNext, sAsg, sPar, sPar3, gN, bnd_ret, ret_app, bnd_grd, grd_app, sl_zero, sl_succ, slX_zero, slX_own, slX_succ, slO_zero, slO_own, slO_succ, slH_zero, slH_succ, frz_zero, frz_succ, own_zero, own_succ, onStr_str, asB_bool, asI_int, both_if, either_if, bothD_if, eitherD_if, choose_if, List.set_cons_zero, List.set_cons_succ, Bool.not_true, Bool.not_false, if_true, if_false, Bool.false_eq_true, grd_nil, isTup, oLen, oNe_int]
        exact hq
      | [a], _, hq =>
        have e : isRowD (.tuple [a]) = false := by unfold isRowD rowOf; cases a <;> rfl
        have hq : Qd (.bool (isRowD (.tuple [a]))) n := hq
        rw [e] at hq
        rw [show slotsOf n_21 [Da.d (PyData.tuple [a])] = [Ds.d (.tuple [a])] from rfl]
        simp only [sSeq, sIf, sNext, sAsg, sPar, sPar3, gN, bnd_ret, ret_app, bnd_grd, grd_app, sl_zero, sl_succ, slX_zero, slX_own, slX_succ, slO_zero, slO_own, slO_succ, slH_zero, slH_succ, frz_zero, frz_succ, own_zero, own_succ, onStr_str, asB_bool, asI_int, both_if, either_if, bothD_if, eitherD_if, choose_if, List.set_cons_zero, List.set_cons_succ, Bool.not_true, Bool.not_false, if_true, if_false, Bool.false_eq_true, grd_nil, isTup, oLen, oNe_int]
        exact hq
      | a :: b :: c :: r, _, hq =>
        have e : isRowD (.tuple (a :: b :: c :: r)) = false := by unfold isRowD rowOf; cases a <;> cases b <;> rfl
        have hq : Qd (.bool (isRowD (.tuple (a :: b :: c :: r)))) n := hq
        rw [e] at hq
        rw [show slotsOf n_21 [Da.d (PyData.tuple (a :: b :: c :: r))] = [Ds.d (.tuple (a :: b :: c :: r))] from rfl]
        have en : ((((a :: b :: c :: r).length : Nat) : Int) == 2) = false := by simp only [List.length_cons, beq_eq_false_iff_ne]; omega
        simp only [sSeq, sIf, sNext, sAsg, sPar, sPar3, gN, bnd_ret, ret_app, bnd_grd, grd_app, sl_zero, sl_succ, slX_zero, slX_own, slX_succ, slO_zero, slO_own, slO_succ, slH_zero, slH_succ, frz_zero, frz_succ, own_zero, own_succ, onStr_str, asB_bool, asI_int, both_if, either_if, bothD_if, eitherD_if, choose_if, List.set_cons_zero, List.set_cons_succ, Bool.not_true, Bool.not_false, if_true, if_false, Bool.false_eq_true, grd_nil, isTup, oLen, oNe_int, en]
        exact hq
      | [a, b], _, hq =>
        rw [show slotsOf n_21 [Da.d (PyData.tuple [a, b])] = [Ds.d (.tuple [a, b])] from rfl]
        have e1 : oNe (.int (([a, b] : List Dt).length : Nat)) (.int 2) = Dl.ret (.bool false) := oNe_int _ _
        have e2 : oAt (.tuple [a, b]) (.int 0) = Dl.ret a := rfl
        have e3 : oAt (.tuple [a, b]) (.int 1) = Dl.ret b := rfl
        have hq : Qd (.bool (isRowD (.tuple [a, b]))) n := hq
        cases a with
        | str x =>
          have e4 : oEq (.str x) (.str "row") = Dl.ret (.bool (x == ("row" : Str))) := oEq_str _ _
          have er : isRowD (.tuple [.str x, b]) = ((x == ("row" : Str)) && isTup b) := by
            unfold isRowD rowOf
            cases b with
            | tuple ps =>
              by_cases z : x = ("row" : Str)
              · subst z; simp [isTup]
              · have : (x == ("row" : Str)) = false := by simpa using z
                simp [z, this]
            | _ => simp [isTup]
          rw [er] at hq
          simp only [sSeq, sIf, sNext, sAsg, sPar, sPar3, gN, bnd_ret, ret_app, bnd_grd, grd_app, sl_zero, sl_succ, slX_zero, slX_own, slX_succ, slO_zero, slO_own, slO_succ, slH_zero, slH_succ, frz_zero, frz_succ, own_zero, own_succ, onStr_str, asB_bool, asI_int, both_if, either_if, bothD_if, eitherD_if, choose_if, List.set_cons_zero, List.set_cons_succ, Bool.not_true, Bool.not_false, if_true, if_false, Bool.false_eq_true, grd_nil, isTup, isStr, oLen, e1, e2, e3, e4]
          cases z : (x == ("row" : Str)) <;> (rw [z] at hq; exact hq)
        | _ =>
          simp only [sSeq, sIf, sNext, sAsg, sPar, sPar3, gN, bnd_ret, ret_app, bnd_grd, grd_app, sl_zero, sl_succ, slX_zero, slX_own, slX_succ, slO_zero, slO_own, slO_succ, slH_zero, slH_succ, frz_zero, frz_succ, own_zero, own_succ, onStr_str, asB_bool, asI_int, both_if, either_if, bothD_if, eitherD_if, choose_if, List.set_cons_zero, List.set_cons_succ, Bool.not_true, Bool.not_false, if_true, if_false, Bool.false_eq_true, grd_nil, isTup, isStr, oLen, e1, e2, e3]
          exact hq
    | _ => exact hq


theorem ok_is_named (F : Fc K mg) (K_is_whole : Kn P w K mg base k "is_whole" s_18 ["thing"] (mPure fun x => .bool (isWhole x))) (K_is_name : Kn P w K mg base k "is_name" s_19 ["thing"] (mPure fun x => .bool (isName x))) (D : Df K mg "is_named" s_22 ["thing"] f fd) : Kn P w K mg base (k + 1) "is_named" s_22 ["thing"] (mPure fun x => .bool (isNamed x)) := by
  refine D.kn (FnD.of _ D.d sc_22 (fun cdv A outer s H E g hx room => have hu := hu64 room; have hu1 := hu65 room;
    (dss_cons (ds_if (DW.tst (dw_or (dt_not (DE.tst (de_isi ts_tuple rfl F.m_isinstance rfl F.m_tuple rfl (dx_var 0)))) (dw_or (dt_cmpX (op_notInA hu1) x2_notIn (DE.now (de_callX call_len xc_len rfl F.m_len rfl (dxs_cons (dx_var 0) dxs_nil))) (DE.now (de_tup (des_cons de_int (des_cons de_int des_nil)))) rfl) (dw_or1 (dt_not (DE.tst (de_isi ts_str rfl F.m_isinstance rfl F.m_str rfl (DE.now (de_at (dx_var 0) (DE.now de_int) (fun _ _ => rfl)))))))))) (dss_one (ds_ret de_bl)) dss_nil)
 (dss_cons (ds_if (dt_cmpX (op_eqA hu) x2_eq (DE.now (de_callX call_len xc_len rfl F.m_len rfl (dxs_cons (dx_var 0) dxs_nil))) (DE.now de_int) (nomark _)) (dss_one (ds_ret (de_and (de_cmpX (op_eqA hu) x2_eq (DE.now (de_at (dx_var 0) (DE.now de_int) (fun _ _ => rfl))) (DE.now (de_gs F.c_THING)) (nomark _)) (de_and (de_k K_is_whole hx room (das_cons (DE.arg (de_at (dx_var 0) (DE.now de_int) (fun _ _ => rfl))) das_nil)) (de_one (de_chain op_le op_le x2_cmp x2_cmp (DE.now de_int) (DE.now (de_at (dx_var 0) (DE.now de_int) (fun _ _ => rfl))) (DE.now (de_gi F.c_GREATEST)))))))) dss_nil)
 (dss_one (ds_ret (de_and (de_cmpX (op_inA hu1) x2_in (DE.now (de_at (dx_var 0) (DE.now de_int) (fun _ _ => rfl))) (DE.now (de_tup (des_cons (de_gs F.c_DEED) (des_cons (de_gs F.c_KIND) des_nil)))) rfl) (de_and (de_k K_is_name hx room (das_cons (DE.arg (de_at (dx_var 0) (DE.now de_int) (fun _ _ => rfl))) das_nil)) (de_one (de_k K_is_name hx room (das_cons (DE.arg (de_at (dx_var 0) (DE.now de_int) (fun _ _ => rfl))) das_nil)))))))))) ?_)
  intro as n Qd W hl h
  match as, hl, h with
  | [.d x], _, ⟨hz, hq⟩ =>
    cases x with
    | tuple ds =>
      have ein : ∀ j : Int, oNotIn (.int j) (.tuple [.int 2, .int 3]) = Dl.ret (.bool (!(inD (.int j) [.int 2, .int 3]))) := fun j => grd_true ⟨rfl, rfl⟩ _
      have eid : ∀ j : Int, inD (.int j) [.int 2, .int 3] = ((2 == j) || (3 == j)) := fun j => by
        unfold inD
        simp only [List.any_cons, List.any_nil, Bool.or_false, PyData.eqv]
      match ds, hz, hq with
      | [], _, hq =>
        rw [show slotsOf n_22 [Da.d (PyData.tuple [])] = [Ds.d (.tuple [])] from rfl]
        simp only [sSeq, sIf, sNext, sAsg, sPar, sPar3, gN, bnd_ret, ret_app, bnd_grd, grd_app, sl_zero, sl_succ, slX_zero, slX_own, slX_succ, slO_zero, slO_own, slO_succ, slH_zero, slH_succ, frz_zero, frz_succ, own_zero, own_succ, onStr_str, asB_bool, asI_int, both_if, either_if, bothD_if, eitherD_if, choose_if, List.set_cons_zero, List.set_cons_succ, Bool.not_true, Bool.not_false, if_true, if_false, Bool.false_eq_true, grd_nil, isTup, oLen, ein, eid, grd_true (show ([PyData.int 2, PyData.int 3] : List Dt).length ≤ sizeLine from sz 2)]
        exact hq
      | [a], _, hq =>
        have e : isNamed (.tuple [a]) = false := by unfold isNamed; cases a <;> rfl
        have hq : Qd (.bool (isNamed (.tuple [a]))) n := hq
        rw [e] at hq
        rw [show slotsOf n_22 [Da.d (PyData.tuple [a])] = [Ds.d (.tuple [a])] from rfl]
        simp only [sSeq, sIf, sNext, sAsg, sPar, sPar3, gN, bnd_ret, ret_app, bnd_grd, grd_app, sl_zero, sl_succ, slX_zero, slX_own, slX_succ, slO_zero, slO_own, slO_succ, slH_zero, slH_succ, frz_zero, frz_succ, own_zero, own_succ, onStr_str, asB_bool, asI_int, both_if, either_if, bothD_if, eitherD_if, choose_if, List.set_cons_zero, List.set_cons_succ, Bool.not_true, Bool.not_false, if_true, if_false, Bool.false_eq_true, grd_nil, isTup, oLen, ein, eid, grd_true (show ([PyData.int 2, PyData.int 3] : List Dt).length ≤ sizeLine from sz 2)]
        exact hq
      | a :: b :: c :: d :: r, _, hq =>
        have e : isNamed (.tuple (a :: b :: c :: d :: r)) = false := by unfold isNamed; cases a <;> cases b <;> rfl
        have hq : Qd (.bool (isNamed (.tuple (a :: b :: c :: d :: r)))) n := hq
        rw [e] at hq
        rw [show slotsOf n_22 [Da.d (PyData.tuple (a :: b :: c :: d :: r))] = [Ds.d (.tuple (a :: b :: c :: d :: r))] from rfl]
        have e2 : ((2 : Int) == (((a :: b :: c :: d :: r).length : Nat) : Int)) = false := by simp only [List.length_cons, beq_eq_false_iff_ne]; omega
        have e3 : ((3 : Int) == (((a :: b :: c :: d :: r).length : Nat) : Int)) = false := by simp only [List.length_cons, beq_eq_false_iff_ne]; omega
        simp only [sSeq, sIf, sNext, sAsg, sPar, sPar3, gN, bnd_ret, ret_app, bnd_grd, grd_app, sl_zero, sl_succ, slX_zero, slX_own, slX_succ, slO_zero, slO_own, slO_succ, slH_zero, slH_succ, frz_zero, frz_succ, own_zero, own_succ, onStr_str, asB_bool, asI_int, both_if, either_if, bothD_if, eitherD_if, choose_if, List.set_cons_zero, List.set_cons_succ, Bool.not_true, Bool.not_false, if_true, if_false, Bool.false_eq_true, grd_nil, isTup, oLen, ein, eid, e2, e3, grd_true (show ([PyData.int 2, PyData.int 3] : List Dt).length ≤ sizeLine from sz 2)]
        exact hq
      | [a, b], hz, hq =>
        rw [show slotsOf n_22 [Da.d (PyData.tuple [a, b])] = [Ds.d (.tuple [a, b])] from rfl]
        have l2 : ((([a, b] : List Dt).length : Nat) : Int) = 2 := rfl
        have e2 : oAt (.tuple [a, b]) (.int 0) = Dl.ret a := rfl
        have e3 : oAt (.tuple [a, b]) (.int 1) = Dl.ret b := rfl
        have hq : Qd (.bool (isNamed (.tuple [a, b]))) n := hq
        cases a with
        | str x =>
          have hw := mPure_is (f := fun x => .bool (isWhole x)) (["thing"] : List Str).length rfl (fitW_mem hz (List.mem_cons_of_mem _ List.mem_cons_self) : fitW b)
          have er : isNamed (.tuple [.str x, b]) = ((x == ("thing" : Str)) && thingOk b) := by
            unfold isNamed
            cases b <;> first
              | (by_cases z : x = ("thing" : Str) <;> simp [z, thingOk])
              | simp [thingOk]
          rw [er] at hq
          cases b with
          | int i =>
            simp only [sSeq, sIf, sNext, sAsg, sPar, sPar3, gN, bnd_ret, ret_app, bnd_grd, grd_app, sl_zero, sl_succ, slX_zero, slX_own, slX_succ, slO_zero, slO_own, slO_succ, slH_zero, slH_succ, frz_zero, frz_succ, own_zero, own_succ, onStr_str, asB_bool, asI_int, both_if, either_if, bothD_if, eitherD_if, choose_if, List.set_cons_zero, List.set_cons_succ, Bool.not_true, Bool.not_false, if_true, if_false, Bool.false_eq_true, grd_nil, isTup, isStr, oLen, oC, ein, eid, l2, oEq_int, e2, e3, oEq_str, hw, grd_true (show ([PyData.int 2, PyData.int 3] : List Dt).length ≤ sizeLine from sz 2)]
            have hq : Qd (.bool ((x == ("thing" : Str)) && (decide (0 ≤ i) && decide (i ≤ 1000000000000000)))) n := hq
            cases z : (x == ("thing" : Str)) <;> cases z2 : decide (0 ≤ i) <;> cases z3 : decide (i ≤ 1000000000000000) <;> (rw [z, z2, z3] at hq; first | exact hq | (simp only [z3]; exact hq) | trivial)
          | _ =>
            simp only [sSeq, sIf, sNext, sAsg, sPar, sPar3, gN, bnd_ret, ret_app, bnd_grd, grd_app, sl_zero, sl_succ, slX_zero, slX_own, slX_succ, slO_zero, slO_own, slO_succ, slH_zero, slH_succ, frz_zero, frz_succ, own_zero, own_succ, onStr_str, asB_bool, asI_int, both_if, either_if, bothD_if, eitherD_if, choose_if, List.set_cons_zero, List.set_cons_succ, Bool.not_true, Bool.not_false, if_true, if_false, Bool.false_eq_true, grd_nil, isTup, isStr, oLen, ein, eid, l2, oEq_int, e2, e3, oEq_str, hw, grd_true (show ([PyData.int 2, PyData.int 3] : List Dt).length ≤ sizeLine from sz 2)]
            cases z : (x == ("thing" : Str)) <;> (rw [z] at hq; exact hq)
        | _ =>
          simp only [sSeq, sIf, sNext, sAsg, sPar, sPar3, gN, bnd_ret, ret_app, bnd_grd, grd_app, sl_zero, sl_succ, slX_zero, slX_own, slX_succ, slO_zero, slO_own, slO_succ, slH_zero, slH_succ, frz_zero, frz_succ, own_zero, own_succ, onStr_str, asB_bool, asI_int, both_if, either_if, bothD_if, eitherD_if, choose_if, List.set_cons_zero, List.set_cons_succ, Bool.not_true, Bool.not_false, if_true, if_false, Bool.false_eq_true, grd_nil, isTup, isStr, oLen, ein, eid, l2, e2, e3, grd_true (show ([PyData.int 2, PyData.int 3] : List Dt).length ≤ sizeLine from sz 2)]
          exact hq
      | [a, b, c], hz, hq =>
        rw [show slotsOf n_22 [Da.d (PyData.tuple [a, b, c])] = [Ds.d (.tuple [a, b, c])] from rfl]
        have l2 : ((([a, b, c] : List Dt).length : Nat) : Int) = 3 := rfl
        have e2 : oAt (.tuple [a, b, c]) (.int 0) = Dl.ret a := rfl
        have e3 : oAt (.tuple [a, b, c]) (.int 1) = Dl.ret b := rfl
        have e4 : oAt (.tuple [a, b, c]) (.int 2) = Dl.ret c := rfl
        have hq : Qd (.bool (isNamed (.tuple [a, b, c]))) n := hq
        cases a with
        | str x =>
          have hb := mPure_is (f := fun x => .bool (isName x)) (["thing"] : List Str).length rfl (fitW_mem hz (List.mem_cons_of_mem _ List.mem_cons_self) : fitW b)
          have hc := mPure_is (f := fun x => .bool (isName x)) (["thing"] : List Str).length rfl (fitW_mem hz (List.mem_cons_of_mem _ (List.mem_cons_of_mem _ List.mem_cons_self)) : fitW c)
          have ei : oIn (.str x) (.tuple [.str "deed", .str "kind"]) = Dl.ret (.bool ((("deed" : Str) == x) || (("kind" : Str) == x))) := by
            refine (grd_true ⟨rfl, rfl⟩ _).trans ?_
            show Dl.ret (PyData.bool (inD (.str x) [.str "deed", .str "kind"])) = _
            unfold inD
            simp only [List.any_cons, List.any_nil, Bool.or_false, PyData.eqv]
          have er : isNamed (.tuple [.str x, b, c]) = (((("deed" : Str) == x) || (("kind" : Str) == x)) && isName b && isName c) := by
            have d1 : (("deed" : Str) == x) = decide (x = ("deed" : Str)) := by rw [Bool.eq_iff_iff]; simp; exact eq_comm
            have d2 : (("kind" : Str) == x) = decide (x = ("kind" : Str)) := by rw [Bool.eq_iff_iff]; simp; exact eq_comm
            rw [d1, d2]
            unfold isNamed
            cases b <;> rfl
          rw [er] at hq
          simp only [sSeq, sIf, sNext, sAsg, sPar, sPar3, gN, bnd_ret, ret_app, bnd_grd, grd_app, sl_zero, sl_succ, slX_zero, slX_own, slX_succ, slO_zero, slO_own, slO_succ, slH_zero, slH_succ, frz_zero, frz_succ, own_zero, own_succ, onStr_str, asB_bool, asI_int, both_if, either_if, bothD_if, eitherD_if, choose_if, List.set_cons_zero, List.set_cons_succ, Bool.not_true, Bool.not_false, if_true, if_false, Bool.false_eq_true, grd_nil, isTup, isStr, oLen, ein, eid, l2, oEq_int, e2, e3, e4, ei, hb, hc, grd_true (show ([PyData.int 2, PyData.int 3] : List Dt).length ≤ sizeLine from sz 2), grd_true (show ([PyData.str "deed", PyData.str "kind"] : List Dt).length ≤ sizeLine from sz 2)]
          cases z : ((("deed" : Str) == x) || (("kind" : Str) == x)) <;> cases z2 : isName b <;> cases z3 : isName c <;> (rw [z, z2, z3] at hq; first | exact hq | (simp only [z3]; exact hq))
        | _ =>
          simp only [sSeq, sIf, sNext, sAsg, sPar, sPar3, gN, bnd_ret, ret_app, bnd_grd, grd_app, sl_zero, sl_succ, slX_zero, slX_own, slX_succ, slO_zero, slO_own, slO_succ, slH_zero, slH_succ, frz_zero, frz_succ, own_zero, own_succ, onStr_str, asB_bool, asI_int, both_if, either_if, bothD_if, eitherD_if, choose_if, List.set_cons_zero, List.set_cons_succ, Bool.not_true, Bool.not_false, if_true, if_false, Bool.false_eq_true, grd_nil, isTup, isStr, oLen, ein, eid, l2, e2, e3, grd_true (show ([PyData.int 2, PyData.int 3] : List Dt).length ≤ sizeLine from sz 2)]
          exact hq
    | _ => exact hq


theorem ok_is_bare (F : Fc K mg) (K_is_whole : Kn P w K mg base k "is_whole" s_18 ["thing"] (mPure fun x => .bool (isWhole x))) (K_is_text : Kn P w K mg base k "is_text" s_20 ["thing"] (mPure fun x => .bool (isText x))) (D : Df K mg "is_bare" s_23 ["thing"] f fd) : Kn P w K mg base (k + 1) "is_bare" s_23 ["thing"] (mPure fun x => .bool (isBare x)) := by
  refine D.kn (FnD.of _ D.d sc_23 (fun cdv A outer s H E g hx room => have hu := hu64 room; have hu1 := hu65 room;
    (dss_cons (ds_if (DW.tst (dw_or (dt_cmpX op_isN x2_isN (dx_var 0) (DE.now de_non) (nomark _)) (dw_or1 (DE.tst (de_isi ts_bool rfl F.m_isinstance rfl F.m_bool rfl (dx_var 0)))))) (dss_one (ds_ret de_bl)) dss_nil)
 (dss_cons (ds_if (DE.tst (de_k K_is_whole hx room (das_cons (DE.arg (de_var 0)) das_nil))) (dss_one (ds_ret (de_chain op_le op_le x2_cmp x2_cmp (DE.now (de_sub de_int (de_gi F.c_GREATEST))) (dx_var 0) (DE.now (de_gi F.c_GREATEST))))) dss_nil)
 (dss_one (ds_ret (de_k K_is_text hx room (das_cons (DE.arg (de_var 0)) das_nil))))))) ?_)
  intro as n Qd W hl h
  match as, hl, h with
  | [.d x], _, ⟨hz, hq⟩ =>
    have hw := mPure_is (f := fun x => .bool (isWhole x)) (["thing"] : List Str).length rfl hz
    have ht := mPure_is (f := fun x => .bool (isText x)) (["thing"] : List Str).length rfl hz
    rw [show slotsOf n_23 [Da.d x] = [Ds.d x] from rfl]
    have hq : Qd (.bool (isBare x)) n := hq
    cases x with
    | int i =>
      have hq : Qd (.bool (decide (-1000000000000000 ≤ i) && decide (i ≤ 1000000000000000))) n := hq
      have e0 : oI (fun _ _ => True) (fun i j => i - j) (.int 0) (.int 1000000000000000) = Dl.ret (.int (-1000000000000000)) := grd_true trivial _
      simp only [sSeq, sIf, sNext, sAsg, sPar, sPar3, gN, bnd_ret, ret_app, bnd_grd, grd_app, sl_zero, sl_succ, slX_zero, slX_own, slX_succ, slO_zero, slO_own, slO_succ, slH_zero, slH_succ, frz_zero, frz_succ, own_zero, own_succ, onStr_str, asB_bool, asI_int, both_if, either_if, bothD_if, eitherD_if, choose_if, List.set_cons_zero, List.set_cons_succ, Bool.not_true, Bool.not_false, if_true, if_false, Bool.false_eq_true, grd_nil, isBool, isNone, oIsN, oC, hw, e0]
      cases z2 : decide (-1000000000000000 ≤ i) <;> cases z3 : decide (i ≤ 1000000000000000) <;> (rw [z2, z3] at hq; first | exact hq | (simp only [z3]; exact hq))
    | str y =>
      simp only [sSeq, sIf, sNext, sAsg, sPar, sPar3, gN, bnd_ret, ret_app, bnd_grd, grd_app, sl_zero, sl_succ, slX_zero, slX_own, slX_succ, slO_zero, slO_own, slO_succ, slH_zero, slH_succ, frz_zero, frz_succ, own_zero, own_succ, onStr_str, asB_bool, asI_int, both_if, either_if, bothD_if, eitherD_if, choose_if, List.set_cons_zero, List.set_cons_succ, Bool.not_true, Bool.not_false, if_true, if_false, Bool.false_eq_true, grd_nil, isBool, isNone, oIsN, hw, ht]
      exact hq
    | none => exact hq
    | bool b => exact hq
    | _ =>
      simp only [sSeq, sIf, sNext, sAsg, sPar, sPar3, gN, bnd_ret, ret_app, bnd_grd, grd_app, sl_zero, sl_succ, slX_zero, slX_own, slX_succ, slO_zero, slO_own, slO_succ, slH_zero, slH_succ, frz_zero, frz_succ, own_zero, own_succ, onStr_str, asB_bool, asI_int, both_if, either_if, bothD_if, eitherD_if, choose_if, List.set_cons_zero, List.set_cons_succ, Bool.not_true, Bool.not_false, if_true, if_false, Bool.false_eq_true, grd_nil, isBool, isNone, oIsN, hw, ht]
      exact hq

end

theorem e15 : oI CPow (fun i j => i ^ j.toNat) (.int 10) (.int 15) = Dl.ret (.int 1000000000000000) := grd_true ⟨by omega, by omega, by decide⟩ _
section
variable {P : Program} {w : World} {K : PySem.W.Frag} {mg : Str → Option Value} {base : Heap} {f : Addr} {fd : FuncData} {k : Nat}
/-! ### the hand -/
theorem ok_dealt (D : Df K mg "_law_dealt" s_43 ["_law_hand", "_law_lots"] f fd) : Kn P w K mg base (k + 1) "_law_dealt" s_43 ["_law_hand", "_law_lots"] mDealt := by
  refine D.kn (dealt_of D.d sc_43 rfl fun cdv A outer s H E room => ?_)
  have hu : (cxOf (L2.CX P w) P w K mg base n_43 "_law_dealt" (defScope s_43) f cdv A outer s H E).A.units + 64 < cLine := hu64 room
  exact pss_cons (ps_asg (pe_op op_add (pe_ix ix_list (pv 0) pe_int (fun _ _ => rfl)) pe_int) (pg_sub (pv 0) pe_int set_list))
    (pss_cons (ps_set (i := 2) sc_43.nd rfl (.inl rfl) (pe_ix ix_list (pv 0) pe_int (fun _ _ => rfl)))
    (pss_cons (ps_if (pt_cmpR (op_neD hu) (pe_ix ix_list (pv 0) pe_int (fun _ _ => rfl)) (pe_lst pa_nil) (nomark _))
      (pss_cons (ps_set (i := 2) sc_43.nd rfl (.inl rfl) (pe_bm0 PySem.F.plainAttrs_list PySem.F.slot_list_pop PySem.F.type_list_pop mt_pop (pe_ix ix_list (pv 0) pe_int (fun _ _ => rfl))))
      (pss_one (ps_if (pt_cmpR op_ge (pv 2) (pe_op op_pow pe_int pe_int) (nomark _))
        (pss_cons (ps_expr (pe_bm PySem.F.plainAttrs_list PySem.F.slot_list_append PySem.F.type_list_append mt_append (pe_ix ix_list (pv 0) pe_int (fun _ _ => rfl)) (pa_cons (pe_op op_fdiv (pv 2) (pv 1)) pa_nil)))
        (pss_one (ps_ret (pe_op op_mod (pv 2) (pv 1))))) pss_nil))) pss_nil)
    (pss_cons (ps_set (i := 3) sc_43.nd rfl (.inl rfl) (pe_op op_add (pe_op op_add (pe_op op_add (pe_op op_mod (pv 2) pe_int) (pe_op op_mul (pe_op op_mul pe_int (pe_ix ix_list (pv 0) pe_int (fun _ _ => rfl))) (pe_ix ix_list (pv 0) pe_int (fun _ _ => rfl)))) (pe_ix ix_list (pv 0) pe_int (fun _ _ => rfl))) pe_int))
    (pss_cons (ps_set (i := 3) sc_43.nd rfl (.inl rfl) (pe_op op_mod (pe_op op_mul (pv 3) pe_int) pe_int))
    (pss_cons (ps_set (i := 3) sc_43.nd rfl (.inl rfl) (pe_op op_mod (pe_op op_add (pe_op op_add (pe_op op_mul (pv 3) (pv 3)) (pe_op op_mul pe_int (pe_ix ix_list (pv 0) pe_int (fun _ _ => rfl)))) pe_int) pe_int))
    (pss_one (ps_ret (pe_op op_mod (pe_op op_fdiv (pe_op op_mod (pe_op op_mul (pv 3) (pe_op op_add (pe_op op_fdiv (pv 3) pe_int) pe_int)) pe_int) pe_int) (pv 1)))))))))
theorem ok_begun (F : Fc K mg) (D : Df K mg "_law_begun" s_42 ["_law_script"] f fd) : FnG P w K mg base (k + 1) f fd ["_law_script"] (spBegun K) := by
  refine begun_of D.d sc_42 rfl fun cdv A outer s H E => ?_
  exact pss_cons (ps_par (i := 1) (j := 2) rfl sc_42.nd rfl rfl (by decide) rfl rfl (pa_cons (pe_callTy call_list_of rfl F.m_list rfl (pa_cons (pe_slice sl_list (pv 0) po_none (po_some pe_int)) pa_nil)) (pa_cons pe_int pa_nil)) rfl)
    (pss_cons (ps_for (passes_of rfl) rfl (pi_list (pv 1)) (pg_name (i := 3) sc_42.nd rfl (.inl rfl)) (pss_one (ps_set (i := 2) sc_42.nd rfl (.inl rfl) (pe_op op_mod (pe_op op_add (pe_op op_add (pe_op op_mul (pv 2) pe_int) (pe_op op_mod (pv 3) pe_int)) pe_int) pe_int))))
    (pss_one (ps_ret (pe_lst (pa_cons (pe_revL (pv 1)) (pa_cons (pv 2) (pa_cons pe_int pa_nil)))))))
/-- a list is picked from -/
def mPick : List Da → Mv Dt
  | [.hand, .d (.list xs)] => grd (xs ≠ [] ∧ xs.length < 2 ^ 30) (dr 1 (· ∈ xs))
  | _ => bad
theorem pick_at {xs : List Dt} {r : Int} (h0 : 0 ≤ r) (h1 : r < xs.length) : ∃ y, y ∈ xs ∧ oAt (.list xs) (.int r) = ret y := by
  have hr : r.toNat < xs.length := by omega
  have e : L2.atI xs r = some xs[r.toNat] := by
    have z := L2.atI_nat (xs := xs) (j := r.toNat) (v := xs[r.toNat]) (by simp [hr])
    rw [show ((r.toNat : Nat) : Int) = r by omega] at z
    exact z
  refine ⟨xs[r.toNat], List.getElem_mem hr, ?_⟩
  show (match L2.atI xs r with | some y => ret y | none => bad : Mv Dt) = _
  rw [e]
theorem ok_pick (F : Fc K mg) (K__law_dealt : Kn P w K mg base k "_law_dealt" s_43 ["_law_hand", "_law_lots"] mDealt) (D : Df K mg "_law_pick" s_44 ["_law_hand", "_law_some"] f fd) : Kn P w K mg base (k + 1) "_law_pick" s_44 ["_law_hand", "_law_some"] mPick := by
  refine D.kn (FnD.of _ D.d sc_44 (fun cdv A outer s H E g hx room => have hu := hu64 room; have hu1 := hu65 room;
    (dss_one (ds_ret (de_at (dx_var 1) (DE.now (de_k K__law_dealt hx room (das_cons (da_hand 0) (das_cons (DE.arg (de_callX call_len xc_len rfl F.m_len rfl (dxs_cons (dx_var 1) dxs_nil))) das_nil)))) (fun _ _ => rfl))))) ?_)
  intro as n Qd W hl h
  match as, hl, h with
  | [.hand, .d (.list xs)], _, ⟨⟨h1, h2⟩, h3, h4⟩ =>
    have hp : 0 < xs.length := List.length_pos_iff.mpr h1
    refine ⟨rfl, by omega, by omega, h3, fun r r0 r1 => ?_⟩
    obtain ⟨y, hy, e⟩ := pick_at r0 r1
    show oAt (.list xs) (.int r) (n - 1) Qd W
    rw [e]
    exact h4 y (n - 1) hy (by omega)

/-- never called -/
theorem Kn.never {x : Str} {st : Stmt} {ps : List Str} (D : Df K mg x st ps f fd) : Kn P w K mg base k x st ps (fun _ => bad) :=
  D.kn ⟨fun vs H Q E ⟨hd, F, as, n, Qd, W, rb, da, hl, hm, q⟩ => hm.elim, fun A outer s H args us vs Q E room gu e b v ⟨hd, F, as, n, Qd, W, rb, da, hl, hm, q⟩ => hm.elim⟩
def mLabel : List Da → Mv Dt
  | [.hand] => dr 1 fun d => Oq 8 0 d ∧ isName d = true
  | _ => bad
theorem ok_label (F : Fc K mg) (K__law_pick : Kn P w K mg base k "_law_pick" s_44 ["_law_hand", "_law_some"] mPick) (D : Df K mg "_law_label" s_45 ["_law_hand"] f fd) : Kn P w K mg base (k + 1) "_law_label" s_45 ["_law_hand"] mLabel := by
  refine D.kn (FnD.of _ D.d sc_45 (fun cdv A outer s H E g hx room => have hu := hu64 room; have hu1 := hu65 room;
    (dss_one (ds_ret (de_k K__law_pick hx room (das_cons (da_hand 0) (das_cons (DE.arg (DN.dat (dn_lst (des_cons de_str (des_cons de_str (des_cons de_str (des_cons de_str (des_cons de_str (des_cons de_str (des_cons de_str (des_cons de_str des_nil))))))))))) das_nil)))))) ?_)
  intro as n Qd W hl h
  match as, hl, h with
  | [.hand], _, ⟨hn, hq⟩ =>
    exact ⟨sz 8, rfl, ⟨fun z => (nomatch z), by show 8 < 2 ^ 30; decide⟩, hn, fun y m hy hm => hq y m ⟨oqs_of (w := 8) (h := 0) (by decide +kernel) y hy, List.all_eq_true.mp (show ([.str "a", .str "z", .str "row", .str "none", .str "thing", .str "ab", .str "abcdefgh", .str "deed"] : List Dt).all isName = true by decide +kernel) y hy⟩ hm⟩
def mLeaf : List Da → Mv Dt
  | [.hand] => dr 6 fun d => Oq 200 1 d ∧ leafGood d = true
  | _ => bad
theorem ok_leaf (F : Fc K mg) (K__law_dealt : Kn P w K mg base k "_law_dealt" s_43 ["_law_hand", "_law_lots"] mDealt) (K__law_pick : Kn P w K mg base k "_law_pick" s_44 ["_law_hand", "_law_some"] mPick) (K__law_label : Kn P w K mg base k "_law_label" s_45 ["_law_hand"] mLabel) (D : Df K mg "_law_leaf" s_46 ["_law_hand"] f fd) : Kn P w K mg base (k + 1) "_law_leaf" s_46 ["_law_hand"] mLeaf := by
  refine D.kn (FnD.of _ D.d sc_46 (fun cdv A outer s H E g hx room => have hu := hu64 room; have hu1 := hu65 room;
    (dss_cons (ds_par 1 2 rfl sc_46.nd (DE.val (de_k K__law_dealt hx room (das_cons (da_hand 0) (das_cons (DE.arg de_int) das_nil)))) (DE.val (de_k K__law_pick hx room (das_cons (da_hand 0) (das_cons (DE.arg (DN.dat (dn_lst (des_cons de_int (des_cons de_int (des_cons de_int (des_cons de_int (des_cons de_int (des_cons de_int (des_cons de_int (des_cons (de_pow de_int de_int) des_nil))))))))))) das_nil)))))
 (dss_cons (ds_own 3 sc_46.nd (dn_lst (des_cons de_str (des_cons de_str (des_cons de_str (des_cons de_str (des_cons de_str (des_cons de_str (des_cons de_str (des_cons de_str (des_cons de_str (des_cons de_str (des_cons de_str (des_cons de_str (des_cons de_str des_nil)))))))))))))))
 (dss_cons (ds_append 3 de_str)
 (dss_frz 3 (dss_cons (ds_par3 4 5 6 rfl sc_46.nd (DE.val (de_k K__law_pick hx room (das_cons (da_hand 0) (das_cons (DE.arg (de_var 3)) das_nil)))) (DE.val (de_k K__law_label hx room (das_cons (da_hand 0) das_nil))) (DE.val (de_k K__law_label hx room (das_cons (da_hand 0) das_nil))))
 (dss_cons (ds_set 7 sc_46.nd (DN.dat (dn_lst (des_cons de_non (des_cons de_bl (des_cons de_bl (des_cons (de_var 2) (des_cons (de_sub de_int (de_var 2)) (des_cons (de_var 4) (des_cons (de_tup (des_cons de_str (des_cons (de_var 2) des_nil))) des_nil))))))))))
 (dss_one (ds_ret (de_at (DE.now (de_plus (dx_var 7) (DE.now (DN.dat (dn_lst (des_cons (de_tup (des_cons (de_at (DE.now (DN.dat (dn_lst (des_cons de_str (des_cons de_str des_nil))))) (DE.now (de_k K__law_dealt hx room (das_cons (da_hand 0) (das_cons (DE.arg de_int) das_nil)))) (fun _ _ => rfl)) (des_cons (de_var 5) (des_cons (de_var 6) des_nil)))) des_nil)))))) (dx_var 1) (fun _ _ => rfl))))))))))) ?_)
  intro as n Qd W hl h
  match as, hl, h with
  | [.hand], _, ⟨hn, hq⟩ =>
    rw [show slotsOf n_46 [Da.hand] = [.hand, .no, .no, .no, .no, .no, .no, .no] from rfl]
    simp only [sSeq, sIf, sNext, sAsg, sPar, sPar3, gN, bnd_ret, ret_app, bnd_grd, grd_app, sl_zero, sl_succ, slX_zero, slX_own, slX_succ, slO_zero, slO_own, slO_succ, slH_zero, slH_succ, frz_zero, frz_succ, own_zero, own_succ, onStr_str, asB_bool, asI_int, both_if, either_if, bothD_if, eitherD_if, choose_if, List.set_cons_zero, List.set_cons_succ, Bool.not_true, Bool.not_false, if_true, if_false, Bool.false_eq_true, grd_nil, bnd_app, sOwn, sAppend]
    refine ⟨rfl, by omega, by omega, by omega, fun r1 a1 b1 => ?_⟩
    refine ⟨⟨by omega, by omega, by decide⟩, sz 8, rfl, ⟨fun z => (nomatch z), by show 8 < 2 ^ 30; decide⟩, by omega, fun num m1 hy1 hm1 => ?_⟩
    obtain ⟨i, rfl, hi0, hi⟩ : ∃ i : Int, num = .int i ∧ 0 ≤ i ∧ i ≤ 1000000000000000 := by
      have hy1 : num ∈ ([.int 0, .int 1, .int 9, .int 10, .int 99, .int 100, .int 999999, .int (10 ^ 15)] : List Dt) := hy1
      simp only [List.mem_cons, List.not_mem_nil, or_false] at hy1
      rcases hy1 with h | h | h | h | h | h | h | h <;> exact ⟨_, h, by decide, by decide⟩
    refine ⟨sz 13, by show 13 < sizeLine; decide, rfl, ⟨fun z => (nomatch z), by show 14 < 2 ^ 30; decide⟩, by omega, fun wd m2 hy2 hm2 => ?_⟩
    have hwd : Oq 200 0 wd := oqs_of (w := 200) (h := 0) (by decide +kernel) wd hy2
    have gwd : leafGood wd = true := List.all_eq_true.mp (show ([.str "", .str "a", .str "none", .str "yes", .str "row", .str "thing", .str "1", .str "-1", .str "[1 2]", .str "#5", .str "a.b", .str "a:b", .str " ", .str "twentysigns of all ~"] : List Dt).all leafGood = true by decide +kernel) wd hy2
    refine ⟨rfl, by omega, fun l1 m3 hl1 hm3 => ⟨rfl, by omega, fun l2 m4 hl2 hm4 => ?_⟩⟩
    refine ⟨trivial, sz 2, sz 7, sz 2, rfl, by omega, by omega, by omega, fun r2 a2 b2 => ?_⟩
    obtain ⟨kd, hk, e⟩ := pick_at (xs := [.str "deed", .str "kind"]) a2 b2
    have hkd : Oq 4 0 kd := oqs_of (w := 4) (h := 0) (by decide +kernel) kd hk
    show oAt _ _ _ _ _
    rw [e]
    have oi : Oq 140 0 (.int i) := Oq.int (by omega)
    have oj : Oq 140 0 (.int (0 - i)) := Oq.int (by omega)
    refine ⟨sz 3, sz 1, show 7 + 1 ≤ sizeLine by decide, ?_⟩
    obtain ⟨y, hy, e2⟩ := pick_at (xs := ([.none, .bool true, .bool false, .int i, .int (0 - i), wd, .tuple [.str "thing", .int i]] : List Dt) ++ ([.tuple [kd, l1, l2]] : List Dt)) a1 (show r1 < ((8 : Nat) : Int) from b1)
    show oAt (.list ([.none, .bool true, .bool false, .int i, .int (0 - i), wd, .tuple [.str "thing", .int i]] ++ [.tuple [kd, l1, l2]])) (.int r1) _ _ _
    rw [e2]
    refine hq y _ ?_ (by omega)
    rw [List.mem_append] at hy
    simp only [List.mem_cons, List.not_mem_nil, or_false] at hy
    rcases hy with (rfl | rfl | rfl | rfl | rfl | rfl | rfl) | rfl
    · exact ⟨Oq.none.more (by omega) (by omega), rfl⟩
    · exact ⟨(Oq.bool _).more (by omega) (by omega), rfl⟩
    · exact ⟨(Oq.bool _).more (by omega) (by omega), rfl⟩
    · exact ⟨oi.more (by omega) (by omega), leafInt (by omega) (by omega)⟩
    · exact ⟨oj.more (by omega) (by omega), leafInt (by omega) (by omega)⟩
    · exact ⟨hwd.more (by omega) (by omega), gwd⟩
    · exact ⟨(Oq.tup (Oqs.cons (w := 10) (h := 0) (oq_of (by decide +kernel)) (Oqs.cons oi (Oqs.nil (w := 0))))).more (w' := 200) (by omega) (by omega), leafThing hi0 hi⟩
    · refine ⟨(Oq.tup (Oqs.cons (hkd.more (h' := 0) (Nat.le_refl _) (by omega)) (Oqs.cons hl1.1 (Oqs.cons hl2.1 (Oqs.nil (w := 0)))))).more (w' := 200) (by omega) (by omega), ?_⟩
      have hk : kd ∈ ([.str "deed", .str "kind"] : List Dt) := hk
      simp only [List.mem_cons, List.not_mem_nil, or_false] at hk
      rcases hk with rfl | rfl
      · exact leafDeed (.inl rfl) hl1.2 hl2.2
      · exact leafDeed (.inr rfl) hl1.2 hl2.2
def looksD : List Dt := [.tuple [.str "thing", .int 5], .tuple [.str "deed", .str "a", .str "b"], .tuple [.str "kind", .str "a", .str "b"], .tuple [.str "row", .int 5], .tuple [.str "row", .tuple [.str "row", .tuple []]], .tuple [.str "row"]].map fun p => .tuple [.str "row", p]
theorem looks_oq : ∀ y ∈ looksD, Oq 200 4 y := oqs_of (by decide +kernel)
theorem looks_wt : ∀ y ∈ looksD, Wt 200 4 4 2 y := by
  have lw : ∀ {p : Dt}, leafGood p = true → Oq 100 0 p → Wt 100 0 1 0 p := fun g o => Wt.leaf o g
  have rw1 : ∀ {ps : List Dt}, ps.all (fun p => leafGood p && oqB 30 0 p) = true → ps.length ≤ 3 → Wt 200 4 4 2 (.tuple [.str "row", .tuple ps]) := fun {ps} h hl => by
    have z := Wt.rowOf (ds := ps) (w := 30) (h := 0) (N := 1) (D := 0) (fun d hd => by
      have y := List.all_eq_true.mp h d hd
      rw [Bool.and_eq_true] at y
      exact Wt.leaf (oq_of y.2) y.1) (by omega)
    have hz : ps.length * (30 + 1) ≤ 3 * 31 := Nat.mul_le_mul_right _ hl
    exact z.more (by omega) (by omega) (by omega) (by omega)
  intro y hy
  unfold looksD at hy
  simp only [List.map_cons, List.map_nil, List.mem_cons, List.not_mem_nil, or_false] at hy
  rcases hy with rfl | rfl | rfl | rfl | rfl | rfl
  · exact rw1 (by decide +kernel) (by decide)
  · exact rw1 (by decide +kernel) (by decide)
  · exact rw1 (by decide +kernel) (by decide)
  · exact rw1 (by decide +kernel) (by decide)
  · have e0 : Wt 5 2 1 1 (.tuple [.str "row", .tuple []]) := (Wt.rowOf (ds := []) (w := 0) (h := 0) (N := 0) (D := 0) (fun _ h => nomatch h) (by decide)).more (by decide) (by decide) (by decide) (by decide)
    have e1 : Wt 5 2 1 1 (.str "row") := (Wt.leaf (w := 5) (h := 0) (oq_of (by decide +kernel)) (by decide +kernel)).more (by decide) (by decide) (by decide) (by decide)
    exact (Wt.rowOf (ds := [.str "row", .tuple [.str "row", .tuple []]]) (fun d hd => by
      simp only [List.mem_cons, List.not_mem_nil, or_false] at hd
      rcases hd with rfl | rfl
      · exact e1
      · exact e0) (by decide)).more (by decide) (by decide) (by decide) (by decide)
  · exact rw1 (by decide +kernel) (by decide)
def mLooks : List Da → Mv Dt
  | [] => Dl.ret (.list looksD)
  | _ => bad
theorem ok_looks (F : Fc K mg) (D : Df K mg "_law_alike_looks" s_47 [] f fd) : Kn P w K mg base (k + 1) "_law_alike_looks" s_47 [] mLooks := by
  refine D.kn (FnD.of _ D.d sc_47 (fun cdv A outer s H E g hx room => have hu := hu64 room; have hu1 := hu65 room;
    (dss_cons (ds_set 0 sc_47.nd (DN.dat (dn_lst (des_cons (de_tup (des_cons de_str (des_cons de_int des_nil))) (des_cons (de_tup (des_cons de_str (des_cons de_str (des_cons de_str des_nil)))) (des_cons (de_tup (des_cons de_str (des_cons de_str (des_cons de_str des_nil)))) (des_cons (de_tup (des_cons de_str (des_cons de_int des_nil))) (des_cons (de_tup (des_cons de_str (des_cons (de_tup (des_cons de_str (des_cons (de_tup des_nil) des_nil))) des_nil))) (des_cons (de_tup (des_cons de_str des_nil)) des_nil)))))))))
 (dss_one (ds_ret (DN.dat (dn_lc rfl sc_47.nd (own := [("_law_parts", 1)]) (blk_ok rfl) (di_list (dx_var 0)) (fun _ _ _ _ _ => (dg_name 1 sc_47.nd)) (fun _ _ _ _ _ => difs_nil) (fun _ _ _ _ _ => (de_tup (des_cons de_str (des_cons (de_var 1) des_nil)))))))))) ?_)
  intro as n Qd W hl h
  match as, hl, h with
  | [], _, hq =>
    rw [show slotsOf n_47 [] = [.no, .no] from rfl]
    simp only [sSeq, sIf, sNext, sAsg, sPar, sPar3, gN, bnd_ret, ret_app, bnd_grd, grd_app, sl_zero, sl_succ, slX_zero, slX_own, slX_succ, slO_zero, slO_own, slO_succ, slH_zero, slH_succ, frz_zero, frz_succ, own_zero, own_succ, onStr_str, asB_bool, asI_int, both_if, either_if, bothD_if, eitherD_if, choose_if, List.set_cons_zero, List.set_cons_succ, Bool.not_true, Bool.not_false, if_true, if_false, Bool.false_eq_true, grd_nil, bnd_app]
    exact ⟨sz 2, sz 3, sz 3, sz 2, sz 2, sz 2, sz 1, sz 6, sz 2, sz 2, sz 2, sz 2, sz 2, sz 2, hq⟩
/-- what one drawing costs at most, and weighs -/
def cD : Nat → Nat
  | 0 => 7
  | j + 1 => 2 + 4 * cD j
def wD : Nat → Nat
  | 0 => 200
  | j + 1 => 4 * (wD j + 1) + 10
def nD : Nat → Nat
  | 0 => 1
  | j + 1 => 1 + 4 * nD j
theorem nD_ge (j : Nat) : 1 ≤ nD j := by
  induction j with
  | zero => exact Nat.le_refl _
  | succ j ih => unfold nD; omega
theorem cD_ge (j : Nat) : 7 ≤ cD j := by
  induction j with
  | zero => exact Nat.le_refl _
  | succ j ih => unfold cD; omega
theorem wD_ge (j : Nat) : 200 ≤ wD j := by
  induction j with
  | zero => exact Nat.le_refl _
  | succ j ih => unfold wD; omega
def mDrawn (j : Nat) : List Da → Mv Dt
  | [.hand, .d (.int e)] => grd (0 ≤ e ∧ e.toNat = j) (dr (cD j) (Wt (wD j) (2 * j + 4) (nD j) (j + 2)))
  | _ => bad
theorem ok_drawn {j : Nat} {mR : List Da → Mv Dt} (hR : ∀ i, j = i + 1 → mR = mDrawn i) (F : Fc K mg) (K__law_dealt : Kn P w K mg base k "_law_dealt" s_43 ["_law_hand", "_law_lots"] mDealt) (K__law_pick : Kn P w K mg base k "_law_pick" s_44 ["_law_hand", "_law_some"] mPick) (K__law_leaf : Kn P w K mg base k "_law_leaf" s_46 ["_law_hand"] mLeaf) (K__law_alike_looks : Kn P w K mg base k "_law_alike_looks" s_47 [] mLooks) (K__law_drawn : Kn P w K mg base k "_law_drawn" s_48 ["_law_hand", "_law_deep"] mR) (D : Df K mg "_law_drawn" s_48 ["_law_hand", "_law_deep"] f fd) : Kn P w K mg base (k + 1) "_law_drawn" s_48 ["_law_hand", "_law_deep"] (mDrawn j) := by
  refine D.kn (FnD.of _ D.d sc_48 (fun cdv A outer s H E g hx room => have hu := hu64 room; have hu1 := hu65 room;
    (dss_cons (ds_set 2 sc_48.nd (de_k K__law_dealt hx room (das_cons (da_hand 0) (das_cons (DE.arg de_int) das_nil))))
 (dss_cons (ds_if (DW.tst (dw_or (dt_cmpX (op_eqA hu) x2_eq (dx_var 1) (DE.now de_int) (nomark _)) (dw_or1 (dt_cmpX op_ltA x2_lt (dx_var 2) (DE.now de_int) (nomark _))))) (dss_one (ds_ret (de_k K__law_leaf hx room (das_cons (da_hand 0) das_nil)))) dss_nil)
 (dss_cons (ds_if (dt_cmpX (op_eqA hu) x2_eq (dx_var 2) (DE.now de_int) (nomark _)) (dss_one (ds_ret (de_k K__law_pick hx room (das_cons (da_hand 0) (das_cons (DE.arg (de_k0 K__law_alike_looks hx room)) das_nil))))) dss_nil)
 (dss_one (ds_ret (de_tup (des_cons de_str (des_cons (de_tupleC rfl F.m_tuple (DE.now (DN.dat (dn_lc rfl sc_48.nd (own := [("_law_turn", 3)]) (blk_ok rfl) (DF.di (df_range1 rfl F.m_range (de_k K__law_dealt hx room (das_cons (da_hand 0) (das_cons (DE.arg de_int) das_nil))))) (fun _ _ _ _ _ => (dg_name 3 sc_48.nd)) (fun _ _ _ _ _ => difs_nil) (fun _ _ _ _ _ => (de_k K__law_drawn hx.blk room (das_cons (da_hand 0) (das_cons (DE.arg (de_sub (de_var 1) de_int)) das_nil)))))))) des_nil))))))))) ?_)
  intro as n Qd W hl h
  match as, hl, h with
  | [.hand, .d (.int e)], _, ⟨⟨he, hj⟩, hn, hq⟩ =>
    have c7 := cD_ge j
    have w7 := wD_ge j
    have n7 := nD_ge j
    rw [show slotsOf n_48 [Da.hand, Da.d (PyData.int e)] = [.hand, .d (.int e), .no, .no] from rfl]
    simp only [sSeq, sIf, sNext, sAsg, sPar, sPar3, gN, bnd_ret, ret_app, bnd_grd, grd_app, sl_zero, sl_succ, slX_zero, slX_own, slX_succ, slO_zero, slO_own, slO_succ, slH_zero, slH_succ, frz_zero, frz_succ, own_zero, own_succ, onStr_str, asB_bool, asI_int, both_if, either_if, bothD_if, eitherD_if, choose_if, List.set_cons_zero, List.set_cons_succ, Bool.not_true, Bool.not_false, if_true, if_false, Bool.false_eq_true, grd_nil, bnd_app, oEq_int, oLt]
    refine ⟨rfl, by omega, by omega, by omega, fun r1 a1 b1 => ?_⟩
    have hleaf : ∀ m, n ≤ m + 1 → many (["_law_hand"] : List Str).length mLeaf [Da.hand] m Qd W := fun m hm => ⟨rfl, by omega, fun y m2 hy hm2 => hq y m2 ((Wt.leaf hy.1 hy.2).more (by omega) (by omega) (by omega) (by omega)) (by omega)⟩
    cases z : (e == 0) with
    | true =>
      simp only [z, if_true]
      exact hleaf _ (by omega)
    | false =>
    have he0 : e ≠ 0 := by simpa using z
    simp only [z, Bool.false_eq_true, if_false]
    cases z2 : decide (r1 < 2) with
    | true =>
      simp only [sSeq, sIf, sNext, sAsg, sPar, sPar3, gN, bnd_ret, ret_app, bnd_grd, grd_app, sl_zero, sl_succ, slX_zero, slX_own, slX_succ, slO_zero, slO_own, slO_succ, slH_zero, slH_succ, frz_zero, frz_succ, own_zero, own_succ, onStr_str, asB_bool, asI_int, both_if, either_if, bothD_if, eitherD_if, choose_if, List.set_cons_zero, List.set_cons_succ, Bool.not_true, Bool.not_false, if_true, if_false, Bool.false_eq_true, grd_nil, z2]
      exact hleaf _ (by omega)
    | false =>
    simp only [sSeq, sIf, sNext, sAsg, sPar, sPar3, gN, bnd_ret, ret_app, bnd_grd, grd_app, sl_zero, sl_succ, slX_zero, slX_own, slX_succ, slO_zero, slO_own, slO_succ, slH_zero, slH_succ, frz_zero, frz_succ, own_zero, own_succ, onStr_str, asB_bool, asI_int, both_if, either_if, bothD_if, eitherD_if, choose_if, List.set_cons_zero, List.set_cons_succ, Bool.not_true, Bool.not_false, if_true, if_false, Bool.false_eq_true, grd_nil, z2, oEq_int]
    obtain ⟨i, rfl⟩ : ∃ i, j = i + 1 := ⟨j - 1, by omega⟩
    have hN : nD (i + 1) = 1 + 4 * nD i := rfl
    have n8 := nD_ge i
    cases z3 : (r1 == 5) with
    | true =>
      simp only [sSeq, sIf, sNext, sAsg, sPar, sPar3, gN, bnd_ret, ret_app, bnd_grd, grd_app, sl_zero, sl_succ, slX_zero, slX_own, slX_succ, slO_zero, slO_own, slO_succ, slH_zero, slH_succ, frz_zero, frz_succ, own_zero, own_succ, onStr_str, asB_bool, asI_int, both_if, either_if, bothD_if, eitherD_if, choose_if, List.set_cons_zero, List.set_cons_succ, Bool.not_true, Bool.not_false, if_true, if_false, Bool.false_eq_true, grd_nil, z3]
      exact ⟨rfl, ⟨fun z => (nomatch z), by show 6 < 2 ^ 30; decide⟩, by omega, fun y m hy hm => hq y m ((looks_wt y hy).more (by omega) (by omega) (by omega) (by omega)) (by omega)⟩
    | false =>
    simp only [sSeq, sIf, sNext, sAsg, sPar, sPar3, gN, bnd_ret, ret_app, bnd_grd, grd_app, sl_zero, sl_succ, slX_zero, slX_own, slX_succ, slO_zero, slO_own, slO_succ, slH_zero, slH_succ, frz_zero, frz_succ, own_zero, own_succ, onStr_str, asB_bool, asI_int, both_if, either_if, bothD_if, eitherD_if, choose_if, List.set_cons_zero, List.set_cons_succ, Bool.not_true, Bool.not_false, if_true, if_false, Bool.false_eq_true, grd_nil, z3]
    rw [hR i rfl]
    have hc : cD (i + 1) = 2 + 4 * cD i := rfl
    have hw : wD (i + 1) = 4 * (wD i + 1) + 10 := rfl
    refine ⟨rfl, by omega, by omega, by omega, fun r2 a2 b2 => ⟨⟨by omega, by omega⟩, ?_⟩⟩
    have hl4 : (upTo 0 r2.toNat).length ≤ 4 := by rw [upTo_length]; omega
    have hm4 : (upTo 0 r2.toNat).length * cD i ≤ 4 * cD i := Nat.mul_le_mul_right _ hl4
    refine lc_draw (P := Wt (wD i) (2 * i + 4) (nD i) (i + 2)) (c := cD i) (upTo 0 r2.toNat) [] _ _ (fun x hx => ⟨_, rfl, rfl, fun n Q W hq => ⟨trivial, rfl, ⟨by show 0 ≤ e - 1; omega, by show (e - 1).toNat = i; omega⟩, hq⟩⟩) (by omega) (fun ys m hl ha hm => ?_)
    have hy4 : ys.length * (wD i + 1) ≤ 4 * (wD i + 1) := Nat.mul_le_mul_right _ (by omega)
    have hn4 : ys.length * nD i ≤ 4 * nD i := Nat.mul_le_mul_right _ (by omega)
    exact ⟨sz 2, hq _ _ ((Wt.rowOf ha (by omega)).more (by omega) (by omega) (by omega) (by omega)) (by omega)⟩
theorem drawn_all (F : Fc K mg) (K__law_dealt : Kn P w K mg base k "_law_dealt" s_43 ["_law_hand", "_law_lots"] mDealt) (K__law_pick : Kn P w K mg base k "_law_pick" s_44 ["_law_hand", "_law_some"] mPick) (K__law_leaf : Kn P w K mg base k "_law_leaf" s_46 ["_law_hand"] mLeaf) (K__law_alike_looks : Kn P w K mg base k "_law_alike_looks" s_47 [] mLooks) (D : Df K mg "_law_drawn" s_48 ["_law_hand", "_law_deep"] f fd) : ∀ j, Kn P w K mg base (k + j + 1) "_law_drawn" s_48 ["_law_hand", "_law_deep"] (mDrawn j)
  | 0 => ok_drawn (fun i h => by omega) F K__law_dealt K__law_pick K__law_leaf K__law_alike_looks (Kn.never D) D
  | j + 1 => ok_drawn (mR := mDrawn j) (fun i h => by cases h; rfl) F (K__law_dealt.more (by omega)) (K__law_pick.more (by omega)) (K__law_leaf.more (by omega)) (K__law_alike_looks.more (by omega)) (drawn_all F K__law_dealt K__law_pick K__law_leaf K__law_alike_looks D j) D
def mChain : List Da → Mv Dt
  | [.d x, .d (.int n)] => grd (0 ≤ n ∧ n ≤ 100) (Dl.ret (chainD x n.toNat))
  | _ => bad
def mWide : List Da → Mv Dt
  | [.d x, .d (.int n)] => grd (2 ≤ n ∧ n ≤ 100) (Dl.ret (wideD x n.toNat))
  | _ => bad
theorem ok_chain (F : Fc K mg) (D : Df K mg "_law_chain" s_49 ["_law_inner", "_law_lots"] f fd) : Kn P w K mg base (k + 1) "_law_chain" s_49 ["_law_inner", "_law_lots"] mChain := by
  refine D.kn (FnD.of _ D.d sc_49 (fun cdv A outer s H E g hx room => have hu := hu64 room; have hu1 := hu65 room;
    (dss_cons (ds_for hx (df_range1 rfl F.m_range (de_var 1)) (dg_name 2 sc_49.nd) (dss_one (ds_set 0 sc_49.nd (de_tup (des_cons de_str (des_cons (de_tup (des_cons (de_var 0) des_nil)) des_nil))))))
 (dss_one (ds_ret (de_var 0))))) ?_)
  intro as n Qd W hl h
  match as, hl, h with
  | [.d x, .d (.int e)], _, ⟨⟨h1, h2⟩, hq⟩ =>
    rw [show slotsOf n_49 [Da.d x, Da.d (PyData.int e)] = [.d x, .d (.int e), .no] from rfl]
    simp only [sSeq, sIf, sNext, sAsg, sPar, sPar3, gN, bnd_ret, ret_app, bnd_grd, grd_app, sl_zero, sl_succ, slX_zero, slX_own, slX_succ, slO_zero, slO_own, slO_succ, slH_zero, slH_succ, frz_zero, frz_succ, own_zero, own_succ, onStr_str, asB_bool, asI_int, both_if, either_if, bothD_if, eitherD_if, choose_if, List.set_cons_zero, List.set_cons_succ, Bool.not_true, Bool.not_false, if_true, if_false, Bool.false_eq_true, grd_nil, bnd_app, sFor]
    refine ⟨⟨by omega, by omega⟩, ?_⟩
    generalize hb : (sAsg _ _ : Ms) = B
    have turn : ∀ (x : Dt) (s : Ds) (k : Sk), k.nx [.d (.tuple [.str "row", .tuple [x]]), .d (.int e), s] n → B [.d x, .d (.int e), s] n k W := by
      intro x s k h
      rw [← hb]
      exact ⟨sz 1, sz 2, h⟩
    have key : ∀ (items : List Dt) (x : Dt) (s : Ds), Qd (chainD x items.length) n → Dl.forM (gN 2) B items [Ds.d x, Ds.d (PyData.int e), s] n { nx := fun δ' n' => sl 0 δ' n' Qd W, rt := Qd } W := by
      intro items
      induction items with
      | nil => exact fun x s h => h
      | cons y r ih => exact fun x s h => turn _ _ _ (ih _ _ h)
    refine key _ _ _ ?_
    rw [upTo_length]
    exact hq
theorem ok_wide (F : Fc K mg) (D : Df K mg "_law_wide" s_50 ["_law_inner", "_law_lots"] f fd) : Kn P w K mg base (k + 1) "_law_wide" s_50 ["_law_inner", "_law_lots"] mWide := by
  refine D.kn (FnD.of _ D.d sc_50 (fun cdv A outer s H E g hx room => have hu := hu64 room; have hu1 := hu65 room;
    (dss_one (ds_ret (de_tup (des_cons de_str (des_cons (de_times (DE.now (de_tup (des_cons (de_var 0) des_nil))) (dx_var 1)) des_nil)))))) ?_)
  intro as n Qd W hl h
  match as, hl, h with
  | [.d x, .d (.int e)], _, ⟨⟨h1, h2⟩, hq⟩ =>
    rw [show slotsOf n_50 [Da.d x, Da.d (PyData.int e)] = [.d x, .d (.int e)] from rfl]
    simp only [sSeq, sIf, sNext, sAsg, sPar, sPar3, gN, bnd_ret, ret_app, bnd_grd, grd_app, sl_zero, sl_succ, slX_zero, slX_own, slX_succ, slO_zero, slO_own, slO_succ, slH_zero, slH_succ, frz_zero, frz_succ, own_zero, own_succ, onStr_str, asB_bool, asI_int, both_if, either_if, bothD_if, eitherD_if, choose_if, List.set_cons_zero, List.set_cons_succ, Bool.not_true, Bool.not_false, if_true, if_false, Bool.false_eq_true, grd_nil, bnd_app]
    refine ⟨sz 1, ⟨fun z => (nomatch z), by omega, by omega, by show 1 ≤ 1000; omega⟩, sz 2, ?_⟩
    have e1 : repT [x] e = List.replicate e.toNat x := by
      unfold repT
      generalize e.toNat = m
      induction m with
      | zero => rfl
      | succ m ih => rw [List.replicate_succ, List.flatten_cons, ih, List.replicate_succ]; rfl
    rw [e1]
    exact hq
/-- from here on a thing drawn is any worth of that sort -/
def mGreatest : List Da → Mv Dt
  | [.hand] => dr 12 fun d => ∃ xs, d = .list xs ∧ xs.length = 4 ∧ ∀ x ∈ xs, Wt 42000 25 200 8 x
  | _ => bad
def mBeyond : List Da → Mv Dt
  | [.hand] => dr 12 fun d => ∃ xs, d = .list xs ∧ xs.length = 5 ∧ ∀ x ∈ xs, Oq 42000 25 x ∧ wellD x = true
  | _ => bad
theorem ok_greatest (F : Fc K mg) (K__law_leaf : Kn P w K mg base k "_law_leaf" s_46 ["_law_hand"] mLeaf) (K__law_chain : Kn P w K mg base k "_law_chain" s_49 ["_law_inner", "_law_lots"] mChain) (K__law_wide : Kn P w K mg base k "_law_wide" s_50 ["_law_inner", "_law_lots"] mWide) (D : Df K mg "_law_greatest" s_51 ["_law_hand"] f fd) : Kn P w K mg base (k + 1) "_law_greatest" s_51 ["_law_hand"] mGreatest := by
  refine D.kn (FnD.of _ D.d sc_51 (fun cdv A outer s H E g hx room => have hu := hu64 room; have hu1 := hu65 room;
    (dss_cons (ds_par 1 2 rfl sc_51.nd (DE.val (de_k K__law_leaf hx room (das_cons (da_hand 0) das_nil))) (DE.val (de_k K__law_leaf hx room (das_cons (da_hand 0) das_nil))))
 (dss_cons (ds_set 3 sc_51.nd (DN.dat (dn_lst (des_cons (de_k K__law_chain hx room (das_cons (DE.arg (de_var 1)) (das_cons (DE.arg de_int) das_nil))) (des_cons (de_k K__law_wide hx room (das_cons (DE.arg (de_var 1)) (das_cons (DE.arg de_int) das_nil))) (des_cons (de_k K__law_chain hx room (das_cons (DE.arg (de_k K__law_wide hx room (das_cons (DE.arg (de_var 1)) (das_cons (DE.arg de_int) das_nil)))) (das_cons (DE.arg de_int) das_nil))) des_nil))))))
 (dss_one (ds_ret (de_plus (dx_var 3) (DE.now (DN.dat (dn_lst (des_cons (de_tup (des_cons de_str (des_cons (de_plus (DE.now (de_times (DE.now (de_tup (des_cons (de_k K__law_wide hx room (das_cons (DE.arg (de_var 1)) (das_cons (DE.arg de_int) das_nil))) des_nil))) (DE.now de_int))) (DE.now (de_times (DE.now (de_tup (des_cons (de_var 2) des_nil))) (DE.now de_int)))) des_nil))) des_nil)))))))))) ?_)
  intro as n Qd W hl h
  match as, hl, h with
  | [.hand], _, ⟨hn, hq⟩ =>
    rw [show slotsOf n_51 [Da.hand] = [.hand, .no, .no, .no] from rfl]
    simp only [sSeq, sIf, sNext, sAsg, sPar, sPar3, gN, bnd_ret, ret_app, bnd_grd, grd_app, sl_zero, sl_succ, slX_zero, slX_own, slX_succ, slO_zero, slO_own, slO_succ, slH_zero, slH_succ, frz_zero, frz_succ, own_zero, own_succ, onStr_str, asB_bool, asI_int, both_if, either_if, bothD_if, eitherD_if, choose_if, List.set_cons_zero, List.set_cons_succ, Bool.not_true, Bool.not_false, if_true, if_false, Bool.false_eq_true, grd_nil, bnd_app]
    refine ⟨rfl, by omega, fun x m1 hx hm1 => ⟨rfl, by omega, fun y m2 hy hm2 => ?_⟩⟩
    have hx := Wt.leaf hx.1 hx.2
    have hy := Wt.leaf hy.1 hy.2
    have oA : Wt 42000 25 200 8 (chainD x 8) := (chain_wt 8 hx).more (by omega) (by omega) (by omega) (by omega)
    have oB : Wt 42000 25 200 8 (wideD x 40) := (wide_wt (n := 40) hx (by omega)).more (by omega) (by omega) (by omega) (by omega)
    have oC : Wt 42000 25 200 8 (chainD (wideD x 40) 7) := (chain_wt 7 (wide_wt (n := 40) hx (by omega))).more (by omega) (by omega) (by omega) (by omega)
    have w38 := wide_wt (n := 38) hx (by omega)
    have oD : Wt 42000 25 200 8 (.tuple [.str "row", .tuple (repT [wideD x 38] 5 ++ repT [y] 4)]) := by
      have mem : ∀ d ∈ repT [wideD x 38] 5 ++ repT [y] 4, d = wideD x 38 ∨ d = y := fun d hd => (List.mem_append.mp hd).elim (fun h => .inl (List.mem_singleton.mp (mem_repT h))) fun h => .inr (List.mem_singleton.mp (mem_repT h))
      have nx : nods [wideD x 38] ≤ 1 + 38 * 1 := by rw [nods, nods]; exact w38.n
      have ny : nods [y] ≤ 1 := by rw [nods, nods]; exact hy.n
      have nn : nods (repT [wideD x 38] 5 ++ repT [y] 4) ≤ 199 := by
        rw [nods_app, nods_repT, nods_repT]
        show 5 * nods [wideD x 38] + 4 * nods [y] ≤ 199
        omega
      have lw : (repT [wideD x 38] 5 ++ repT [y] 4).length = 9 := rfl
      have z := Wt.row (N := 199) (D := 1) (ds := repT [wideD x 38] 5 ++ repT [y] 4) (Oqs.app (rep_oq (n := 5) w38.o) (rep_oq (n := 4) (hy.o.more (w' := 200) (h' := 3) (by omega) (by omega)))) (fun d hd => (mem d hd).elim (fun e => e ▸ w38.g) fun e => e ▸ hy.g) nn
        (fun d hd => (mem d hd).elim (fun e => by rw [e]; exact w38.dp) fun e => by rw [e]; exact Nat.le_trans hy.dp (by omega)) (by rw [lw]; decide) (fun d hd => (mem d hd).elim (fun e => e ▸ w38.w) fun e => e ▸ hy.w)
      exact z.more (by omega) (by omega) (by omega) (by omega)
    refine ⟨rfl, ⟨by omega, by omega⟩, rfl, ⟨by omega, by omega⟩, rfl, ⟨by omega, by omega⟩, rfl, ⟨by omega, by omega⟩, sz 3, rfl, ⟨by omega, by omega⟩, sz 1, ⟨fun z => (nomatch z), by omega, by omega, by show 1 ≤ 1000; omega⟩, sz 1, ⟨fun z => (nomatch z), by omega, by omega, by show 1 ≤ 1000; omega⟩, show 5 + 4 ≤ sizeLine by decide, sz 2, sz 1, show 3 + 1 ≤ sizeLine by decide, hq _ _ ⟨_, rfl, rfl, ?_⟩ (by omega)⟩
    intro z hz
    have hz : z ∈ ([chainD x 8, wideD x 40, chainD (wideD x 40) 7, .tuple [.str "row", .tuple (repT [wideD x 38] 5 ++ repT [y] 4)]] : List Dt) := hz
    simp only [List.mem_cons, List.not_mem_nil, or_false] at hz
    rcases hz with rfl | rfl | rfl | rfl
    · exact oA
    · exact oB
    · exact oC
    · exact oD
theorem ok_beyond (F : Fc K mg) (K__law_leaf : Kn P w K mg base k "_law_leaf" s_46 ["_law_hand"] mLeaf) (K__law_chain : Kn P w K mg base k "_law_chain" s_49 ["_law_inner", "_law_lots"] mChain) (K__law_wide : Kn P w K mg base k "_law_wide" s_50 ["_law_inner", "_law_lots"] mWide) (D : Df K mg "_law_beyond" s_52 ["_law_hand"] f fd) : Kn P w K mg base (k + 1) "_law_beyond" s_52 ["_law_hand"] mBeyond := by
  refine D.kn (FnD.of _ D.d sc_52 (fun cdv A outer s H E g hx room => have hu := hu64 room; have hu1 := hu65 room;
    (dss_cons (ds_par 1 2 rfl sc_52.nd (DE.val (de_k K__law_leaf hx room (das_cons (da_hand 0) das_nil))) (DE.val (de_k K__law_leaf hx room (das_cons (da_hand 0) das_nil))))
 (dss_cons (ds_set 3 sc_52.nd (DN.dat (dn_lst (des_cons (de_k K__law_chain hx room (das_cons (DE.arg (de_var 1)) (das_cons (DE.arg de_int) das_nil))) (des_cons (de_k K__law_wide hx room (das_cons (DE.arg (de_var 1)) (das_cons (DE.arg de_int) das_nil))) (des_cons (de_k K__law_chain hx room (das_cons (DE.arg (de_k K__law_wide hx room (das_cons (DE.arg (de_var 1)) (das_cons (DE.arg de_int) das_nil)))) (das_cons (DE.arg de_int) das_nil))) des_nil))))))
 (dss_one (ds_ret (de_plus (dx_var 3) (DE.now (DN.dat (dn_lst (des_cons (de_tup (des_cons de_str (des_cons (de_plus (DE.now (de_times (DE.now (de_tup (des_cons (de_k K__law_wide hx room (das_cons (DE.arg (de_var 1)) (das_cons (DE.arg de_int) das_nil))) des_nil))) (DE.now de_int))) (DE.now (de_times (DE.now (de_tup (des_cons (de_var 2) des_nil))) (DE.now de_int)))) des_nil))) (des_cons (de_tup (des_cons de_str (des_cons (de_times (DE.now (de_tup (des_cons (de_k K__law_wide hx room (das_cons (DE.arg (de_var 1)) (das_cons (DE.arg de_int) das_nil))) des_nil))) (DE.now de_int)) des_nil))) des_nil))))))))))) ?_)
  intro as n Qd W hl h
  match as, hl, h with
  | [.hand], _, ⟨hn, hq⟩ =>
    rw [show slotsOf n_52 [Da.hand] = [.hand, .no, .no, .no] from rfl]
    simp only [sSeq, sIf, sNext, sAsg, sPar, sPar3, gN, bnd_ret, ret_app, bnd_grd, grd_app, sl_zero, sl_succ, slX_zero, slX_own, slX_succ, slO_zero, slO_own, slO_succ, slH_zero, slH_succ, frz_zero, frz_succ, own_zero, own_succ, onStr_str, asB_bool, asI_int, both_if, either_if, bothD_if, eitherD_if, choose_if, List.set_cons_zero, List.set_cons_succ, Bool.not_true, Bool.not_false, if_true, if_false, Bool.false_eq_true, grd_nil, bnd_app]
    refine ⟨rfl, by omega, fun x m1 hx hm1 => ⟨rfl, by omega, fun y m2 hy hm2 => ?_⟩⟩
    have oA : Oq 42000 25 (chainD x 9) := (chain_oq 9 hx.1).more (by omega) (by omega)
    have oB : Oq 42000 25 (wideD x 41) := (wide_oq (n := 41) hx.1).more (by omega) (by omega)
    have oC : Oq 42000 25 (chainD (wideD x 40) 8) := (chain_oq 8 (wide_oq (n := 40) hx.1)).more (by omega) (by omega)
    have oD : Oq 42000 25 (.tuple [.str "row", .tuple (repT [wideD x 38] 5 ++ repT [y] 5)]) := (row_oq (Oqs.app (rep_oq (n := 5) (wide_oq (n := 38) hx.1)) (rep_oq (n := 5) (hy.1.more (w' := 200) (h' := 3) (by omega) (by omega))))).more (by omega) (by omega)
    have oE : Oq 42000 25 (.tuple [.str "row", .tuple (repT [wideD x 39] 5)]) := (row_oq (rep_oq (n := 5) (wide_oq (n := 39) hx.1))).more (by omega) (by omega)
    have g5 : ∀ z : Dt, [z] ≠ [] ∧ (2 : Int) ≤ 5 ∧ (5 : Int) ≤ 1000 ∧ ([z] : List Dt).length ≤ 1000 := fun z => ⟨fun z => (nomatch z), by omega, by omega, by show 1 ≤ 1000; omega⟩
    refine ⟨rfl, ⟨by omega, by omega⟩, rfl, ⟨by omega, by omega⟩, rfl, ⟨by omega, by omega⟩, rfl, ⟨by omega, by omega⟩, sz 3, rfl, ⟨by omega, by omega⟩, sz 1, g5 _, sz 1, g5 _, show 5 + 5 ≤ sizeLine by decide, sz 2, rfl, ⟨by omega, by omega⟩, sz 1, g5 _, sz 2, sz 2, show 3 + 2 ≤ sizeLine by decide, hq _ _ ⟨_, rfl, rfl, ?_⟩ (by omega)⟩
    intro z hz
    have hz : z ∈ ([chainD x 9, wideD x 41, chainD (wideD x 40) 8, .tuple [.str "row", .tuple (repT [wideD x 38] 5 ++ repT [y] 5)], .tuple [.str "row", .tuple (repT [wideD x 39] 5)]] : List Dt) := hz
    simp only [List.mem_cons, List.not_mem_nil, or_false] at hz
    have gx := leaf_well hx.2
    have gy := leaf_well hy.2
    rcases hz with rfl | rfl | rfl | rfl | rfl
    · exact ⟨oA, chain_well 9 gx⟩
    · exact ⟨oB, wide_well gx⟩
    · exact ⟨oC, chain_well 8 (wide_well gx)⟩
    · exact ⟨oD, row_well fun d hd => (List.mem_append.mp hd).elim (fun h => by rw [List.mem_singleton.mp (mem_repT h)]; exact wide_well gx) fun h => by rw [List.mem_singleton.mp (mem_repT h)]; exact gy⟩
    · exact ⟨oE, row_well fun d hd => by rw [List.mem_singleton.mp (mem_repT hd)]; exact wide_well gx⟩

end
end Ev
namespace Ev
open PySem PySem.Spec L2 Dl
open PyProof.Rows hiding St
section
variable {P : Program} {w : World} {K : PySem.W.Frag} {mg : Str → Option Value} {base : Heap} {f : Addr} {fd : FuncData} {k : Nat}

def mLeaves : List Da → Mv Dt := mPure leavesD
def pairD (p : Dt × Nat) : Dt := .tuple [p.1, .int (p.2 : Nat)]
theorem ok_leaves (F : Fc K mg) (K_is_row : Kn P w K mg base k "is_row" s_21 ["thing"] (mPure fun x => .bool (isRowD x))) (D : Df K mg "leaves" s_24 ["thing"] f fd) : Kn P w K mg base (k + 1) "leaves" s_24 ["thing"] mLeaves := by
  refine D.kn (FnD.of _ D.d sc_24 (fun cdv A outer s H E g hx room => have hu := hu64 room; have hu1 := hu65 room;
    (dss_cons (ds_par3 1 2 3 rfl sc_24.nd (DN.val (dn_lst des_nil)) (DN.val (dn_lst (des_cons (de_tup (des_cons (de_var 0) (des_cons de_int des_nil))) des_nil))) (DE.val de_int))
 (dss_cons (ds_while hx (dt_cmpX (op_neA hu) x2_ne (dx_var 2) (DE.now (DN.dat (dn_lst des_nil))) (nomark _)) (dss_cons (ds_pop 2 (dg_tup (k := 2) rfl (dgs_cons (dg_name 4 sc_24.nd) (dgs_cons (dg_name 5 sc_24.nd) dgs_nil))))
 (dss_cons (ds_aug 3 ip_add sc_24.nd de_int)
 (dss_cons (ds_if (dt_cmpX op_gt x2_cmp (dx_var 3) (DE.now (de_gi F.c_MOST_IN_ALL)) (nomark _)) (dss_one (ds_ret de_non)) dss_nil)
 (dss_one (ds_if (dt_not (DE.tst (de_k K_is_row hx room (das_cons (DE.arg (de_var 4)) das_nil)))) (dss_one (ds_append 1 (de_var 4))) (dss_one (ds_if (DW.tst (dw_or (dt_cmpX (op_eqA hu) x2_eq (dx_var 5) (DE.now (de_gi F.c_DEEPEST)) (nomark _)) (dw_or1 (dt_cmpX op_gt x2_cmp (DE.now (de_callX call_len xc_len rfl F.m_len rfl (dxs_cons (DE.now (de_at (dx_var 4) (DE.now de_int) (fun _ _ => rfl))) dxs_nil))) (DE.now (de_gi F.c_WIDEST)) (nomark _))))) (dss_one (ds_ret de_non)) (dss_one (ds_extend 2 (DE.now (DN.dat (dn_lc rfl sc_24.nd (own := [("part", 6)]) (blk_ok rfl) (DF.di (df_tup (de_at (dx_var 4) (DE.now de_int) (fun _ _ => rfl)))) (fun _ _ _ _ _ => (dg_name 6 sc_24.nd)) (fun _ _ _ _ _ => difs_nil) (fun _ _ _ _ _ => (de_tup (des_cons (de_var 6) (des_cons (de_plus (dx_var 5) (DE.now de_int)) des_nil)))))))))))))))))
 (dss_frz 1 (dss_one (ds_ret (de_var 1))))))) ?_)
  intro as n Qd W hl h
  match as, hl, h with
  | [.d x], _, ⟨hz, hq⟩ =>
    rw [show slotsOf n_24 [Da.d x] = [Ds.d x, .no, .no, .no, .no, .no, .no] from rfl]
    simp only [sSeq, sIf, sNext, sAsg, sPar, sPar3, gN, bnd_ret, ret_app, bnd_grd, grd_app, sl_zero, sl_succ, slX_zero, slX_own, slX_succ, slO_zero, slO_own, slO_succ, slH_zero, slH_succ, frz_zero, frz_succ, own_zero, own_succ, onStr_str, asB_bool, asI_int, both_if, either_if, bothD_if, eitherD_if, choose_if, List.set_cons_zero, List.set_cons_succ, Bool.not_true, Bool.not_false, if_true, if_false, Bool.false_eq_true, grd_nil]
    refine ⟨sz 2, sz 1, fun m δ n' => n' = n ∧ ∃ (ws : List (Dt × Nat)) (many : Nat) (found : List Dt) (e1 e2 : Ds), δ = [Ds.d x, .own found, .own (ws.map pairD), .d (.int (many : Nat)), e1, e2, .no] ∧ m = pileN ws ∧ fin ws many found = leavesD x ∧ many ≤ 200 ∧ found.length ≤ many ∧ ws.length ≤ 1 + 41 * many ∧ ∀ p ∈ ws, fitW p.1 ∧ p.2 ≤ 8, ⟨_, rfl, [(x, 0)], 0, [], .no, .no, rfl, rfl, fin_all x, by omega, Nat.le_refl _, Nat.le_refl _, ?_⟩, ?_⟩
    · intro p hp
      obtain rfl := List.mem_singleton.mp hp
      exact ⟨hz, by show 0 ≤ 8; omega⟩
    rintro m0 δ n' ⟨rfl, ws, many, found, e1, e2, rfl, rfl, hf, hm, hfo, hwl, hall⟩
    simp only [sSeq, sIf, sNext, sAsg, sPar, sPar3, gN, bnd_ret, ret_app, bnd_grd, grd_app, sl_zero, sl_succ, slX_zero, slX_own, slX_succ, slO_zero, slO_own, slO_succ, slH_zero, slH_succ, frz_zero, frz_succ, own_zero, own_succ, onStr_str, asB_bool, asI_int, both_if, either_if, bothD_if, eitherD_if, choose_if, List.set_cons_zero, List.set_cons_succ, Bool.not_true, Bool.not_false, if_true, if_false, Bool.false_eq_true, grd_nil, oNe_nil]
    rcases List.eq_nil_or_concat ws with rfl | ⟨a, ⟨d, kk⟩, rfl⟩
    · rw [fin_nil hm] at hf
      simp only [List.map_nil, List.isEmpty_nil, sSeq, sIf, sNext, sAsg, sPar, sPar3, gN, bnd_ret, ret_app, bnd_grd, grd_app, sl_zero, sl_succ, slX_zero, slX_own, slX_succ, slO_zero, slO_own, slO_succ, slH_zero, slH_succ, frz_zero, frz_succ, own_zero, own_succ, onStr_str, asB_bool, asI_int, both_if, either_if, bothD_if, eitherD_if, choose_if, List.set_cons_zero, List.set_cons_succ, Bool.not_true, Bool.not_false, if_true, if_false, Bool.false_eq_true, grd_nil]
      show Qd (.list found) n'
      rw [hf]
      exact hq
    · obtain ⟨hd, hk⟩ := hall (d, kk) (by simp)
      have hd : fitW d := hd
      have hk : kk ≤ 8 := hk
      have ee : ((a ++ [(d, kk)]).map pairD) = a.map pairD ++ [.tuple [d, .int (kk : Nat)]] := by rw [List.map_append]; rfl
      have en : (a.map pairD ++ [PyData.tuple [d, .int (kk : Nat)]]).isEmpty = false := by simp
      have ci := mPure_is (f := fun x => .bool (isRowD x)) (["thing"] : List Str).length rfl hd
      rw [List.concat_eq_append] at *
      rw [ee, en]
      simp only [sSeq, sIf, sNext, sAsg, sPar, sPar3, gN, bnd_ret, ret_app, bnd_grd, grd_app, sl_zero, sl_succ, slX_zero, slX_own, slX_succ, slO_zero, slO_own, slO_succ, slH_zero, slH_succ, frz_zero, frz_succ, own_zero, own_succ, onStr_str, asB_bool, asI_int, both_if, either_if, bothD_if, eitherD_if, choose_if, List.set_cons_zero, List.set_cons_succ, Bool.not_true, Bool.not_false, if_true, if_false, Bool.false_eq_true, grd_nil, sPop, List.getLast?_concat, List.dropLast_concat, gTupM, gsCons, gsNil, sAug, oC, List.getElem?_cons_succ, List.getElem?_cons_zero, ci]
      refine ⟨rfl, ?_⟩
      by_cases h2 : (200 : Int) < (many : Int) + 1
      · rw [if_pos (decide_eq_true h2)]
        rw [fin_many (by omega)] at hf
        rw [hf]
        exact hq
      rw [if_neg (by rw [decide_eq_false h2]; exact Bool.false_ne_true)]
      have hla : a.length ≤ 41 * many := by
        rw [List.length_append, List.length_cons, List.length_nil] at hwl
        omega
      have s1 : 30000 ≤ sizeLine := by decide
      cases hr : rowOf d with
      | none =>
        have er : isRowD d = false := by unfold isRowD; rw [hr]; rfl
        rw [er]
        simp only [sSeq, sIf, sNext, sAsg, sPar, sPar3, gN, bnd_ret, ret_app, bnd_grd, grd_app, sl_zero, sl_succ, slX_zero, slX_own, slX_succ, slO_zero, slO_own, slO_succ, slH_zero, slH_succ, frz_zero, frz_succ, own_zero, own_succ, onStr_str, asB_bool, asI_int, both_if, either_if, bothD_if, eitherD_if, choose_if, List.set_cons_zero, List.set_cons_succ, Bool.not_true, Bool.not_false, if_true, if_false, Bool.false_eq_true, grd_nil, sAppend]
        refine ⟨by omega, _, ?_, trivial, a, many + 1, found ++ [d], .d d, .d (.int (kk : Nat)), ?_, rfl, (fin_leaf hr hk).symm.trans hf, by omega, ?_, by omega, fun p hp => hall p (List.mem_append_left _ hp)⟩
        · rw [pileN_app, pileN, pileN]
          have := nod_pos d
          show _ < _ + (nod d + 0)
          omega
        · rfl
        · rw [List.length_append, List.length_cons, List.length_nil]
          omega
      | some ps =>
        have er : isRowD d = true := by unfold isRowD; rw [hr]; rfl
        rw [er]
        have ed := rowOf_some hr
        have e1 : oAt d (.int 1) = Dl.ret (.tuple ps) := by rw [ed]; rfl
        have e2 : oLen [PyData.tuple ps] = Dl.ret (.int (ps.length : Nat)) := rfl
        simp only [sSeq, sIf, sNext, sAsg, sPar, sPar3, gN, bnd_ret, ret_app, bnd_grd, grd_app, sl_zero, sl_succ, slX_zero, slX_own, slX_succ, slO_zero, slO_own, slO_succ, slH_zero, slH_succ, frz_zero, frz_succ, own_zero, own_succ, onStr_str, asB_bool, asI_int, both_if, either_if, bothD_if, eitherD_if, choose_if, List.set_cons_zero, List.set_cons_succ, Bool.not_true, Bool.not_false, if_true, if_false, Bool.false_eq_true, grd_nil, e1, e2, oEq_int]
        by_cases h8 : kk = 8
        · rw [fin_deep hr (.inl h8)] at hf
          rw [h8]
          rw [hf]
          exact hq
        have h8' : (((kk : Nat) : Int) == 8) = false := by rw [beq_eq_false_iff_ne]; omega
        rw [h8']
        by_cases h4 : 40 < ps.length
        · rw [fin_deep hr (.inr h4)] at hf
          have h4' : decide ((40 : Int) < (ps.length : Int)) = true := decide_eq_true (by omega)
          simp only [sSeq, sIf, sNext, sAsg, sPar, sPar3, gN, bnd_ret, ret_app, bnd_grd, grd_app, sl_zero, sl_succ, slX_zero, slX_own, slX_succ, slO_zero, slO_own, slO_succ, slH_zero, slH_succ, frz_zero, frz_succ, own_zero, own_succ, onStr_str, asB_bool, asI_int, both_if, either_if, bothD_if, eitherD_if, choose_if, List.set_cons_zero, List.set_cons_succ, Bool.not_true, Bool.not_false, if_true, if_false, Bool.false_eq_true, grd_nil, h4']
          rw [hf]
          exact hq
        have h4' : decide ((40 : Int) < (ps.length : Int)) = false := decide_eq_false (by omega)
        simp only [sSeq, sIf, sNext, sAsg, sPar, sPar3, gN, bnd_ret, ret_app, bnd_grd, grd_app, sl_zero, sl_succ, slX_zero, slX_own, slX_succ, slO_zero, slO_own, slO_succ, slH_zero, slH_succ, frz_zero, frz_succ, own_zero, own_succ, onStr_str, asB_bool, asI_int, both_if, either_if, bothD_if, eitherD_if, choose_if, List.set_cons_zero, List.set_cons_succ, Bool.not_true, Bool.not_false, if_true, if_false, Bool.false_eq_true, grd_nil, h4', sExtend]
        rw [lcD_map (items := ps) (fun p => .tuple [p, .int ((kk + 1 : Nat) : Int)])]
        · simp only [sSeq, sIf, sNext, sAsg, sPar, sPar3, gN, bnd_ret, ret_app, bnd_grd, grd_app, sl_zero, sl_succ, slX_zero, slX_own, slX_succ, slO_zero, slO_own, slO_succ, slH_zero, slH_succ, frz_zero, frz_succ, own_zero, own_succ, onStr_str, asB_bool, asI_int, both_if, either_if, bothD_if, eitherD_if, choose_if, List.set_cons_zero, List.set_cons_succ, Bool.not_true, Bool.not_false, if_true, if_false, Bool.false_eq_true, grd_nil]
          refine ⟨?_, _, ?_, trivial, a ++ ps.map fun p => (p, kk + 1), many + 1, found, .d d, .d (.int (kk : Nat)), ?_, rfl, (fin_row hr (by omega) (by omega)).symm.trans hf, by omega, by omega, ?_, ?_⟩
          · rw [List.length_map, List.length_map]
            omega
          · rw [pileN_app, pileN_app, pileN_map, pileN, pileN]
            show _ < _ + (nod d + 0)
            rw [nod_row hr]
            omega
          · rw [List.map_append, List.map_map]
            rfl
          · rw [List.length_append, List.length_map]
            omega
          · intro p hp
            rcases List.mem_append.mp hp with hp | hp
            · exact hall p (List.mem_append_left _ hp)
            · obtain ⟨q, hq, rfl⟩ := List.mem_map.mp hp
              refine ⟨?_, by show kk + 1 ≤ 8; omega⟩
              have z := fitW_mem (xs := [.str "row", .tuple ps]) (by rw [← ed]; exact hd) (List.mem_cons_of_mem _ List.mem_cons_self)
              exact fitW_mem z hq
        · simp only [sSeq, sIf, sNext, sAsg, sPar, sPar3, gN, bnd_ret, ret_app, bnd_grd, grd_app, sl_zero, sl_succ, slX_zero, slX_own, slX_succ, slO_zero, slO_own, slO_succ, slH_zero, slH_succ, frz_zero, frz_succ, own_zero, own_succ, onStr_str, asB_bool, asI_int, both_if, either_if, bothD_if, eitherD_if, choose_if, List.set_cons_zero, List.set_cons_succ, Bool.not_true, Bool.not_false, if_true, if_false, Bool.false_eq_true, grd_nil, e1]
          rfl
        · intro p hp
          refine ⟨_, rfl, ?_⟩
          simp only [sSeq, sIf, sNext, sAsg, sPar, sPar3, gN, bnd_ret, ret_app, bnd_grd, grd_app, sl_zero, sl_succ, slX_zero, slX_own, slX_succ, slO_zero, slO_own, slO_succ, slH_zero, slH_succ, frz_zero, frz_succ, own_zero, own_succ, onStr_str, asB_bool, asI_int, both_if, either_if, bothD_if, eitherD_if, choose_if, List.set_cons_zero, List.set_cons_succ, Bool.not_true, Bool.not_false, if_true, if_false, Bool.false_eq_true, grd_nil, wipeD_cons, wipeD_nil, List.map]
          exact grd_true (sz 2) _


theorem weight_part {ps : List Dt} {y : Dt} (h : y ∈ ps) : y.weight ≤ (PyData.tuple [.str "row", .tuple ps]).weight := by
  have := weight_mem h
  simp only [PyData.weight, PyData.weightAll]
  omega
mutual
theorem lv_weight (d : Dt) : ∀ y ∈ lv d, y.weight ≤ d.weight := by
  cases h : rowOf d with
  | none =>
    rw [lv_leaf h]
    intro y hy
    rw [List.mem_singleton.mp hy]
    exact Nat.le_refl _
  | some ps =>
    have := rowOf_lt h
    rw [lv_row h]
    intro y hy
    have := lvs_weight ps y hy
    have e := rowOf_some h
    rw [e]
    simp only [PyData.weight, PyData.weightAll]
    omega
termination_by sizeOf d
theorem lvs_weight (ps : List Dt) : ∀ y ∈ lvs ps, y.weight ≤ PyData.weightAll ps := by
  cases ps with
  | nil => intro y hy; rw [lvs] at hy; cases hy
  | cons p ps =>
    intro y hy
    rw [lvs] at hy
    rw [PyData.weightAll]
    rcases List.mem_append.mp hy with hy | hy
    · have := lvs_weight ps y hy; omega
    · have := lv_weight p y hy; omega
termination_by sizeOf ps
end
theorem lv_fit {d : Dt} (h : fitW d) : ∀ y ∈ lv d, fitW y := fun y hy => Nat.le_trans (lv_weight d y hy) h
theorem ok_is_worth (F : Fc K mg) (K_leaves : Kn P w K mg base k "leaves" s_24 ["thing"] mLeaves) (K_is_bare : Kn P w K mg base k "is_bare" s_23 ["thing"] (mPure fun x => .bool (isBare x))) (K_is_named : Kn P w K mg base k "is_named" s_22 ["thing"] (mPure fun x => .bool (isNamed x))) (D : Df K mg "is_worth" s_25 ["thing"] f fd) : Kn P w K mg base (k + 1) "is_worth" s_25 ["thing"] (mPure fun x => .bool (isWorth x)) := by
  refine D.kn (FnD.of _ D.d sc_25 (fun cdv A outer s H E g hx room => have hu := hu64 room; have hu1 := hu65 room;
    (dss_cons (ds_set 1 sc_25.nd (de_k K_leaves hx room (das_cons (DE.arg (de_var 0)) das_nil)))
 (dss_one (ds_ret (de_and (de_cmpX op_notN x2_notN (dx_var 1) (DE.now de_non) (nomark _)) (de_one (de_callX (cr_all rfl) xc_all rfl F.m_all rfl (dxs_cons (DE.now (DN.dat (dn_lc rfl sc_25.nd (own := [("one", 2)]) (blk_ok rfl) (di_list (dx_var 1)) (fun _ _ _ _ _ => (dg_name 2 sc_25.nd)) (fun _ _ _ _ _ => difs_nil) (fun _ _ _ _ _ => (de_or (de_k K_is_bare hx.blk room (das_cons (DE.arg (de_var 2)) das_nil)) (de_one (de_k K_is_named hx.blk room (das_cons (DE.arg (de_var 2)) das_nil)))))))) dxs_nil)))))))) ?_)
  intro as n Qd W hl h
  match as, hl, h with
  | [.d x], _, ⟨hz, hq⟩ =>
    have cl := mPure_is (f := leavesD) (["thing"] : List Str).length rfl hz
    rw [show slotsOf n_25 [Da.d x] = [Ds.d x, .no, .no] from rfl]
    have hq : Qd (.bool (isWorth x)) n := hq
    simp only [sSeq, sIf, sNext, sAsg, sPar, sPar3, gN, bnd_ret, ret_app, bnd_grd, grd_app, sl_zero, sl_succ, slX_zero, slX_own, slX_succ, slO_zero, slO_own, slO_succ, slH_zero, slH_succ, frz_zero, frz_succ, own_zero, own_succ, onStr_str, asB_bool, asI_int, both_if, either_if, bothD_if, eitherD_if, choose_if, List.set_cons_zero, List.set_cons_succ, Bool.not_true, Bool.not_false, if_true, if_false, Bool.false_eq_true, grd_nil, mLeaves, cl]
    unfold leavesD
    unfold isWorth at hq
    by_cases hb : inBounds x = true
    · rw [if_pos hb]
      rw [hb] at hq
      simp only [sSeq, sIf, sNext, sAsg, sPar, sPar3, gN, bnd_ret, ret_app, bnd_grd, grd_app, sl_zero, sl_succ, slX_zero, slX_own, slX_succ, slO_zero, slO_own, slO_succ, slH_zero, slH_succ, frz_zero, frz_succ, own_zero, own_succ, onStr_str, asB_bool, asI_int, both_if, either_if, bothD_if, eitherD_if, choose_if, List.set_cons_zero, List.set_cons_succ, Bool.not_true, Bool.not_false, if_true, if_false, Bool.false_eq_true, grd_nil, isNone, oNotN]
      rw [lcD_map (items := lv x) (fun d => .bool (leafGood d))]
      · rw [bnd_ret, bnd_ret, bnd_ret, oAll_map]
        exact hq
      · rfl
      · intro d hd
        have hf := lv_fit hz d hd
        have c1 := mPure_is (f := fun x => .bool (isBare x)) (["thing"] : List Str).length rfl hf
        have c2 := mPure_is (f := fun x => .bool (isNamed x)) (["thing"] : List Str).length rfl hf
        refine ⟨_, rfl, ?_⟩
        simp only [sSeq, sIf, sNext, sAsg, sPar, sPar3, gN, bnd_ret, ret_app, bnd_grd, grd_app, sl_zero, sl_succ, slX_zero, slX_own, slX_succ, slO_zero, slO_own, slO_succ, slH_zero, slH_succ, frz_zero, frz_succ, own_zero, own_succ, onStr_str, asB_bool, asI_int, both_if, either_if, bothD_if, eitherD_if, choose_if, List.set_cons_zero, List.set_cons_succ, Bool.not_true, Bool.not_false, if_true, if_false, Bool.false_eq_true, grd_nil, wipeD_cons, wipeD_nil, List.map, c1, c2]
        unfold leafGood
        cases isBare d <;> rfl
    · rw [if_neg hb]
      have hb : inBounds x = false := by simpa using hb
      rw [hb] at hq
      exact hq



end
end Ev
namespace Ev
open PySem PySem.Spec L2 Dl
open PyProof.Rows hiding St
/-- the parts of a row, bounded -/
theorem row_parts {w : Nat} {x : Dt} {ps : List Dt} (ho : Oq w 50 x) (hr : rowOf x = some ps) : 2 ≤ x.depth ∧ ∀ p ∈ ps, Oq w 50 p ∧ p.depth + 2 ≤ x.depth := by
  have ex := rowOf_some hr
  have o1 : Oq w x.depth x := ⟨ho.sh, ho.ls, ho.as, ho.w, Nat.le_refl _⟩
  have hd := ho.h
  have o2 : Oq w (x.depth - 1) (.tuple ps) := by
    have z := o1
    rw [ex] at z
    have y := z.parts.mem (.tuple ps) (List.mem_cons_of_mem _ List.mem_cons_self)
    rw [← ex] at y
    exact y
  have o3 : Oqs w (x.depth - 1 - 1) ps := o2.parts
  have hd2 : 2 ≤ x.depth := by
    rw [ex]
    simp only [PyData.depth, PyData.depthAll]
    omega
  refine ⟨hd2, fun p hp => ?_⟩
  have op := o3.mem p hp
  exact ⟨op.more (Nat.le_refl _) (by omega), by have := op.h; omega⟩
/-- a worth that can be told -/
def Told (d : Dt) : Prop := wellD d = true ∧ Oq 300000 50 d ∧ nod d ≤ 200
theorem nods_mem : ∀ {ps : List Dt} {p : Dt}, p ∈ ps → nod p ≤ nods ps
  | q :: ps, p, h => by
    rw [nods]
    rcases List.mem_cons.mp h with rfl | h
    · omega
    · have := nods_mem h
      omega
theorem Told.part {x p : Dt} {ps : List Dt} (t : Told x) (hr : rowOf x = some ps) (hp : p ∈ ps) : Told p ∧ p.depth + 2 ≤ x.depth := by
  have z := (row_parts t.2.1 hr).2 p hp
  refine ⟨⟨wells_mem (by rw [← well_row hr]; exact t.1) p hp, z.1, ?_⟩, z.2⟩
  have := t.2.2
  rw [nod_row hr] at this
  have := nods_mem hp
  omega
theorem Told.len {x : Dt} (t : Told x) : (mkS (tl x)).length ≤ 6000 := by
  have z := tl_len x t.1
  have y := t.2.2
  rw [len_cp, cp_mkS]
  omega
section
variable {P : Program} {w : World} {K : PySem.W.Frag} {mg : Str → Option Value} {base : Heap} {f : Addr} {fd : FuncData} {k : Nat}
def mShow (j : Nat) : List Da → Mv Dt
  | [.d d] => grd (Told d ∧ d.depth ≤ j) (Dl.ret (txD d))
  | _ => bad
theorem tx_leaf {d : Dt} {x : Str} (h : rowOf d = none) (e : cp x = leafL d) : txD d = .str x := by
  unfold txD
  rw [tl_leaf h, ← e, mkS_cp]
theorem int_log {i : Int} (h0 : -1000000000000000 ≤ i) (h1 : i ≤ 1000000000000000) : i.natAbs.log2 < 1920 := by
  by_cases z : i.natAbs = 0
  · rw [z]; decide
  · have := (Nat.log2_lt z).mpr (show i.natAbs < 2 ^ 60 from Nat.lt_of_le_of_lt (show i.natAbs ≤ 1000000000000000 by omega) (by decide))
    omega
theorem texts_sum : ∀ {ps : List Dt}, wellsD ps = true → ((ps.map fun p => mkS (tl p)).map (·.length)).sum + ps.length ≤ 30 * nods ps
  | [], _ => by rw [nods]; exact Nat.le_refl _
  | p :: ps, h => by
    rw [wellsD_cons, Bool.and_eq_true] at h
    have z1 := tl_len p h.1
    have z2 := texts_sum h.2
    rw [nods, List.map_cons, List.map_cons, List.sum_cons, List.length_cons, len_cp, cp_mkS]
    omega
theorem hsl {m : Nat} (h : m ≤ 100000) : m ≤ sizeLine := Nat.le_trans h (by decide)
theorem ok_show {j : Nat} {mR : List Da → Mv Dt} (hR : ∀ i, j = i + 1 → mR = mShow i) (F : Fc K mg) (K_is_row : Kn P w K mg base k "is_row" s_21 ["thing"] (mPure fun x => .bool (isRowD x))) (K_show_worth : Kn P w K mg base k "show_worth" s_31 ["worth"] mR) (D : Df K mg "show_worth" s_31 ["worth"] f fd) : Kn P w K mg base (k + 1) "show_worth" s_31 ["worth"] (mShow j) := by
  refine D.kn (FnD.of _ D.d sc_31 (fun cdv A outer s H E g hx room => have hu := hu64 room; have hu1 := hu65 room;
    (dss_cons (ds_if (dt_cmpX op_isN x2_isN (dx_var 0) (DE.now de_non) (nomark _)) (dss_one (ds_ret de_str)) dss_nil)
 (dss_cons (ds_if (DE.tst (de_isi ts_bool rfl F.m_isinstance rfl F.m_bool rfl (dx_var 0))) (dss_one (ds_ret (de_if (DE.tst (de_var 0)) de_str de_str))) dss_nil)
 (dss_cons (ds_if (DE.tst (de_isi ts_str rfl F.m_isinstance rfl F.m_str rfl (dx_var 0))) (dss_one (ds_ret (de_joined (dj_cons de_str (dj_cons (de_fmt (de_var 0)) (dj_cons de_str dj_nil)))))) dss_nil)
 (dss_cons (ds_if (dt_not (DE.tst (de_isi ts_tuple rfl F.m_isinstance rfl F.m_tuple rfl (dx_var 0)))) (dss_one (ds_ret (de_callXT call_str_int xc_str rfl F.m_str rfl (dxs_cons (dx_var 0) dxs_nil)))) dss_nil)
 (dss_cons (ds_if (DE.tst (de_k K_is_row hx room (das_cons (DE.arg (de_var 0)) das_nil))) (dss_one (ds_ret (de_plus (DE.now (de_plus (DE.now de_str) (DE.now (de_join (DE.now de_str) (DE.now (DN.dat (dn_lc rfl sc_31.nd (own := [("part", 1)]) (blk_ok rfl) (DF.di (df_tup (de_at (dx_var 0) (DE.now de_int) (fun _ _ => rfl)))) (fun _ _ _ _ _ => (dg_name 1 sc_31.nd)) (fun _ _ _ _ _ => difs_nil) (fun _ _ _ _ _ => (de_k K_show_worth hx.blk room (das_cons (DE.arg (de_var 1)) das_nil)))))))))) (DE.now de_str)))) dss_nil)
 (dss_cons (ds_if (dt_cmpX (op_eqA hu) x2_eq (DE.now (de_at (dx_var 0) (DE.now de_int) (fun _ _ => rfl))) (DE.now (de_gs F.c_THING)) (nomark _)) (dss_one (ds_ret (de_joined (dj_cons de_str (dj_cons (de_fmt (de_at (dx_var 0) (DE.now de_int) (fun _ _ => rfl))) dj_nil))))) dss_nil)
 (dss_cons (ds_asg (de_var 0) (dg_tup (k := 3) rfl (dgs_cons (dg_name 2 sc_31.nd) (dgs_cons (dg_name 3 sc_31.nd) (dgs_cons (dg_name 4 sc_31.nd) dgs_nil)))))
 (dss_one (ds_ret (de_plus (DE.now (de_plus (dx_var 3) (DE.now (de_if (dt_cmpX (op_eqA hu) x2_eq (dx_var 2) (DE.now (de_gs F.c_DEED)) (nomark _)) de_str de_str)))) (dx_var 4)))))))))))) ?_)
  intro as n Qd W hl h
  match as, hl, h with
  | [.d d], _, ⟨⟨td, hj⟩, hq⟩ =>
    have hq : Qd (txD d) n := hq
    rw [show slotsOf n_31 [Da.d d] = [Ds.d d, .no, .no, .no, .no] from rfl]
    have c1 := mPure_is (f := fun x => .bool (isRowD x)) (["thing"] : List Str).length rfl (show fitW d from td.2.1.w)
    simp only [sSeq, sIf, sNext, sAsg, sPar, sPar3, gN, bnd_ret, ret_app, bnd_grd, grd_app, sl_zero, sl_succ, slX_zero, slX_own, slX_succ, slO_zero, slO_own, slO_succ, slH_zero, slH_succ, frz_zero, frz_succ, own_zero, own_succ, onStr_str, asB_bool, asI_int, both_if, either_if, bothD_if, eitherD_if, choose_if, List.set_cons_zero, List.set_cons_succ, Bool.not_true, Bool.not_false, if_true, if_false, Bool.false_eq_true, grd_nil, c1]
    cases hr : rowOf d with
    | none =>
      have er : isRowD d = false := by unfold isRowD; rw [hr]; rfl
      have gd := well_leaf hr td.1
      cases d with
      | none =>
        rw [tx_leaf hr (x := "none") (by decide +kernel)] at hq
        exact hq
      | bool b =>
        have e : txD (.bool b) = .str (if b then "yes" else "no") := tx_leaf hr (by cases b <;> decide +kernel)
        rw [e] at hq
        cases b <;> exact hq
      | int i =>
        obtain ⟨h0, h1⟩ := lg_int gd
        rw [tx_leaf hr (x := ((toString i : String) : Str)) rfl] at hq
        exact ⟨int_log (by omega) (by omega), hq⟩
      | str x =>
        have lx := ((isText_iff x).mp (lg_str gd)).1
        have l1 : (Str.empty ++ ("'" : Str)).length = 1 := by decide +kernel
        have l2 : ("'" : Str).length = 1 := by decide +kernel
        rw [tx_leaf hr (x := ((Str.empty ++ ("'" : Str)) ++ x) ++ ("'" : Str)) (by rw [cp_cat, cp_cat, cp_cat]; rfl)] at hq
        exact ⟨hsl (by rw [l1]; omega), hsl (by omega), hsl (by rw [catLen, l1]; omega), hsl (by rw [catLen, catLen, l1, l2]; omega), hq⟩
      | tuple xs =>
        rcases named_cases (lg_tup gd) with ⟨i, e, gi⟩ | ⟨a, b, c, e, ha, hb, hc⟩
        · cases e
          unfold great at gi
          rw [Bool.and_eq_true, decide_eq_true_eq, decide_eq_true_eq] at gi
          have e4 : oEq (.str "thing") (.str "thing") = Dl.ret (.bool true) := oEq_str _ _
          have e0 : oAt (.tuple [.str "thing", .int i]) (.int 0) = Dl.ret (.str "thing") := rfl
          have l1 : (Str.empty ++ ("#" : Str)).length = 1 := by decide +kernel
          have li := (text_int (i := i) (by omega))
          rw [isText_iff] at li
          rw [tx_leaf hr (x := (Str.empty ++ ("#" : Str)) ++ ((toString i : String) : Str)) (by rw [cp_cat, cp_cat]; rfl)] at hq
          simp only [sSeq, sIf, sNext, sAsg, sPar, sPar3, gN, bnd_ret, ret_app, bnd_grd, grd_app, sl_zero, sl_succ, slX_zero, slX_own, slX_succ, slO_zero, slO_own, slO_succ, slH_zero, slH_succ, frz_zero, frz_succ, own_zero, own_succ, onStr_str, asB_bool, asI_int, both_if, either_if, bothD_if, eitherD_if, choose_if, List.set_cons_zero, List.set_cons_succ, Bool.not_true, Bool.not_false, if_true, if_false, Bool.false_eq_true, grd_nil, isBool, Dl.isInt, isTup, isStr, er, e0, e4]
          exact ⟨hsl (by rw [l1]; omega), int_log (by omega) (by omega), hsl (by rw [catLen, l1]; omega), hq⟩
        · cases e
          have lb := ((name_iff b).mp hb).2.1
          have lc := ((name_iff c).mp hc).2.1
          have e0 : oAt (.tuple [.str a, .str b, .str c]) (.int 0) = Dl.ret (.str a) := rfl
          rcases ha with rfl | rfl
          · have e4 : oEq (.str "deed") (.str "thing") = Dl.ret (.bool false) := by rw [oEq_str]; exact congrArg (fun b => Dl.ret (PyData.bool b)) (by decide +kernel)
            have e5 : oEq (.str "deed") (.str "deed") = Dl.ret (.bool true) := oEq_str _ _
            have l1 : (("." : Str)).length = 1 := by decide +kernel
            rw [tx_leaf hr (x := (b ++ ("." : Str)) ++ c) (by rw [cp_cat, cp_cat, List.append_assoc]; rfl)] at hq
            simp only [sSeq, sIf, sNext, sAsg, sPar, sPar3, gN, bnd_ret, ret_app, bnd_grd, grd_app, sl_zero, sl_succ, slX_zero, slX_own, slX_succ, slO_zero, slO_own, slO_succ, slH_zero, slH_succ, frz_zero, frz_succ, own_zero, own_succ, onStr_str, asB_bool, asI_int, both_if, either_if, bothD_if, eitherD_if, choose_if, List.set_cons_zero, List.set_cons_succ, Bool.not_true, Bool.not_false, if_true, if_false, Bool.false_eq_true, grd_nil, isBool, Dl.isInt, isTup, isStr, er, e0, e4]
            refine ⟨rfl, ?_⟩
            simp only [gsCons, gsNil, sSeq, sIf, sNext, sAsg, sPar, sPar3, gN, bnd_ret, ret_app, bnd_grd, grd_app, sl_zero, sl_succ, slX_zero, slX_own, slX_succ, slO_zero, slO_own, slO_succ, slH_zero, slH_succ, frz_zero, frz_succ, own_zero, own_succ, onStr_str, asB_bool, asI_int, both_if, either_if, bothD_if, eitherD_if, choose_if, List.set_cons_zero, List.set_cons_succ, Bool.not_true, Bool.not_false, if_true, if_false, Bool.false_eq_true, grd_nil, e5]
            exact ⟨hsl (by rw [l1]; omega), hsl (by rw [catLen, l1]; omega), hq⟩
          · have e4 : oEq (.str "kind") (.str "thing") = Dl.ret (.bool false) := by rw [oEq_str]; exact congrArg (fun b => Dl.ret (PyData.bool b)) (by decide +kernel)
            have e5 : oEq (.str "kind") (.str "deed") = Dl.ret (.bool false) := by rw [oEq_str]; exact congrArg (fun b => Dl.ret (PyData.bool b)) (by decide +kernel)
            have l1 : ((":" : Str)).length = 1 := by decide +kernel
            rw [tx_leaf hr (x := (b ++ (":" : Str)) ++ c) (by rw [cp_cat, cp_cat, List.append_assoc]; show cp b ++ ([58] ++ cp c) = cp b ++ (if ("kind" : Str) = ("deed" : Str) then 46 else 58) :: cp c; rw [if_neg (by decide +kernel)]; rfl)] at hq
            simp only [sSeq, sIf, sNext, sAsg, sPar, sPar3, gN, bnd_ret, ret_app, bnd_grd, grd_app, sl_zero, sl_succ, slX_zero, slX_own, slX_succ, slO_zero, slO_own, slO_succ, slH_zero, slH_succ, frz_zero, frz_succ, own_zero, own_succ, onStr_str, asB_bool, asI_int, both_if, either_if, bothD_if, eitherD_if, choose_if, List.set_cons_zero, List.set_cons_succ, Bool.not_true, Bool.not_false, if_true, if_false, Bool.false_eq_true, grd_nil, isBool, Dl.isInt, isTup, isStr, er, e0, e4]
            refine ⟨rfl, ?_⟩
            simp only [gsCons, gsNil, sSeq, sIf, sNext, sAsg, sPar, sPar3, gN, bnd_ret, ret_app, bnd_grd, grd_app, sl_zero, sl_succ, slX_zero, slX_own, slX_succ, slO_zero, slO_own, slO_succ, slH_zero, slH_succ, frz_zero, frz_succ, own_zero, own_succ, onStr_str, asB_bool, asI_int, both_if, either_if, bothD_if, eitherD_if, choose_if, List.set_cons_zero, List.set_cons_succ, Bool.not_true, Bool.not_false, if_true, if_false, Bool.false_eq_true, grd_nil, e5]
            exact ⟨hsl (by rw [l1]; omega), hsl (by rw [catLen, l1]; omega), hq⟩
      | list xs => exact absurd (leafGood_S gd) Bool.false_ne_true
      | dict es => exact absurd (leafGood_S gd) Bool.false_ne_true
    | some ps =>
      have er : isRowD d = true := by unfold isRowD; rw [hr]; rfl
      have ea : oAt d (.int 1) = Dl.ret (.tuple ps) := by rw [rowOf_some hr]; rfl
      have ed := rowOf_some hr
      have ht : isTup d = true := by rw [ed]; rfl
      have hs : isStr d = false := by rw [ed]; rfl
      have hb : isBool d = false := by rw [ed]; rfl
      have hn : oIsN d .none = Dl.ret (.bool false) := by rw [ed]; rfl
      obtain ⟨d2, _⟩ := row_parts td.2.1 hr
      obtain ⟨i, rfl⟩ : ∃ i, j = i + 1 := ⟨j - 1, by omega⟩
      rw [hR i rfl]
      simp only [sSeq, sIf, sNext, sAsg, sPar, sPar3, gN, bnd_ret, ret_app, bnd_grd, grd_app, sl_zero, sl_succ, slX_zero, slX_own, slX_succ, slO_zero, slO_own, slO_succ, slH_zero, slH_succ, frz_zero, frz_succ, own_zero, own_succ, onStr_str, asB_bool, asI_int, both_if, either_if, bothD_if, eitherD_if, choose_if, List.set_cons_zero, List.set_cons_succ, Bool.not_true, Bool.not_false, if_true, if_false, Bool.false_eq_true, grd_nil, er, ht, hs, hb, hn]
      rw [lcD_map (items := ps) txD]
      · have ej : oJoin (.str " ") [.list (ps.map txD)] = Dl.ret (.str (mkS (tls ps))) := by
          have e1 : ps.map txD = (ps.map fun p => mkS (tl p)).map PyData.str := by rw [List.map_map]; rfl
          have hw : wellsD ps = true := by rw [← well_row hr]; exact td.1
          have hN := td.2.2
          rw [nod_row hr] at hN
          have z := texts_sum hw
          rw [e1, oJoin_list (textsOf_map _) (by rw [List.length_map]; have : (" " : Str).length = 1 := (by decide +kernel); rw [this]; omega), ← join_cp, mkS_cp]
        have lt := td.len
        rw [tl_row hr, len_cp, cp_mkS, List.length_cons, List.length_append, List.length_singleton] at lt
        have l1 : ("[" : Str).length = 1 := by decide +kernel
        have l2 : ("]" : Str).length = 1 := by decide +kernel
        simp only [sSeq, sIf, sNext, sAsg, sPar, sPar3, gN, bnd_ret, ret_app, bnd_grd, grd_app, sl_zero, sl_succ, slX_zero, slX_own, slX_succ, slO_zero, slO_own, slO_succ, slH_zero, slH_succ, frz_zero, frz_succ, own_zero, own_succ, onStr_str, asB_bool, asI_int, both_if, either_if, bothD_if, eitherD_if, choose_if, List.set_cons_zero, List.set_cons_succ, Bool.not_true, Bool.not_false, if_true, if_false, Bool.false_eq_true, grd_nil, ej]
        have et : txD d = .str (("[" : Str) ++ mkS (tls ps) ++ ("]" : Str)) := by
          unfold txD
          congr 1
          apply cp_inj
          rw [cp_mkS, tl_row hr, cp_cat, cp_cat, cp_mkS]
          rfl
        rw [et] at hq
        exact ⟨hsl (by rw [l1, len_cp, cp_mkS]; omega), hsl (by rw [catLen, l1, l2, len_cp (mkS _), cp_mkS]; omega), hq⟩
      · simp only [sSeq, sIf, sNext, sAsg, sPar, sPar3, gN, bnd_ret, ret_app, bnd_grd, grd_app, sl_zero, sl_succ, slX_zero, slX_own, slX_succ, slO_zero, slO_own, slO_succ, slH_zero, slH_succ, frz_zero, frz_succ, own_zero, own_succ, onStr_str, asB_bool, asI_int, both_if, either_if, bothD_if, eitherD_if, choose_if, List.set_cons_zero, List.set_cons_succ, Bool.not_true, Bool.not_false, if_true, if_false, Bool.false_eq_true, grd_nil, ea]
        rfl
      · intro p hp
        obtain ⟨tp, dp⟩ := td.part hr hp
        refine ⟨_, rfl, ?_⟩
        have c3 : many (["worth"] : List Str).length (mShow i) [Da.d p] = Dl.ret (txD p) := (many_app _ _ _ rfl).trans (grd_true ⟨tp, by omega⟩ _)
        simp only [sSeq, sIf, sNext, sAsg, sPar, sPar3, gN, bnd_ret, ret_app, bnd_grd, grd_app, sl_zero, sl_succ, slX_zero, slX_own, slX_succ, slO_zero, slO_own, slO_succ, slH_zero, slH_succ, frz_zero, frz_succ, own_zero, own_succ, onStr_str, asB_bool, asI_int, both_if, either_if, bothD_if, eitherD_if, choose_if, List.set_cons_zero, List.set_cons_succ, Bool.not_true, Bool.not_false, if_true, if_false, Bool.false_eq_true, grd_nil, wipeD_cons, wipeD_nil, List.map, c3]
theorem show_all (F : Fc K mg) (K_is_row : Kn P w K mg base k "is_row" s_21 ["thing"] (mPure fun x => .bool (isRowD x))) (D : Df K mg "show_worth" s_31 ["worth"] f fd) : ∀ j, Kn P w K mg base (k + j + 1) "show_worth" s_31 ["worth"] (mShow j)
  | 0 => ok_show (fun i h => by omega) F K_is_row (Kn.never D) D
  | j + 1 => ok_show (mR := mShow j) (fun i h => by cases h; rfl) F (K_is_row.more (by omega)) (show_all F K_is_row D j) D
/-! ### the law's own -/
theorem ok_text_of {j : Nat} {mR : List Da → Mv Dt} (hR : ∀ i, j = i + 1 → mR = mShow i) (F : Fc K mg) (K__law_text_of : Kn P w K mg base k "_law_text_of" s_54 ["_law_it"] mR) (D : Df K mg "_law_text_of" s_54 ["_law_it"] f fd) : Kn P w K mg base (k + 1) "_law_text_of" s_54 ["_law_it"] (mShow j) := by
  refine D.kn (FnD.of _ D.d sc_54 (fun cdv A outer s H E g hx room => have hu := hu64 room; have hu1 := hu65 room;
    (dss_cons (ds_if (dt_cmpX op_isN x2_isN (dx_var 0) (DE.now de_non) (nomark _)) (dss_one (ds_ret de_str)) dss_nil)
 (dss_cons (ds_if (DE.tst (de_isi ts_bool rfl F.m_isinstance rfl F.m_bool rfl (dx_var 0))) (dss_one (ds_ret (de_at (DE.now (DN.dat (dn_lst (des_cons de_str (des_cons de_str des_nil))))) (DE.now (de_callXT call_intC xc_intC rfl F.m_int rfl (dxs_cons (dx_var 0) dxs_nil))) (fun _ _ => rfl)))) dss_nil)
 (dss_cons (ds_if (DE.tst (de_isi ts_int rfl F.m_isinstance rfl F.m_int rfl (dx_var 0))) (dss_one (ds_ret (de_callXT call_str_int xc_str rfl F.m_str rfl (dxs_cons (dx_var 0) dxs_nil)))) dss_nil)
 (dss_cons (ds_if (DE.tst (de_isi ts_str rfl F.m_isinstance rfl F.m_str rfl (dx_var 0))) (dss_one (ds_ret (de_plus (DE.now (de_plus (DE.now de_str) (dx_var 0))) (DE.now de_str)))) dss_nil)
 (dss_cons (ds_if (dt_cmpX (op_eqA hu) x2_eq (DE.now (de_at (dx_var 0) (DE.now de_int) (fun _ _ => rfl))) (DE.now de_str) (nomark _)) (dss_cons (ds_set 1 sc_54.nd de_str)
 (dss_cons (ds_for hx (df_tup (de_at (dx_var 0) (DE.now de_int) (fun _ _ => rfl))) (dg_name 2 sc_54.nd) (dss_one (ds_set 1 sc_54.nd (de_plus (DE.now (de_plus (dx_var 1) (DE.now de_str))) (DE.now (de_k K__law_text_of hx room (das_cons (DE.arg (de_var 2)) das_nil)))))))
 (dss_one (ds_ret (de_plus (DE.now (de_plus (DE.now de_str) (DE.now (de_cut (dx_var 1) (do_some de_int) do_none)))) (DE.now de_str)))))) dss_nil)
 (dss_one (ds_ret (de_if (dt_cmpX (op_eqA hu) x2_eq (DE.now (de_at (dx_var 0) (DE.now de_int) (fun _ _ => rfl))) (DE.now de_str) (nomark _)) (de_plus (DE.now de_str) (DE.now (de_callXT call_str_int xc_str rfl F.m_str rfl (dxs_cons (DE.now (de_at (dx_var 0) (DE.now de_int) (fun _ _ => rfl))) dxs_nil)))) (de_plus (DE.now (de_plus (DE.now (de_at (dx_var 0) (DE.now de_int) (fun _ _ => rfl))) (DE.now (de_dix hu (de_disp (dps_cons de_str de_str (dps_cons de_str de_str dps_nil))) (de_at (dx_var 0) (DE.now de_int) (fun _ _ => rfl)))))) (DE.now (de_at (dx_var 0) (DE.now de_int) (fun _ _ => rfl))))))))))))) ?_)
  intro as n Qd W hl h
  match as, hl, h with
  | [.d d], _, ⟨⟨td, hj⟩, hq⟩ =>
    have hq : Qd (txD d) n := hq
    rw [show slotsOf n_54 [Da.d d] = [Ds.d d, .no, .no] from rfl]
    simp only [sSeq, sIf, sNext, sAsg, sPar, sPar3, gN, bnd_ret, ret_app, bnd_grd, grd_app, sl_zero, sl_succ, slX_zero, slX_own, slX_succ, slO_zero, slO_own, slO_succ, slH_zero, slH_succ, frz_zero, frz_succ, own_zero, own_succ, onStr_str, asB_bool, asI_int, both_if, either_if, bothD_if, eitherD_if, choose_if, List.set_cons_zero, List.set_cons_succ, Bool.not_true, Bool.not_false, if_true, if_false, Bool.false_eq_true, grd_nil]
    cases hr : rowOf d with
    | none =>
      have gd := well_leaf hr td.1
      cases d with
      | none =>
        rw [tx_leaf hr (x := "none") (by decide +kernel)] at hq
        exact hq
      | bool b =>
        have e : txD (.bool b) = .str (if b then "yes" else "no") := tx_leaf hr (by cases b <;> decide +kernel)
        rw [e] at hq
        cases b <;> exact ⟨sz 2, hq⟩
      | int i =>
        obtain ⟨h0, h1⟩ := lg_int gd
        rw [tx_leaf hr (x := ((toString i : String) : Str)) rfl] at hq
        exact ⟨int_log (by omega) (by omega), hq⟩
      | str x =>
        have lx := ((isText_iff x).mp (lg_str gd)).1
        have l2 : ("'" : Str).length = 1 := by decide +kernel
        rw [tx_leaf hr (x := (("'" : Str) ++ x) ++ ("'" : Str)) (by rw [cp_cat, cp_cat]; rfl)] at hq
        exact ⟨hsl (by rw [l2]; omega), hsl (by rw [catLen, l2]; omega), hq⟩
      | tuple xs =>
        rcases named_cases (lg_tup gd) with ⟨i, e, gi⟩ | ⟨a, b, c, e, ha, hb, hc⟩
        · cases e
          unfold great at gi
          rw [Bool.and_eq_true, decide_eq_true_eq, decide_eq_true_eq] at gi
          have e4 : oEq (.str "thing") (.str "thing") = Dl.ret (.bool true) := oEq_str _ _
          have e5 : oEq (.str "thing") (.str "row") = Dl.ret (.bool false) := by rw [oEq_str]; exact congrArg (fun b => Dl.ret (PyData.bool b)) (by decide +kernel)
          have e0 : oAt (.tuple [.str "thing", .int i]) (.int 0) = Dl.ret (.str "thing") := rfl
          have l1 : (("#" : Str)).length = 1 := by decide +kernel
          have li := (text_int (i := i) (by omega))
          rw [isText_iff] at li
          rw [tx_leaf hr (x := ("#" : Str) ++ ((toString i : String) : Str)) (by rw [cp_cat]; rfl)] at hq
          simp only [sSeq, sIf, sNext, sAsg, sPar, sPar3, gN, bnd_ret, ret_app, bnd_grd, grd_app, sl_zero, sl_succ, slX_zero, slX_own, slX_succ, slO_zero, slO_own, slO_succ, slH_zero, slH_succ, frz_zero, frz_succ, own_zero, own_succ, onStr_str, asB_bool, asI_int, both_if, either_if, bothD_if, eitherD_if, choose_if, List.set_cons_zero, List.set_cons_succ, Bool.not_true, Bool.not_false, if_true, if_false, Bool.false_eq_true, grd_nil, isBool, Dl.isInt, isTup, isStr, e0, e4, e5]
          exact ⟨int_log (by omega) (by omega), hsl (by rw [l1]; omega), hq⟩
        · cases e
          have lb := ((name_iff b).mp hb).2.1
          have lc := ((name_iff c).mp hc).2.1
          have e0 : oAt (.tuple [.str a, .str b, .str c]) (.int 0) = Dl.ret (.str a) := rfl
          have e1 : oAt (.tuple [.str a, .str b, .str c]) (.int 1) = Dl.ret (.str b) := rfl
          have e2 : oAt (.tuple [.str a, .str b, .str c]) (.int 2) = Dl.ret (.str c) := rfl
          have ed : oDisp [(PyData.str "deed", PyData.str "."), (.str "kind", .str ":")] = Dl.ret (.dict [(.str "deed", .str "."), (.str "kind", .str ":")]) := grd_true ⟨by decide +kernel, by decide⟩ _
          rcases ha with rfl | rfl
          · have e4 : oEq (.str "deed") (.str "thing") = Dl.ret (.bool false) := by rw [oEq_str]; exact congrArg (fun b => Dl.ret (PyData.bool b)) (by decide +kernel)
            have e5 : oEq (.str "deed") (.str "row") = Dl.ret (.bool false) := by rw [oEq_str]; exact congrArg (fun b => Dl.ret (PyData.bool b)) (by decide +kernel)
            have ex : oDix (.dict [(.str "deed", .str "."), (.str "kind", .str ":")]) (.str "deed") = Dl.ret (.str ".") := rfl
            have l1 : (("." : Str)).length = 1 := by decide +kernel
            rw [tx_leaf hr (x := (b ++ ("." : Str)) ++ c) (by rw [cp_cat, cp_cat, List.append_assoc]; rfl)] at hq
            simp only [sSeq, sIf, sNext, sAsg, sPar, sPar3, gN, bnd_ret, ret_app, bnd_grd, grd_app, sl_zero, sl_succ, slX_zero, slX_own, slX_succ, slO_zero, slO_own, slO_succ, slH_zero, slH_succ, frz_zero, frz_succ, own_zero, own_succ, onStr_str, asB_bool, asI_int, both_if, either_if, bothD_if, eitherD_if, choose_if, List.set_cons_zero, List.set_cons_succ, Bool.not_true, Bool.not_false, if_true, if_false, Bool.false_eq_true, grd_nil, isBool, Dl.isInt, isTup, isStr, e0, e1, e2, e4, e5, ed, ex]
            exact ⟨hsl (by rw [l1]; omega), hsl (by rw [catLen, l1]; omega), hq⟩
          · have e4 : oEq (.str "kind") (.str "thing") = Dl.ret (.bool false) := by rw [oEq_str]; exact congrArg (fun b => Dl.ret (PyData.bool b)) (by decide +kernel)
            have e5 : oEq (.str "kind") (.str "row") = Dl.ret (.bool false) := by rw [oEq_str]; exact congrArg (fun b => Dl.ret (PyData.bool b)) (by decide +kernel)
            have ex : oDix (.dict [(.str "deed", .str "."), (.str "kind", .str ":")]) (.str "kind") = Dl.ret (.str ":") := rfl
            have l1 : ((":" : Str)).length = 1 := by decide +kernel
            rw [tx_leaf hr (x := (b ++ (":" : Str)) ++ c) (by rw [cp_cat, cp_cat, List.append_assoc]; show cp b ++ ([58] ++ cp c) = cp b ++ (if ("kind" : Str) = ("deed" : Str) then 46 else 58) :: cp c; rw [if_neg (by decide +kernel)]; rfl)] at hq
            simp only [sSeq, sIf, sNext, sAsg, sPar, sPar3, gN, bnd_ret, ret_app, bnd_grd, grd_app, sl_zero, sl_succ, slX_zero, slX_own, slX_succ, slO_zero, slO_own, slO_succ, slH_zero, slH_succ, frz_zero, frz_succ, own_zero, own_succ, onStr_str, asB_bool, asI_int, both_if, either_if, bothD_if, eitherD_if, choose_if, List.set_cons_zero, List.set_cons_succ, Bool.not_true, Bool.not_false, if_true, if_false, Bool.false_eq_true, grd_nil, isBool, Dl.isInt, isTup, isStr, e0, e1, e2, e4, e5, ed, ex]
            exact ⟨hsl (by rw [l1]; omega), hsl (by rw [catLen, l1]; omega), hq⟩
      | list xs => exact absurd (leafGood_S gd) Bool.false_ne_true
      | dict es => exact absurd (leafGood_S gd) Bool.false_ne_true
    | some ps =>
      have ea : oAt d (.int 1) = Dl.ret (.tuple ps) := by rw [rowOf_some hr]; rfl
      have e0 : oAt d (.int 0) = Dl.ret (.str "row") := by rw [rowOf_some hr]; rfl
      have e4 : oEq (.str "row") (.str "row") = Dl.ret (.bool true) := oEq_str _ _
      have ed := rowOf_some hr
      have hi : Dl.isInt d = false := by rw [ed]; rfl
      have hs : isStr d = false := by rw [ed]; rfl
      have hb : isBool d = false := by rw [ed]; rfl
      have hn : oIsN d .none = Dl.ret (.bool false) := by rw [ed]; rfl
      obtain ⟨d2, _⟩ := row_parts td.2.1 hr
      obtain ⟨i, rfl⟩ : ∃ i, j = i + 1 := ⟨j - 1, by omega⟩
      rw [hR i rfl]
      have lt := td.len
      rw [tl_row hr, len_cp, cp_mkS, List.length_cons, List.length_append, List.length_singleton] at lt
      have lb := tlb_len ps
      have lz : ∀ i, (mkS (tlb (ps.take i))).length ≤ 6000 := fun i => by
        have := tlb_take_len ps i
        rw [len_cp, cp_mkS]
        omega
      simp only [sSeq, sIf, sNext, sAsg, sPar, sPar3, gN, bnd_ret, ret_app, bnd_grd, grd_app, sl_zero, sl_succ, slX_zero, slX_own, slX_succ, slO_zero, slO_own, slO_succ, slH_zero, slH_succ, frz_zero, frz_succ, own_zero, own_succ, onStr_str, asB_bool, asI_int, both_if, either_if, bothD_if, eitherD_if, choose_if, List.set_cons_zero, List.set_cons_succ, Bool.not_true, Bool.not_false, if_true, if_false, Bool.false_eq_true, grd_nil, hs, hb, hn, hi, e0, e4, sFor, ea, itT, bnd_app]
      refine forM_inv (fun i δ n' => n' = n ∧ ∃ s2, δ = [.d d, .d (.str (mkS (tlb (ps.take i)))), s2]) ⟨rfl, _, rfl⟩ ?_ ?_
      · rintro q p hp δ n' ⟨rfl, s2, rfl⟩ k' nx _ _ _
        obtain ⟨tp, dp⟩ := td.part hr (List.mem_of_getElem? hp)
        have c3 : many (["_law_it"] : List Str).length (mShow i) [Da.d p] = Dl.ret (txD p) := (many_app _ _ _ rfl).trans (grd_true ⟨tp, by omega⟩ _)
        have lp := tp.len
        have ls := lz q
        have l1 : (" " : Str).length = 1 := by decide +kernel
        simp only [sSeq, sIf, sNext, sAsg, sPar, sPar3, gN, bnd_ret, ret_app, bnd_grd, grd_app, sl_zero, sl_succ, slX_zero, slX_own, slX_succ, slO_zero, slO_own, slO_succ, slH_zero, slH_succ, frz_zero, frz_succ, own_zero, own_succ, onStr_str, asB_bool, asI_int, both_if, either_if, bothD_if, eitherD_if, choose_if, List.set_cons_zero, List.set_cons_succ, Bool.not_true, Bool.not_false, if_true, if_false, Bool.false_eq_true, grd_nil, c3, bnd_app]
        refine ⟨hsl (by rw [l1]; omega), hsl (by rw [catLen, l1]; omega), ?_⟩
        have e : (mkS (tlb (ps.take q)) ++ (" " : Str)) ++ mkS (tl p) = mkS (tlb (ps.take (q + 1))) := by
          apply cp_inj
          rw [cp_cat, cp_cat, cp_mkS, cp_mkS, cp_mkS, tlb_take hp, List.append_assoc]
          rfl
        rw [e]
        exact nx _ _ ⟨rfl, .d p, rfl⟩
      · rintro δ n' ⟨rfl, s2, rfl⟩
        rw [List.take_length]
        have lz := lz ps.length
        rw [List.take_length] at lz
        have l1 : ("[" : Str).length = 1 := by decide +kernel
        have l2 : ("]" : Str).length = 1 := by decide +kernel
        have oc : oCut (.str (mkS (tlb ps))) (some 1) none = Dl.ret (.str (mkS (tls ps))) := by
          refine (grd_true (hsl (by omega)) _).trans ?_
          rw [slice_from (by omega), cp_mkS]
          show Dl.ret (PyData.str (mkS ((tlb ps).drop 1))) = _
          rw [tlb_drop]
        have et : txD d = .str (("[" : Str) ++ mkS (tls ps) ++ ("]" : Str)) := by
          unfold txD
          congr 1
          apply cp_inj
          rw [cp_mkS, tl_row hr, cp_cat, cp_cat, cp_mkS]
          rfl
        rw [et] at hq
        simp only [sSeq, sIf, sNext, sAsg, sPar, sPar3, gN, bnd_ret, ret_app, bnd_grd, grd_app, sl_zero, sl_succ, slX_zero, slX_own, slX_succ, slO_zero, slO_own, slO_succ, slH_zero, slH_succ, frz_zero, frz_succ, own_zero, own_succ, onStr_str, asB_bool, asI_int, both_if, either_if, bothD_if, eitherD_if, choose_if, List.set_cons_zero, List.set_cons_succ, Bool.not_true, Bool.not_false, if_true, if_false, Bool.false_eq_true, grd_nil, oc]
        exact ⟨hsl (by rw [l1, len_cp, cp_mkS]; omega), hsl (by rw [catLen, l1, l2, len_cp (mkS _), cp_mkS]; omega), hq⟩
theorem text_all (F : Fc K mg) (D : Df K mg "_law_text_of" s_54 ["_law_it"] f fd) : ∀ j, Kn P w K mg base (k + j + 1) "_law_text_of" s_54 ["_law_it"] (mShow j)
  | 0 => ok_text_of (fun i h => by omega) F (Kn.never D) D
  | j + 1 => ok_text_of (mR := mShow j) (fun i h => by cases h; rfl) F (text_all F D j) D
end
end Ev
namespace Ev
open PySem PySem.Spec L2 Dl
open PyProof.Rows hiding St
/-! ### a text read from a place on -/
structure Rds (t : Str) (a : Int) (L R : List Nat) : Prop where
  ex : ∃ A : List Nat, cp t = A ++ L ++ R ∧ a = A.length
  len : t.length ≤ 100000
def dig (c : Nat) : Prop := 48 ≤ c ∧ c ≤ 57
def noDig (R : List Nat) : Prop := ∀ c, R.head? = some c → ¬ dig c
def stop (R : List Nat) : Prop := ∀ c, R.head? = some c → c = 32 ∨ c = 93
theorem stop.noDig {R : List Nat} (h : stop R) : noDig R := fun c hc d => by
  unfold dig at d
  rcases h c hc with rfl | rfl <;> omega
def mRead (ok : Dt → List Nat → List Nat → Prop) : List Da → Mv Dt
  | [.d (.str t), .d (.int a)] => fun n Q _ => ∃ d L R, ok d L R ∧ Rds t a L R ∧ Q (.tuple [d, .int (a + (L.length : Nat))]) n
  | _ => bad
def mEnd : List Da → Mv Dt
  | [.d (.str t), .d (.int a), .d (.str s)] => fun n Q _ => ∃ B R : List Nat, Rds t a B R ∧ (∀ c ∈ B, c ∈ cp s) ∧ (∀ c, R.head? = some c → c ∉ cp s) ∧ Q (.int (a + (B.length : Nat))) n
  | _ => bad
theorem oIn_one (c : Nat) (s : Str) : oIn (.str ⟨#[c]⟩) (.str s) = Dl.ret (.bool (decide (c ∈ cp s))) := by
  rw [← has_one]
  exact grd_true ⟨_, rfl⟩ _
section
variable {P : Program} {w : World} {K : PySem.W.Frag} {mg : Str → Option Value} {base : Heap} {f : Addr} {fd : FuncData} {k : Nat}
theorem ok_end (F : Fc K mg) (D : Df K mg "end_of" s_32 ["text", "at", "signs"] f fd) : Kn P w K mg base (k + 1) "end_of" s_32 ["text", "at", "signs"] mEnd := by
  refine D.kn (FnD.of _ D.d sc_32 (fun cdv A outer s H E g hx room => have hu := hu64 room; have hu1 := hu65 room;
    (dss_cons (ds_while hx (DW.tst (dw_and (dt_cmpX op_ltA x2_lt (dx_var 1) (DE.now (de_callX call_len xc_len rfl F.m_len rfl (dxs_cons (dx_var 0) dxs_nil))) (nomark _)) (dw_and1 (dt_cmpX (op_inA hu1) x2_in (DE.now (de_at (dx_var 0) (dx_var 1) (fun _ _ => rfl))) (dx_var 2) rfl)))) (dss_one (ds_aug 1 ip_add sc_32.nd de_int)))
 (dss_one (ds_ret (de_var 1))))) ?_)
  intro as n Qd W hl h
  match as, hl, h with
  | [.d (.str t), .d (.int a), .d (.str s)], _, ⟨B, R, ⟨⟨A, ht, ha⟩, lt⟩, hB, hR, hq⟩ =>
    rw [show slotsOf n_32 [Da.d (PyData.str t), Da.d (PyData.int a), Da.d (PyData.str s)] = [Ds.d (.str t), .d (.int a), .d (.str s)] from rfl]
    simp only [sSeq, sIf, sNext, sAsg, sPar, sPar3, gN, bnd_ret, ret_app, bnd_grd, grd_app, sl_zero, sl_succ, slX_zero, slX_own, slX_succ, slO_zero, slO_own, slO_succ, slH_zero, slH_succ, frz_zero, frz_succ, own_zero, own_succ, onStr_str, asB_bool, asI_int, both_if, either_if, bothD_if, eitherD_if, choose_if, List.set_cons_zero, List.set_cons_succ, Bool.not_true, Bool.not_false, if_true, if_false, Bool.false_eq_true, grd_nil, sWhile, bnd_app]
    refine ⟨fun m δ n' => n' = n ∧ ∃ A' B' : List Nat, cp t = A' ++ B' ++ R ∧ A'.length + B'.length = A.length + B.length ∧ (∀ c ∈ B', c ∈ cp s) ∧ δ = [.d (.str t), .d (.int (A'.length : Nat)), .d (.str s)] ∧ m = B'.length, ⟨_, rfl, A, B, ht, rfl, hB, by rw [ha], rfl⟩, ?_⟩
    rintro m δ n' ⟨rfl, A', B', ht', hl', hB', rfl, rfl⟩
    have hlen : t.length = A'.length + B'.length + R.length := by rw [len_cp, ht']; simp [Nat.add_assoc]
    have ol : oLen [.str t] = Dl.ret (.int (t.length : Nat)) := grd_true (hsl lt) _
    simp only [sSeq, sIf, sNext, sAsg, sPar, sPar3, gN, bnd_ret, ret_app, bnd_grd, grd_app, sl_zero, sl_succ, slX_zero, slX_own, slX_succ, slO_zero, slO_own, slO_succ, slH_zero, slH_succ, frz_zero, frz_succ, own_zero, own_succ, onStr_str, asB_bool, asI_int, both_if, either_if, bothD_if, eitherD_if, choose_if, List.set_cons_zero, List.set_cons_succ, Bool.not_true, Bool.not_false, if_true, if_false, Bool.false_eq_true, grd_nil, ol, oLt, bnd_app]
    cases B' with
    | cons c B' =>
      have h1 : decide (((A'.length : Nat) : Int) < ((t.length : Nat) : Int)) = true := by rw [List.length_cons] at hlen; exact decide_eq_true (by omega)
      have h2 := at_sign (x := t) (A := A') (c := c) (R := B' ++ R) (i := (A'.length : Nat)) (by rw [ht']; simp) rfl (hsl lt)
      have h3 : decide (c ∈ cp s) = true := decide_eq_true (hB' c List.mem_cons_self)
      simp only [sSeq, sIf, sNext, sAsg, sPar, sPar3, gN, bnd_ret, ret_app, bnd_grd, grd_app, sl_zero, sl_succ, slX_zero, slX_own, slX_succ, slO_zero, slO_own, slO_succ, slH_zero, slH_succ, frz_zero, frz_succ, own_zero, own_succ, onStr_str, asB_bool, asI_int, both_if, either_if, bothD_if, eitherD_if, choose_if, List.set_cons_zero, List.set_cons_succ, Bool.not_true, Bool.not_false, if_true, if_false, Bool.false_eq_true, grd_nil, h1, h2, oIn_one, h3, sAug, List.getElem?_cons_succ, List.getElem?_cons_zero]
      refine ⟨B'.length, by rw [List.length_cons]; omega, trivial, A' ++ [c], B', by rw [ht']; simp, by rw [List.length_append, List.length_singleton]; rw [List.length_cons] at hl'; omega, fun x hx => hB' x (List.mem_cons_of_mem _ hx), ?_, rfl⟩
      rw [List.length_append, List.length_singleton]
      rfl
    | nil =>
      have hq : Qd (.int ((A'.length : Nat) : Int)) n' := by
        rw [List.length_nil] at hl'
        have e : a + (B.length : Nat) = ((A'.length : Nat) : Int) := by omega
        rw [← e]
        exact hq
      cases R with
      | nil =>
        have h1 : decide (((A'.length : Nat) : Int) < ((t.length : Nat) : Int)) = false := by simp only [List.length_nil] at hlen; exact decide_eq_false (by omega)
        simp only [sSeq, sIf, sNext, sAsg, sPar, sPar3, gN, bnd_ret, ret_app, bnd_grd, grd_app, sl_zero, sl_succ, slX_zero, slX_own, slX_succ, slO_zero, slO_own, slO_succ, slH_zero, slH_succ, frz_zero, frz_succ, own_zero, own_succ, onStr_str, asB_bool, asI_int, both_if, either_if, bothD_if, eitherD_if, choose_if, List.set_cons_zero, List.set_cons_succ, Bool.not_true, Bool.not_false, if_true, if_false, Bool.false_eq_true, grd_nil, h1]
        exact hq
      | cons c R =>
        have h1 : decide (((A'.length : Nat) : Int) < ((t.length : Nat) : Int)) = true := by rw [List.length_cons] at hlen; exact decide_eq_true (by omega)
        have h2 := at_sign (x := t) (A := A') (c := c) (R := R) (i := (A'.length : Nat)) (by rw [ht']; simp) rfl (hsl lt)
        have h3 : decide (c ∈ cp s) = false := decide_eq_false (hR c rfl)
        simp only [sSeq, sIf, sNext, sAsg, sPar, sPar3, gN, bnd_ret, ret_app, bnd_grd, grd_app, sl_zero, sl_succ, slX_zero, slX_own, slX_succ, slO_zero, slO_own, slO_succ, slH_zero, slH_succ, frz_zero, frz_succ, own_zero, own_succ, onStr_str, asB_bool, asI_int, both_if, either_if, bothD_if, eitherD_if, choose_if, List.set_cons_zero, List.set_cons_succ, Bool.not_true, Bool.not_false, if_true, if_false, Bool.false_eq_true, grd_nil, h1, h2, oIn_one, h3]
        exact hq
/-! ### figures -/
def okWhole (d : Dt) (L R : List Nat) : Prop := ∃ m : Nat, d = .int (m : Nat) ∧ L = digs m ∧ m < 10 ^ 16 ∧ noDig R
theorem figs_cp (c : Nat) : c ∈ cp ("0123456789" : Str) ↔ dig c := by
  have e : cp ("0123456789" : Str) = (List.range 10).map (48 + ·) := by decide +kernel
  rw [e, List.mem_map]
  unfold dig
  constructor
  · rintro ⟨a, ha, rfl⟩
    have := List.mem_range.mp ha
    omega
  · exact fun h => ⟨c - 48, List.mem_range.mpr (by omega), by omega⟩
theorem ok_whole (F : Fc K mg) (K_end_of : Kn P w K mg base k "end_of" s_32 ["text", "at", "signs"] mEnd) (D : Df K mg "whole_at" s_33 ["text", "at"] f fd) : Kn P w K mg base (k + 1) "whole_at" s_33 ["text", "at"] (mRead okWhole) := by
  refine D.kn (FnD.of _ D.d sc_33 (fun cdv A outer s H E g hx room => have hu := hu64 room; have hu1 := hu65 room;
    (dss_cons (ds_set 2 sc_33.nd (de_k K_end_of hx room (das_cons (DE.arg (de_var 0)) (das_cons (DE.arg (de_var 1)) (das_cons (DE.arg (de_gs F.c_FIGURES)) das_nil)))))
 (dss_cons (ds_if (DW.tst (dw_or (dt_not (dt_chain op_le op_le x2_cmp x2_cmp (DE.now de_int) (DE.now (de_sub (de_var 2) (de_var 1))) (DE.now (de_gi F.c_MOST_FIGURES)))) (dw_or1 (DW.tst (dw_and (dt_cmpX (op_eqA hu) x2_eq (DE.now (de_at (dx_var 0) (dx_var 1) (fun _ _ => rfl))) (DE.now de_str) (nomark _)) (dw_and1 (dt_cmpX op_gt x2_cmp (DE.now (de_sub (de_var 2) (de_var 1))) (DE.now de_int) (nomark _)))))))) (dss_one (ds_ret de_non)) dss_nil)
 (dss_one (ds_ret (de_tup (des_cons (de_callXT call_intC xc_intC rfl F.m_int rfl (dxs_cons (DE.now (de_cut (dx_var 0) (do_some (de_var 1)) (do_some (de_var 2)))) dxs_nil)) (des_cons (de_var 2) des_nil)))))))) ?_)
  intro as n Qd W hl h
  match as, hl, h with
  | [.d (.str t), .d (.int a)], _, ⟨d, L, R, ho, rd, hq⟩ =>
    obtain ⟨m, rfl, rfl, hm, hR⟩ := ho
    obtain ⟨⟨A, ht, ha⟩, lt⟩ := rd
    rw [show slotsOf n_33 [Da.d (PyData.str t), Da.d (PyData.int a)] = [Ds.d (.str t), .d (.int a), .no] from rfl]
    simp only [sSeq, sIf, sNext, sAsg, sPar, sPar3, gN, bnd_ret, ret_app, bnd_grd, grd_app, sl_zero, sl_succ, slX_zero, slX_own, slX_succ, slO_zero, slO_own, slO_succ, slH_zero, slH_succ, frz_zero, frz_succ, own_zero, own_succ, onStr_str, asB_bool, asI_int, both_if, either_if, bothD_if, eitherD_if, choose_if, List.set_cons_zero, List.set_cons_succ, Bool.not_true, Bool.not_false, if_true, if_false, Bool.false_eq_true, grd_nil, bnd_app]
    have ld := digs_len (m := m) (k := 16) (by decide) hm
    have nd := digs_ne m
    refine ⟨rfl, digs m, R, ⟨⟨A, ht, ha⟩, lt⟩, fun c hc => (figs_cp c).mpr (digs_all m c hc), fun c hc z => hR c hc ((figs_cp c).mp z), ?_⟩
    have e1 : oI (fun _ _ => True) (fun i j => i - j) (.int (a + ((digs m).length : Nat))) (.int a) = Dl.ret (.int ((digs m).length : Nat)) := (grd_true trivial _).trans (congrArg (fun z => Dl.ret (PyData.int z)) (show a + ((digs m).length : Nat) - a = (((digs m).length : Nat) : Int) by omega))
    have l0 : 0 < (digs m).length := List.length_pos_iff.mpr nd
    have h1 : decide ((1 : Int) ≤ ((digs m).length : Nat)) = true := decide_eq_true (by omega)
    have h2 : decide ((((digs m).length : Nat) : Int) ≤ 16) = true := decide_eq_true (by omega)
    have ec : oCut (.str t) (some a) (some (a + ((digs m).length : Nat))) = Dl.ret (.str (mkS (digs m))) := by
      refine (grd_true (hsl lt) _).trans ?_
      rw [slice_mid ht ha rfl]
    have er := digs_read (m := m) (Nat.lt_of_lt_of_le hm (by decide))
    obtain ⟨c, r, hd⟩ : ∃ c r, digs m = c :: r := by
      cases e : digs m with
      | nil => exact absurd e nd
      | cons c r => exact ⟨c, r, rfl⟩
    have ea := at_sign (x := t) (A := A) (c := c) (R := r ++ R) (i := a) (by rw [ht, hd]; simp) ha (hsl lt)
    simp only [sSeq, sIf, sNext, sAsg, sPar, sPar3, gN, bnd_ret, ret_app, bnd_grd, grd_app, sl_zero, sl_succ, slX_zero, slX_own, slX_succ, slO_zero, slO_own, slO_succ, slH_zero, slH_succ, frz_zero, frz_succ, own_zero, own_succ, onStr_str, asB_bool, asI_int, both_if, either_if, bothD_if, eitherD_if, choose_if, List.set_cons_zero, List.set_cons_succ, Bool.not_true, Bool.not_false, if_true, if_false, Bool.false_eq_true, grd_nil, e1, oC, h1, h2]
    have ef : both (bnd (oAt (.str t) (.int a)) fun x => bnd (oEq x (.str "0")) asB) (Dl.ret (decide ((1 : Int) < ((digs m).length : Nat)))) = Dl.ret false := by
      simp only [sSeq, sIf, sNext, sAsg, sPar, sPar3, gN, bnd_ret, ret_app, bnd_grd, grd_app, sl_zero, sl_succ, slX_zero, slX_own, slX_succ, slO_zero, slO_own, slO_succ, slH_zero, slH_succ, frz_zero, frz_succ, own_zero, own_succ, onStr_str, asB_bool, asI_int, both_if, either_if, bothD_if, eitherD_if, choose_if, List.set_cons_zero, List.set_cons_succ, Bool.not_true, Bool.not_false, if_true, if_false, Bool.false_eq_true, grd_nil, ea, oEq_str]
      cases z : ((⟨#[c]⟩ : Str) == ("0" : Str)) with
      | false => rfl
      | true =>
        have e48 : c = 48 := by
          have y : (⟨#[c]⟩ : Str) = ("0" : Str) := by simpa using z
          have y2 := congrArg cp y
          have y3 : [c] = [48] := y2
          simpa using y3
        subst e48
        have rn := digs_head hd
        rw [hd, rn]
        rfl
    simp only [ef, sSeq, sIf, sNext, sAsg, sPar, sPar3, gN, bnd_ret, ret_app, bnd_grd, grd_app, sl_zero, sl_succ, slX_zero, slX_own, slX_succ, slO_zero, slO_own, slO_succ, slH_zero, slH_succ, frz_zero, frz_succ, own_zero, own_succ, onStr_str, asB_bool, asI_int, both_if, either_if, bothD_if, eitherD_if, choose_if, List.set_cons_zero, List.set_cons_succ, Bool.not_true, Bool.not_false, if_true, if_false, Bool.false_eq_true, grd_nil, asI, ec, er]
    exact ⟨sz 2, hq⟩
/-! ### numbers -/
def okNumber (d : Dt) (L R : List Nat) : Prop := ∃ i : Int, d = .int i ∧ L = cp ((toString i : String) : Str) ∧ -1000000000000000 ≤ i ∧ i ≤ 1000000000000000 ∧ noDig R
theorem ok_number (F : Fc K mg) (K_whole_at : Kn P w K mg base k "whole_at" s_33 ["text", "at"] (mRead okWhole)) (D : Df K mg "number_at" s_34 ["text", "at"] f fd) : Kn P w K mg base (k + 1) "number_at" s_34 ["text", "at"] (mRead okNumber) := by
  refine D.kn (FnD.of _ D.d sc_34 (fun cdv A outer s H E g hx room => have hu := hu64 room; have hu1 := hu65 room;
    (dss_cons (ds_if (dt_cmpX (op_neA hu) x2_ne (DE.now (de_at (dx_var 0) (dx_var 1) (fun _ _ => rfl))) (DE.now de_str) (nomark _)) (dss_one (ds_ret (de_k K_whole_at hx room (das_cons (DE.arg (de_var 0)) (das_cons (DE.arg (de_var 1)) das_nil))))) dss_nil)
 (dss_cons (ds_set 2 sc_34.nd (de_k K_whole_at hx room (das_cons (DE.arg (de_var 0)) (das_cons (DE.arg (de_plus (dx_var 1) (DE.now de_int))) das_nil))))
 (dss_cons (ds_if (DW.tst (dw_or (dt_cmpX op_isN x2_isN (dx_var 2) (DE.now de_non) (nomark _)) (dw_or1 (dt_cmpX (op_eqA hu) x2_eq (DE.now (de_at (dx_var 2) (DE.now de_int) (fun _ _ => rfl))) (DE.now de_int) (nomark _))))) (dss_one (ds_ret de_non)) dss_nil)
 (dss_one (ds_ret (de_tup (des_cons (de_sub de_int (de_at (dx_var 2) (DE.now de_int) (fun _ _ => rfl))) (des_cons (de_at (dx_var 2) (DE.now de_int) (fun _ _ => rfl)) des_nil))))))))) ?_)
  intro as n Qd W hl h
  match as, hl, h with
  | [.d (.str t), .d (.int a)], _, ⟨d, L, R, ho, rd, hq⟩ =>
    obtain ⟨i, rfl, rfl, h0, h1, hR⟩ := ho
    obtain ⟨⟨A, ht, ha⟩, lt⟩ := rd
    rw [show slotsOf n_34 [Da.d (PyData.str t), Da.d (PyData.int a)] = [Ds.d (.str t), .d (.int a), .no] from rfl]
    have hm : i.natAbs < 10 ^ 16 := by omega
    rw [int_cp] at ht hq
    by_cases hi : i < 0
    · rw [if_pos hi] at ht hq
      have ea := at_sign (x := t) (A := A) (c := 45) (R := digs i.natAbs ++ R) (i := a) (by rw [ht]; simp) ha (hsl lt)
      have e1 : oNe (.str ⟨#[45]⟩) (.str "-") = Dl.ret (.bool false) := by rw [oNe_str]; exact congrArg (fun b => Dl.ret (PyData.bool b)) (by decide +kernel)
      simp only [sSeq, sIf, sNext, sAsg, sPar, sPar3, gN, bnd_ret, ret_app, bnd_grd, grd_app, sl_zero, sl_succ, slX_zero, slX_own, slX_succ, slO_zero, slO_own, slO_succ, slH_zero, slH_succ, frz_zero, frz_succ, own_zero, own_succ, onStr_str, asB_bool, asI_int, both_if, either_if, bothD_if, eitherD_if, choose_if, List.set_cons_zero, List.set_cons_succ, Bool.not_true, Bool.not_false, if_true, if_false, Bool.false_eq_true, grd_nil, ea, e1, bnd_app]
      refine ⟨rfl, _, digs i.natAbs, R, ⟨i.natAbs, rfl, rfl, hm, hR⟩, ⟨⟨A ++ [45], by rw [ht]; simp, by rw [List.length_append, List.length_singleton, ha]; rfl⟩, lt⟩, ?_⟩
      have e2 : ((i.natAbs : Int) == 0) = false := by rw [beq_eq_false_iff_ne]; omega
      have e4 : oAt (.tuple [.int (i.natAbs : Nat), .int (a + 1 + ((digs i.natAbs).length : Nat))]) (.int 0) = Dl.ret (.int (i.natAbs : Nat)) := rfl
      have e5 : oAt (.tuple [.int (i.natAbs : Nat), .int (a + 1 + ((digs i.natAbs).length : Nat))]) (.int 1) = Dl.ret (.int (a + 1 + ((digs i.natAbs).length : Nat))) := rfl
      have e3 : oIsN (.tuple [.int (i.natAbs : Nat), .int (a + 1 + ((digs i.natAbs).length : Nat))]) .none = Dl.ret (.bool false) := rfl
      generalize hz : PyData.tuple [.int (i.natAbs : Nat), .int (a + 1 + ((digs i.natAbs).length : Nat))] = z at e3 e4 e5
      simp only [sSeq, sIf, sNext, sAsg, sPar, sPar3, gN, bnd_ret, ret_app, bnd_grd, grd_app, sl_zero, sl_succ, slX_zero, slX_own, slX_succ, slO_zero, slO_own, slO_succ, slH_zero, slH_succ, frz_zero, frz_succ, own_zero, own_succ, onStr_str, asB_bool, asI_int, both_if, either_if, bothD_if, eitherD_if, choose_if, List.set_cons_zero, List.set_cons_succ, Bool.not_true, Bool.not_false, if_true, if_false, Bool.false_eq_true, grd_nil, e3, e4, e5, oEq_int, e2]
      refine ⟨trivial, sz 2, ?_⟩
      have e6 : (0 : Int) - (i.natAbs : Nat) = i := by omega
      have e7 : a + ((45 :: digs i.natAbs).length : Nat) = a + 1 + ((digs i.natAbs).length : Nat) := by rw [List.length_cons]; omega
      rw [e7] at hq
      show Qd (.tuple [.int (0 - (i.natAbs : Nat)), _]) n
      rw [e6]
      exact hq
    · rw [if_neg hi] at ht hq
      obtain ⟨c, r, hd⟩ : ∃ c r, digs i.natAbs = c :: r := by
        cases e : digs i.natAbs with
        | nil => exact absurd e (digs_ne _)
        | cons c r => exact ⟨c, r, rfl⟩
      have hc := digs_all i.natAbs c (by rw [hd]; exact List.mem_cons_self)
      have ea := at_sign (x := t) (A := A) (c := c) (R := r ++ R) (i := a) (by rw [ht, hd]; simp) ha (hsl lt)
      have e1 : oNe (.str ⟨#[c]⟩) (.str "-") = Dl.ret (.bool true) := by
        rw [oNe_str]
        refine congrArg (fun b => Dl.ret (PyData.bool b)) ?_
        rw [bne_iff_ne]
        intro z
        have y : [c] = [45] := congrArg cp z
        have : c = 45 := by simpa using y
        omega
      simp only [sSeq, sIf, sNext, sAsg, sPar, sPar3, gN, bnd_ret, ret_app, bnd_grd, grd_app, sl_zero, sl_succ, slX_zero, slX_own, slX_succ, slO_zero, slO_own, slO_succ, slH_zero, slH_succ, frz_zero, frz_succ, own_zero, own_succ, onStr_str, asB_bool, asI_int, both_if, either_if, bothD_if, eitherD_if, choose_if, List.set_cons_zero, List.set_cons_succ, Bool.not_true, Bool.not_false, if_true, if_false, Bool.false_eq_true, grd_nil, ea, e1, bnd_app]
      refine ⟨rfl, _, digs i.natAbs, R, ⟨i.natAbs, rfl, rfl, hm, hR⟩, ⟨⟨A, ht, ha⟩, lt⟩, ?_⟩
      have e6 : ((i.natAbs : Nat) : Int) = i := by omega
      rw [e6]
      exact hq
/-! ### texts in quotes -/
def okQuoted (d : Dt) (L R : List Nat) : Prop := ∃ x : Str, d = .str x ∧ L = 39 :: (cp x ++ [39]) ∧ 39 ∉ cp x
theorem ok_quoted (F : Fc K mg) (D : Df K mg "quoted_at" s_35 ["text", "at"] f fd) : Kn P w K mg base (k + 1) "quoted_at" s_35 ["text", "at"] (mRead okQuoted) := by
  refine D.kn (FnD.of _ D.d sc_35 (fun cdv A outer s H E g hx room => have hu := hu64 room; have hu1 := hu65 room;
    (dss_cons (ds_set 2 sc_35.nd (de_find3 (dx_var 0) (dxs_cons (DE.now de_str) (dxs_cons (DE.now (de_plus (dx_var 1) (DE.now de_int))) dxs_nil))))
 (dss_cons (ds_if (dt_cmpX op_ltA x2_lt (dx_var 2) (DE.now de_int) (nomark _)) (dss_one (ds_ret de_non)) dss_nil)
 (dss_one (ds_ret (de_tup (des_cons (de_cut (dx_var 0) (do_some (de_plus (dx_var 1) (DE.now de_int))) (do_some (de_var 2))) (des_cons (de_plus (dx_var 2) (DE.now de_int)) des_nil)))))))) ?_)
  intro as n Qd W hl h
  match as, hl, h with
  | [.d (.str t), .d (.int a)], _, ⟨d, L, R, ho, rd, hq⟩ =>
    obtain ⟨x, rfl, rfl, hx⟩ := ho
    obtain ⟨⟨A, ht, ha⟩, lt⟩ := rd
    rw [show slotsOf n_35 [Da.d (PyData.str t), Da.d (PyData.int a)] = [Ds.d (.str t), .d (.int a), .no] from rfl]
    have ht2 : cp t = (A ++ [39]) ++ cp x ++ (39 :: R) := by rw [ht]; simp
    have hj : (cp t)[A.length + 1 + (cp x).length]? = some 39 := by
      rw [ht2, List.getElem?_append_right (by simp only [List.length_append, List.length_singleton]; omega)]
      have : A.length + 1 + (cp x).length - ((A ++ [39]) ++ cp x).length = 0 := by simp only [List.length_append, List.length_singleton]; omega
      rw [this]
      rfl
    have ef : Txt.find3 t ⟨#[39]⟩ (a + 1) = ((A.length + 1 + (cp x).length : Nat) : Int) := by
      refine find3_first (by omega) hj (by omega) fun q h1 h2 e => ?_
      rw [ht2, List.append_assoc, List.getElem?_append_right (by simp only [List.length_append, List.length_singleton]; omega), List.getElem?_append_left (by simp only [List.length_append, List.length_singleton]; omega)] at e
      exact hx (List.mem_of_getElem? e)
    have ec : oCut (.str t) (some (a + 1)) (some ((A.length + 1 + (cp x).length : Nat) : Int)) = Dl.ret (.str x) := by
      refine (grd_true (hsl lt) _).trans ?_
      rw [slice_mid (i := a + 1) (j := ((A.length + 1 + (cp x).length : Nat) : Int)) ht2 (by simp; omega) (by omega), mkS_cp]
    have e39 : ("'" : Str) = ⟨#[39]⟩ := by decide +kernel
    simp only [sSeq, sIf, sNext, sAsg, sPar, sPar3, gN, bnd_ret, ret_app, bnd_grd, grd_app, sl_zero, sl_succ, slX_zero, slX_own, slX_succ, slO_zero, slO_own, slO_succ, slH_zero, slH_succ, frz_zero, frz_succ, own_zero, own_succ, onStr_str, asB_bool, asI_int, both_if, either_if, bothD_if, eitherD_if, choose_if, List.set_cons_zero, List.set_cons_succ, Bool.not_true, Bool.not_false, if_true, if_false, Bool.false_eq_true, grd_nil, bnd_app, onStr, oFind3, e39, ef, oLt, oC, oPlus, asI, ec]
    have hneg : decide (((A.length + 1 + (cp x).length : Nat) : Int) < 0) = false := decide_eq_false (by omega)
    simp only [sSeq, sIf, sNext, sAsg, sPar, sPar3, gN, bnd_ret, ret_app, bnd_grd, grd_app, sl_zero, sl_succ, slX_zero, slX_own, slX_succ, slO_zero, slO_own, slO_succ, slH_zero, slH_succ, frz_zero, frz_succ, own_zero, own_succ, onStr_str, asB_bool, asI_int, both_if, either_if, bothD_if, eitherD_if, choose_if, List.set_cons_zero, List.set_cons_succ, Bool.not_true, Bool.not_false, if_true, if_false, Bool.false_eq_true, grd_nil, hneg, ec]
    refine ⟨sz 2, ?_⟩
    have e7 : a + ((39 :: (cp x ++ [39])).length : Nat) = ((A.length + 1 + (cp x).length : Nat) : Int) + 1 := by rw [List.length_cons, List.length_append, List.length_singleton]; omega
    rw [e7] at hq
    exact hq
/-! ### things -/
def okThing (d : Dt) (L R : List Nat) : Prop := ∃ m : Nat, d = .tuple [.str "thing", .int (m : Nat)] ∧ L = 35 :: digs m ∧ m < 10 ^ 16 ∧ noDig R
theorem ok_thing (F : Fc K mg) (K_whole_at : Kn P w K mg base k "whole_at" s_33 ["text", "at"] (mRead okWhole)) (D : Df K mg "thing_at" s_37 ["text", "at"] f fd) : Kn P w K mg base (k + 1) "thing_at" s_37 ["text", "at"] (mRead okThing) := by
  refine D.kn (FnD.of _ D.d sc_37 (fun cdv A outer s H E g hx room => have hu := hu64 room; have hu1 := hu65 room;
    (dss_cons (ds_set 2 sc_37.nd (de_k K_whole_at hx room (das_cons (DE.arg (de_var 0)) (das_cons (DE.arg (de_plus (dx_var 1) (DE.now de_int))) das_nil))))
 (dss_one (ds_ret (de_if (dt_cmpX op_isN x2_isN (dx_var 2) (DE.now de_non) (nomark _)) de_non (de_tup (des_cons (de_tup (des_cons (de_gs F.c_THING) (des_cons (de_at (dx_var 2) (DE.now de_int) (fun _ _ => rfl)) des_nil))) (des_cons (de_at (dx_var 2) (DE.now de_int) (fun _ _ => rfl)) des_nil)))))))) ?_)
  intro as n Qd W hl h
  match as, hl, h with
  | [.d (.str t), .d (.int a)], _, ⟨d, L, R, ho, rd, hq⟩ =>
    obtain ⟨m, rfl, rfl, hm, hR⟩ := ho
    obtain ⟨⟨A, ht, ha⟩, lt⟩ := rd
    rw [show slotsOf n_37 [Da.d (PyData.str t), Da.d (PyData.int a)] = [Ds.d (.str t), .d (.int a), .no] from rfl]
    simp only [sSeq, sIf, sNext, sAsg, sPar, sPar3, gN, bnd_ret, ret_app, bnd_grd, grd_app, sl_zero, sl_succ, slX_zero, slX_own, slX_succ, slO_zero, slO_own, slO_succ, slH_zero, slH_succ, frz_zero, frz_succ, own_zero, own_succ, onStr_str, asB_bool, asI_int, both_if, either_if, bothD_if, eitherD_if, choose_if, List.set_cons_zero, List.set_cons_succ, Bool.not_true, Bool.not_false, if_true, if_false, Bool.false_eq_true, grd_nil, bnd_app]
    refine ⟨rfl, _, digs m, R, ⟨m, rfl, rfl, hm, hR⟩, ⟨⟨A ++ [35], by rw [ht]; simp, by rw [List.length_append, List.length_singleton, ha]; rfl⟩, lt⟩, ?_⟩
    have e4 : oAt (.tuple [.int (m : Nat), .int (a + 1 + ((digs m).length : Nat))]) (.int 0) = Dl.ret (.int (m : Nat)) := rfl
    have e5 : oAt (.tuple [.int (m : Nat), .int (a + 1 + ((digs m).length : Nat))]) (.int 1) = Dl.ret (.int (a + 1 + ((digs m).length : Nat))) := rfl
    have e3 : oIsN (.tuple [.int (m : Nat), .int (a + 1 + ((digs m).length : Nat))]) .none = Dl.ret (.bool false) := rfl
    have e7 : a + ((35 :: digs m).length : Nat) = a + 1 + ((digs m).length : Nat) := by rw [List.length_cons]; omega
    rw [e7] at hq
    generalize hz : PyData.tuple [.int (m : Nat), .int (a + 1 + ((digs m).length : Nat))] = z at e3 e4 e5
    simp only [sSeq, sIf, sNext, sAsg, sPar, sPar3, gN, bnd_ret, ret_app, bnd_grd, grd_app, sl_zero, sl_succ, slX_zero, slX_own, slX_succ, slO_zero, slO_own, slO_succ, slH_zero, slH_succ, frz_zero, frz_succ, own_zero, own_succ, onStr_str, asB_bool, asI_int, both_if, either_if, bothD_if, eitherD_if, choose_if, List.set_cons_zero, List.set_cons_succ, Bool.not_true, Bool.not_false, if_true, if_false, Bool.false_eq_true, grd_nil, e3, e4, e5]
    exact ⟨sz 2, sz 2, hq⟩
end
end Ev
namespace Ev
open PySem PySem.Spec L2 Dl
open PyProof.Rows hiding St
section
variable {P : Program} {w : World} {K : PySem.W.Frag} {mg : Str → Option Value} {base : Heap} {f : Addr} {fd : FuncData} {k : Nat}
/-! ### words -/
theorem let_cp (c : Nat) : c ∈ cp ("abcdefghijklmnopqrstuvwxyz" : Str) ↔ 97 ≤ c ∧ c ≤ 122 := by
  show c ∈ cp letters ↔ _
  rw [letters_cp, List.mem_map]
  constructor
  · rintro ⟨a, ha, rfl⟩
    have := List.mem_range.mp ha
    omega
  · exact fun h => ⟨c - 97, List.mem_range.mpr (by omega), by omega⟩
def okWord (d : Dt) (L R : List Nat) : Prop := L = leafL d ∧ stop R ∧ (d = .none ∨ (∃ b, d = .bool b) ∨ ∃ x y z, d = .tuple [.str x, .str y, .str z] ∧ (x = "deed" ∨ x = "kind") ∧ isName (.str y) = true ∧ isName (.str z) = true)
/-- the sign behind -/
theorem sign_stop {t : Str} {A R : List Nat} {i : Int} (h : cp t = A ++ R) (hi : i = A.length) (hR : stop R) (lt : t.length ≤ 100000) : ∃ z : Str, oCut (.str t) (some i) (some (i + 1)) = Dl.ret (.str z) ∧ (z = mkS [] ∨ z = ⟨#[32]⟩ ∨ z = ⟨#[93]⟩) := by
  cases R with
  | nil =>
    refine ⟨mkS [], (grd_true (hsl lt) _).trans ?_, .inl rfl⟩
    rw [slice_end (x := t) (A := A) (by rw [h, List.append_nil]) hi rfl]
  | cons c R =>
    refine ⟨⟨#[c]⟩, (grd_true (hsl lt) _).trans ?_, .inr ?_⟩
    · rw [slice_one h hi rfl]
    · rcases hR c rfl with rfl | rfl
      · exact .inl rfl
      · exact .inr rfl
theorem sorts_none {z : Str} (h : z = mkS [] ∨ z = ⟨#[32]⟩ ∨ z = ⟨#[93]⟩) : oTabIn tab_SORTS (.str z) = Dl.ret (.bool false) := by
  rcases h with rfl | rfl | rfl <;> exact congrArg (fun b => Dl.ret (PyData.bool b)) (by decide +kernel)
theorem ok_word (F : Fc K mg) (T : Ft K w mg) (K_end_of : Kn P w K mg base k "end_of" s_32 ["text", "at", "signs"] mEnd) (D : Df K mg "word_at" s_38 ["text", "at"] f fd) : Kn P w K mg base (k + 1) "word_at" s_38 ["text", "at"] (mRead okWord) := by
  refine D.kn (FnD.of _ D.d sc_38 (fun cdv A outer s H E g hx room => have hu := hu64 room; have hu1 := hu65 room;
    (dss_cons (ds_set 2 sc_38.nd (de_k K_end_of hx room (das_cons (DE.arg (de_var 0)) (das_cons (DE.arg (de_var 1)) (das_cons (DE.arg (de_gs F.c_LETTERS)) das_nil)))))
 (dss_cons (ds_par 3 4 rfl sc_38.nd (DE.val (de_cut (dx_var 0) (do_some (de_var 1)) (do_some (de_var 2)))) (DE.val (de_cut (dx_var 0) (do_some (de_var 2)) (do_some (de_plus (dx_var 2) (DE.now de_int))))))
 (dss_cons (ds_if (dt_inC T.t_SORTS (dx_var 4)) (dss_cons (ds_set 5 sc_38.nd (de_k K_end_of hx room (das_cons (DE.arg (de_var 0)) (das_cons (DE.arg (de_plus (dx_var 2) (DE.now de_int))) (das_cons (DE.arg (de_gs F.c_LETTERS)) das_nil)))))
 (dss_one (ds_ret (de_tup (des_cons (de_tup (des_cons (de_atC T.t_SORTS (dx_var 4) (fun _ _ => rfl)) (des_cons (de_var 3) (des_cons (de_cut (dx_var 0) (do_some (de_plus (dx_var 2) (DE.now de_int))) (do_some (de_var 5))) des_nil)))) (des_cons (de_var 5) des_nil)))))) dss_nil)
 (dss_one (ds_ret (de_if (dt_inC T.t_WORDS (dx_var 3)) (de_tup (des_cons (de_atC T.t_WORDS (dx_var 3) (fun _ _ => rfl)) (des_cons (de_var 2) des_nil))) de_non))))))) ?_)
  intro as n Qd W hl h
  match as, hl, h with
  | [.d (.str t), .d (.int a)], _, ⟨d, L, R, ho, rd, hq⟩ =>
    obtain ⟨rfl, hR, hd⟩ := ho
    obtain ⟨⟨A, ht, ha⟩, lt⟩ := rd
    rw [show slotsOf n_38 [Da.d (PyData.str t), Da.d (PyData.int a)] = [Ds.d (.str t), .d (.int a), .no, .no, .no, .no] from rfl]
    simp only [sSeq, sIf, sNext, sAsg, sPar, sPar3, gN, bnd_ret, ret_app, bnd_grd, grd_app, sl_zero, sl_succ, slX_zero, slX_own, slX_succ, slO_zero, slO_own, slO_succ, slH_zero, slH_succ, frz_zero, frz_succ, own_zero, own_succ, onStr_str, asB_bool, asI_int, both_if, either_if, bothD_if, eitherD_if, choose_if, List.set_cons_zero, List.set_cons_succ, Bool.not_true, Bool.not_false, if_true, if_false, Bool.false_eq_true, grd_nil, bnd_app]
    have nl : ∀ c, R.head? = some c → c ∉ cp ("abcdefghijklmnopqrstuvwxyz" : Str) := fun c hc z => by
      have := (let_cp c).mp z
      rcases hR c hc with rfl | rfl <;> omega
    have hd : (∃ x : Str, cp x = leafL d ∧ (∀ c ∈ leafL d, c ∈ cp ("abcdefghijklmnopqrstuvwxyz" : Str)) ∧ tab_WORDS.lookup x = some d) ∨ ∃ x y z, d = .tuple [.str x, .str y, .str z] ∧ (x = "deed" ∨ x = "kind") ∧ isName (.str y) = true ∧ isName (.str z) = true := by
      rcases hd with rfl | ⟨b, rfl⟩ | h
      · exact .inl ⟨"none", by decide +kernel, by decide +kernel, by rfl⟩
      · cases b
        · exact .inl ⟨"no", by decide +kernel, by decide +kernel, by rfl⟩
        · exact .inl ⟨"yes", by decide +kernel, by decide +kernel, by rfl⟩
      · exact .inr h
    rcases hd with ⟨x, ex, lx, kx⟩ | ⟨x, y, z, rfl, hxx, hy, hz⟩
    · refine ⟨rfl, leafL d, R, ⟨⟨A, ht, ha⟩, lt⟩, lx, nl, ?_⟩
      have ec : oCut (.str t) (some a) (some (a + ((leafL d).length : Nat))) = Dl.ret (.str x) := by
        refine (grd_true (hsl lt) _).trans ?_
        rw [slice_mid ht ha rfl, ← ex, mkS_cp]
      obtain ⟨z, ez, hz⟩ := sign_stop (t := t) (A := A ++ leafL d) (i := a + ((leafL d).length : Nat)) (by rw [ht]) (by rw [List.length_append, ha]; rfl) hR lt
      have ew : oTabIn tab_WORDS (.str x) = Dl.ret (.bool true) := by
        show Dl.ret (PyData.bool (tab_WORDS.lookup x).isSome) = _
        rw [kx]
        rfl
      have ea : oTabAt tab_WORDS (.str x) = Dl.ret d := by
        show (match tab_WORDS.lookup x with | some v => Dl.ret v | none => bad : Mv Dt) = _
        rw [kx]
      simp only [sSeq, sIf, sNext, sAsg, sPar, sPar3, gN, bnd_ret, ret_app, bnd_grd, grd_app, sl_zero, sl_succ, slX_zero, slX_own, slX_succ, slO_zero, slO_own, slO_succ, slH_zero, slH_succ, frz_zero, frz_succ, own_zero, own_succ, onStr_str, asB_bool, asI_int, both_if, either_if, bothD_if, eitherD_if, choose_if, List.set_cons_zero, List.set_cons_succ, Bool.not_true, Bool.not_false, if_true, if_false, Bool.false_eq_true, grd_nil, asI, ec, ez, oPlus, sorts_none hz, ew, ea]
      exact ⟨sz 2, hq⟩
    · obtain ⟨c, z', hc, es, et, eL⟩ : ∃ (c : Nat) (_ : Unit), (c = 46 ∨ c = 58) ∧ oTabIn tab_SORTS (.str ⟨#[c]⟩) = Dl.ret (.bool true) ∧ oTabAt tab_SORTS (.str ⟨#[c]⟩) = Dl.ret (.str x) ∧ leafL (.tuple [.str x, .str y, .str z]) = cp y ++ c :: cp z := by
        rcases hxx with rfl | rfl
        · exact ⟨46, (), .inl rfl, congrArg (fun b => Dl.ret (PyData.bool b)) (by decide +kernel), rfl, rfl⟩
        · exact ⟨58, (), .inr rfl, congrArg (fun b => Dl.ret (PyData.bool b)) (by decide +kernel), rfl, by show cp y ++ (if ("kind" : Str) = ("deed" : Str) then 46 else 58) :: cp z = _; rw [if_neg (by decide +kernel)]⟩
      rw [eL] at ht hq
      have hy := (name_iff y).mp hy
      have hz := (name_iff z).mp hz
      have ht1 : cp t = A ++ cp y ++ (c :: (cp z ++ R)) := by rw [ht]; simp
      have ht2 : cp t = (A ++ cp y ++ [c]) ++ cp z ++ R := by rw [ht]; simp
      refine ⟨rfl, cp y, c :: (cp z ++ R), ⟨⟨A, ht1, ha⟩, lt⟩, fun q hq => (let_cp q).mpr (hy.2.2 q hq), fun q hq z => ?_, ?_⟩
      · have e : c = q := by simpa using hq
        have := (let_cp q).mp z
        omega
      have ec : oCut (.str t) (some a) (some (a + ((cp y).length : Nat))) = Dl.ret (.str y) := by
        refine (grd_true (hsl lt) _).trans ?_
        rw [slice_mid ht1 ha rfl, mkS_cp]
      have ez : oCut (.str t) (some (a + ((cp y).length : Nat))) (some (a + ((cp y).length : Nat) + 1)) = Dl.ret (.str ⟨#[c]⟩) := by
        refine (grd_true (hsl lt) _).trans ?_
        rw [slice_one (x := t) (A := A ++ cp y) (R := cp z ++ R) (i := a + ((cp y).length : Nat)) ht1 (by rw [List.length_append, ha]; rfl) rfl]
      simp only [sSeq, sIf, sNext, sAsg, sPar, sPar3, gN, bnd_ret, ret_app, bnd_grd, grd_app, sl_zero, sl_succ, slX_zero, slX_own, slX_succ, slO_zero, slO_own, slO_succ, slH_zero, slH_succ, frz_zero, frz_succ, own_zero, own_succ, onStr_str, asB_bool, asI_int, both_if, either_if, bothD_if, eitherD_if, choose_if, List.set_cons_zero, List.set_cons_succ, Bool.not_true, Bool.not_false, if_true, if_false, Bool.false_eq_true, grd_nil, asI, ec, ez, oPlus, es]
      refine ⟨rfl, cp z, R, ⟨⟨A ++ cp y ++ [c], ht2, by simp only [List.length_append, List.length_singleton]; omega⟩, lt⟩, fun q hq => (let_cp q).mpr (hz.2.2 q hq), nl, ?_⟩
      have e2 : oCut (.str t) (some (a + ((cp y).length : Nat) + 1)) (some (a + ((cp y).length : Nat) + 1 + ((cp z).length : Nat))) = Dl.ret (.str z) := by
        refine (grd_true (hsl lt) _).trans ?_
        rw [slice_mid ht2 (by simp only [List.length_append, List.length_singleton]; omega) rfl, mkS_cp]
      simp only [sSeq, sIf, sNext, sAsg, sPar, sPar3, gN, bnd_ret, ret_app, bnd_grd, grd_app, sl_zero, sl_succ, slX_zero, slX_own, slX_succ, slO_zero, slO_own, slO_succ, slH_zero, slH_succ, frz_zero, frz_succ, own_zero, own_succ, onStr_str, asB_bool, asI_int, both_if, either_if, bothD_if, eitherD_if, choose_if, List.set_cons_zero, List.set_cons_succ, Bool.not_true, Bool.not_false, if_true, if_false, Bool.false_eq_true, grd_nil, et, asI, e2]
      refine ⟨sz 3, sz 2, ?_⟩
      have e7 : a + ((cp y ++ c :: cp z).length : Nat) = a + ((cp y).length : Nat) + 1 + ((cp z).length : Nat) := by rw [List.length_append, List.length_cons]; omega
      rw [e7] at hq
      exact hq
/-! ### the first sign of a worth's text -/
theorem name_head {x : Str} (h : isName (.str x) = true) : ∃ c r, cp x = c :: r ∧ 97 ≤ c ∧ c ≤ 122 := by
  have hz := (name_iff x).mp h
  cases e : cp x with
  | nil =>
    have := hz.1
    rw [len_cp, e] at this
    exact absurd this (by decide)
  | cons c r => exact ⟨c, r, rfl, hz.2.2 c (by rw [e]; exact List.mem_cons_self)⟩
theorem int_head (i : Int) : ∃ c r, cp ((toString i : String) : Str) = c :: r ∧ (c = 45 ∨ dig c) := by
  rw [int_cp]
  obtain ⟨c, r, hd⟩ : ∃ c r, digs i.natAbs = c :: r := by
    cases e : digs i.natAbs with
    | nil => exact absurd e (digs_ne _)
    | cons c r => exact ⟨c, r, rfl⟩
  split
  · exact ⟨45, _, rfl, .inl rfl⟩
  · exact ⟨c, r, hd, .inr (digs_all i.natAbs c (by rw [hd]; exact List.mem_cons_self))⟩
theorem tl_head {d : Dt} (h : wellD d = true) : ∃ c r, tl d = c :: r ∧ c ≠ 93 := by
  cases hr : rowOf d with
  | some ps => exact ⟨91, _, tl_row hr, by decide⟩
  | none =>
    rw [tl_leaf hr]
    have gd := well_leaf hr h
    cases d with
    | none => exact ⟨_, _, rfl, by decide⟩
    | bool b => cases b <;> exact ⟨_, _, rfl, by decide⟩
    | int i =>
      obtain ⟨c, r, e, hc⟩ := int_head i
      exact ⟨c, r, e, by unfold dig at hc; omega⟩
    | str x => exact ⟨_, _, rfl, by decide⟩
    | tuple xs =>
      rcases named_cases (lg_tup gd) with ⟨i, e, gi⟩ | ⟨a, b, c, e, ha, hb, hc⟩
      · cases e
        exact ⟨35, _, rfl, by decide⟩
      · cases e
        obtain ⟨q, r, e, hq⟩ := name_head hb
        refine ⟨q, r ++ (if a = ("deed" : Str) then 46 else 58) :: cp c, ?_, by omega⟩
        show cp b ++ _ = _
        rw [e]
        rfl
    | list xs => exact absurd (leafGood_S gd) Bool.false_ne_true
    | dict es => exact absurd (leafGood_S gd) Bool.false_ne_true
theorem eq_one (c d : Nat) : oEq (.str ⟨#[c]⟩) (.str ⟨#[d]⟩) = Dl.ret (.bool (decide (c = d))) := by
  rw [oEq_str]
  refine congrArg (fun b => Dl.ret (PyData.bool b)) ?_
  by_cases h : c = d
  · subst h
    simp
  · rw [decide_eq_false h, beq_eq_false_iff_ne]
    intro z
    have y : [c] = [d] := congrArg cp z
    exact h (by simpa using y)
theorem ne_one (c d : Nat) : oNe (.str ⟨#[c]⟩) (.str ⟨#[d]⟩) = Dl.ret (.bool (!decide (c = d))) := by
  rw [oNe_str]
  refine congrArg (fun b => Dl.ret (PyData.bool b)) ?_
  by_cases h : c = d
  · subst h
    simp
  · rw [decide_eq_false h, Bool.not_false, bne_iff_ne]
    intro z
    have y : [c] = [d] := congrArg cp z
    exact h (by simpa using y)
theorem wids_mem : ∀ {ps : List Dt}, wids ps = true → ∀ p ∈ ps, wid p = true
  | p :: ps, h, q, hq => by
    rw [wids, Bool.and_eq_true] at h
    rcases List.mem_cons.mp hq with rfl | hq
    · exact h.1
    · exact wids_mem h.2 q hq
/-! ### worths, rows -/
def okWorth (j : Nat) (d : Dt) (L R : List Nat) : Prop := L = tl d ∧ stop R ∧ wellD d = true ∧ dep d ≤ j ∧ wid d = true
def okRow (j : Nat) (d : Dt) (L R : List Nat) : Prop := ∃ ps, d = .tuple [.str "row", .tuple ps] ∧ L = 91 :: (tls ps ++ [93]) ∧ wellsD ps = true ∧ 1 + deps ps ≤ j ∧ ps.length ≤ 50 ∧ wids ps = true
theorem ok_row {j : Nat} {mR : List Da → Mv Dt} (hR : ∀ i, j = i + 1 → mR = mRead (okWorth i)) (F : Fc K mg) (K_worth_at : Kn P w K mg base k "worth_at" s_39 ["text", "at"] mR) (D : Df K mg "row_at" s_36 ["text", "at"] f fd) : Kn P w K mg base (k + 1) "row_at" s_36 ["text", "at"] (mRead (okRow j)) := by
  refine D.kn (FnD.of _ D.d sc_36 (fun cdv A outer s H E g hx room => have hu := hu64 room; have hu1 := hu65 room;
    (dss_cons (ds_par 2 3 rfl sc_36.nd (DN.val (dn_lst des_nil)) (DE.val (de_plus (dx_var 1) (DE.now de_int))))
 (dss_cons (ds_if (dt_cmpX (op_eqA hu) x2_eq (DE.now (de_cut (dx_var 0) (do_some (de_var 3)) (do_some (de_plus (dx_var 3) (DE.now de_int))))) (DE.now de_str) (nomark _)) (dss_one (ds_ret (de_tup (des_cons (de_tup (des_cons (de_gs F.c_ROW) (des_cons (de_tup des_nil) des_nil))) (des_cons (de_plus (dx_var 3) (DE.now de_int)) des_nil))))) dss_nil)
 (dss_cons (ds_while hx (dt_cmpX op_ltA x2_lt (dx_var 3) (DE.now (de_callX call_len xc_len rfl F.m_len rfl (dxs_cons (dx_var 0) dxs_nil))) (nomark _)) (dss_cons (ds_set 4 sc_36.nd (de_k K_worth_at hx room (das_cons (DE.arg (de_var 0)) (das_cons (DE.arg (de_var 3)) das_nil))))
 (dss_cons (ds_if (dt_cmpX op_isN x2_isN (dx_var 4) (DE.now de_non) (nomark _)) (dss_one (ds_ret de_non)) dss_nil)
 (dss_cons (ds_asg (de_var 4) (dg_tup (k := 2) rfl (dgs_cons (dg_name 5 sc_36.nd) (dgs_cons (dg_name 3 sc_36.nd) dgs_nil))))
 (dss_cons (ds_append 2 (de_var 5))
 (dss_cons (ds_if (dt_cmpX (op_eqA hu) x2_eq (DE.now (de_cut (dx_var 0) (do_some (de_var 3)) (do_some (de_plus (dx_var 3) (DE.now de_int))))) (DE.now de_str) (nomark _)) (dss_one (ds_ret (de_tup (des_cons (de_tup (des_cons (de_gs F.c_ROW) (des_cons (de_tupleC rfl F.m_tuple (dx_var 2)) des_nil))) (des_cons (de_plus (dx_var 3) (DE.now de_int)) des_nil))))) dss_nil)
 (dss_cons (ds_if (dt_cmpX (op_neA hu) x2_ne (DE.now (de_cut (dx_var 0) (do_some (de_var 3)) (do_some (de_plus (dx_var 3) (DE.now de_int))))) (DE.now de_str) (nomark _)) (dss_one (ds_ret de_non)) dss_nil)
 (dss_one (ds_aug 3 ip_add sc_36.nd de_int)))))))))
 (dss_one (ds_ret de_non)))))) ?_)
  intro as n Qd W hl h
  match as, hl, h with
  | [.d (.str t), .d (.int a)], _, ⟨d, L, R, ho, rd, hq⟩ =>
    obtain ⟨ps, rfl, rfl, gps, hj, l50, hws⟩ := ho
    obtain ⟨⟨A, ht, ha⟩, lt⟩ := rd
    rw [show slotsOf n_36 [Da.d (PyData.str t), Da.d (PyData.int a)] = [Ds.d (.str t), .d (.int a), .no, .no, .no, .no] from rfl]
    obtain ⟨i, rfl⟩ : ∃ i, j = i + 1 := ⟨j - 1, by omega⟩
    rw [hR i rfl]
    have e93 : ("]" : Str) = ⟨#[93]⟩ := by decide +kernel
    have e32 : (" " : Str) = ⟨#[32]⟩ := by decide +kernel
    have asi : ∀ i : Int, asI (.int i) = Dl.ret (some i) := fun _ => rfl
    have pl : ∀ i j : Int, oPlus (.int i) (.int j) = Dl.ret (.int (i + j)) := fun _ _ => rfl
    simp only [sSeq, sIf, sNext, sAsg, sPar, sPar3, gN, bnd_ret, ret_app, bnd_grd, grd_app, sl_zero, sl_succ, slX_zero, slX_own, slX_succ, slO_zero, slO_own, slO_succ, slH_zero, slH_succ, frz_zero, frz_succ, own_zero, own_succ, onStr_str, asB_bool, asI_int, both_if, either_if, bothD_if, eitherD_if, choose_if, List.set_cons_zero, List.set_cons_succ, Bool.not_true, Bool.not_false, if_true, if_false, Bool.false_eq_true, grd_nil, bnd_app, pl, asi, sWhile, e93, e32]
    cases ps with
    | nil =>
      rw [tls_nil] at ht hq
      have ec : oCut (.str t) (some (a + 1)) (some (a + 1 + 1)) = Dl.ret (.str ⟨#[93]⟩) := by
        refine (grd_true (hsl lt) _).trans ?_
        rw [slice_one (x := t) (A := A ++ [91]) (c := 93) (R := R) (by rw [ht]; simp) (by rw [List.length_append, List.length_singleton, ha]; rfl) rfl]
      simp only [sSeq, sIf, sNext, sAsg, sPar, sPar3, gN, bnd_ret, ret_app, bnd_grd, grd_app, sl_zero, sl_succ, slX_zero, slX_own, slX_succ, slO_zero, slO_own, slO_succ, slH_zero, slH_succ, frz_zero, frz_succ, own_zero, own_succ, onStr_str, asB_bool, asI_int, both_if, either_if, bothD_if, eitherD_if, choose_if, List.set_cons_zero, List.set_cons_succ, Bool.not_true, Bool.not_false, if_true, if_false, Bool.false_eq_true, grd_nil, ec, eq_one, decide_eq_true rfl]
      refine ⟨sz 2, sz 2, ?_⟩
      have e7 : a + ((91 :: ([] ++ [93]) : List Nat).length : Nat) = a + 1 + 1 := by
        show a + 2 = _
        omega
      rw [e7] at hq
      exact hq
    | cons p0 ps0 =>
      obtain ⟨c, r, ecr, hc93⟩ := tl_head (wells_mem gps p0 List.mem_cons_self)
      have etl : ∃ r', tls (p0 :: ps0) = c :: r' := by
        cases ps0 with
        | nil => rw [tls_one, ecr]; exact ⟨r, rfl⟩
        | cons q qs => rw [tls_cons, ecr]; exact ⟨_, rfl⟩
      obtain ⟨r', etl⟩ := etl
      have ec : oCut (.str t) (some (a + 1)) (some (a + 1 + 1)) = Dl.ret (.str ⟨#[c]⟩) := by
        refine (grd_true (hsl lt) _).trans ?_
        rw [slice_one (x := t) (A := A ++ [91]) (c := c) (R := r' ++ [93] ++ R) (by rw [ht, etl]; simp) (by rw [List.length_append, List.length_singleton, ha]; rfl) rfl]
      simp only [sSeq, sIf, sNext, sAsg, sPar, sPar3, gN, bnd_ret, ret_app, bnd_grd, grd_app, sl_zero, sl_succ, slX_zero, slX_own, slX_succ, slO_zero, slO_own, slO_succ, slH_zero, slH_succ, frz_zero, frz_succ, own_zero, own_succ, onStr_str, asB_bool, asI_int, both_if, either_if, bothD_if, eitherD_if, choose_if, List.set_cons_zero, List.set_cons_succ, Bool.not_true, Bool.not_false, if_true, if_false, Bool.false_eq_true, grd_nil, ec, eq_one, decide_eq_false hc93]
      have hsz : ∀ m : Nat, m ≤ 50 → m < sizeLine := fun m h => Nat.lt_of_le_of_lt h (by decide)
      have hlen0 : t.length = A.length + (1 + ((tls (p0 :: ps0)).length + 1)) + R.length := by
        rw [len_cp, ht]
        simp only [List.length_append, List.length_cons, List.length_nil]
        omega
      refine ⟨fun m δ n' => n' = n ∧ ∃ (A' : List Nat) (done rest : List Dt) (e1 e2 : Ds), p0 :: ps0 = done ++ rest ∧ rest ≠ [] ∧ cp t = A' ++ tls rest ++ (93 :: R) ∧ δ = [.d (.str t), .d (.int a), .own done, .d (.int (A'.length : Nat)), e1, e2] ∧ m = rest.length,
        ⟨_, rfl, A ++ [91], [], p0 :: ps0, _, _, rfl, (fun z => nomatch z), by rw [ht]; simp, by rw [List.length_append, List.length_singleton, ha]; rfl, rfl⟩, ?_⟩
      rintro m δ n' ⟨rfl, A', done, rest, e1, e2, hps, hne, ht', rfl, rfl⟩
      have hlen : t.length = A'.length + (tls rest).length + 1 + R.length := by
        rw [len_cp, ht']
        simp only [List.length_append, List.length_cons]
        omega
      have ol : oLen [.str t] = Dl.ret (.int (t.length : Nat)) := grd_true (hsl lt) _
      have h1 : decide (((A'.length : Nat) : Int) < ((t.length : Nat) : Int)) = true := decide_eq_true (by omega)
      simp only [sSeq, sIf, sNext, sAsg, sPar, sPar3, gN, bnd_ret, ret_app, bnd_grd, grd_app, sl_zero, sl_succ, slX_zero, slX_own, slX_succ, slO_zero, slO_own, slO_succ, slH_zero, slH_succ, frz_zero, frz_succ, own_zero, own_succ, onStr_str, asB_bool, asI_int, both_if, either_if, bothD_if, eitherD_if, choose_if, List.set_cons_zero, List.set_cons_succ, Bool.not_true, Bool.not_false, if_true, if_false, Bool.false_eq_true, grd_nil, ol, oLt, oC, h1]
      have hl50 : done.length + rest.length ≤ 50 := by
        rw [← List.length_append, ← hps]
        exact l50
      cases rest with
      | nil => exact absurd rfl hne
      | cons p rest =>
        have mp : p ∈ p0 :: ps0 := by rw [hps]; simp
        have wp := wells_mem gps p mp
        have dp : dep p ≤ i := by
          have : ∀ {l : List Dt} {x : Dt}, x ∈ l → dep x ≤ deps l := by
            intro l
            induction l with
            | nil => exact fun h => nomatch h
            | cons y l ih =>
              intro x hx
              rw [deps]
              rcases List.mem_cons.mp hx with rfl | hx
              · exact Nat.le_max_left _ _
              · exact Nat.le_trans (ih hx) (Nat.le_max_right _ _)
          have := this mp
          omega
        cases rest with
        | nil =>
          rw [tls_one] at ht' hlen
          refine ⟨rfl, p, tl p, 93 :: R, ⟨rfl, fun c hc => .inr (show (93 : Nat) = c by simpa using hc).symm, wp, dp, wids_mem hws p mp⟩, ⟨⟨A', ht', rfl⟩, lt⟩, ?_⟩
          have en : oIsN (.tuple [p, .int ((A'.length : Nat) + ((tl p).length : Nat))]) .none = Dl.ret (.bool false) := rfl
          have e9 : oCut (.str t) (some (((A'.length : Nat) : Int) + ((tl p).length : Nat))) (some (((A'.length : Nat) : Int) + ((tl p).length : Nat) + 1)) = Dl.ret (.str ⟨#[93]⟩) := by
            refine (grd_true (hsl lt) _).trans ?_
            rw [slice_one (x := t) (A := A' ++ tl p) (c := 93) (R := R) (by rw [ht']) (by rw [List.length_append]; rfl) rfl]
          simp only [sSeq, sIf, sNext, sAsg, sPar, sPar3, gN, bnd_ret, ret_app, bnd_grd, grd_app, sl_zero, sl_succ, slX_zero, slX_own, slX_succ, slO_zero, slO_own, slO_succ, slH_zero, slH_succ, frz_zero, frz_succ, own_zero, own_succ, onStr_str, asB_bool, asI_int, both_if, either_if, bothD_if, eitherD_if, choose_if, List.set_cons_zero, List.set_cons_succ, Bool.not_true, Bool.not_false, if_true, if_false, Bool.false_eq_true, grd_nil, en]
          refine ⟨rfl, ?_⟩
          simp only [gsCons, gsNil, sSeq, sIf, sNext, sAsg, sPar, sPar3, gN, bnd_ret, ret_app, bnd_grd, grd_app, sl_zero, sl_succ, slX_zero, slX_own, slX_succ, slO_zero, slO_own, slO_succ, slH_zero, slH_succ, frz_zero, frz_succ, own_zero, own_succ, onStr_str, asB_bool, asI_int, both_if, either_if, bothD_if, eitherD_if, choose_if, List.set_cons_zero, List.set_cons_succ, Bool.not_true, Bool.not_false, if_true, if_false, Bool.false_eq_true, grd_nil, sAppend, asi, pl, e9, eq_one, decide_eq_true rfl, oTupleC]
          refine ⟨hsz _ (by omega), sz 2, sz 2, ?_⟩
          rw [← hps]
          have e7 : a + ((91 :: (tls (p0 :: ps0) ++ [93])).length : Nat) = ((A'.length : Nat) : Int) + ((tl p).length : Nat) + 1 := by
            rw [List.length_cons, List.length_append, List.length_singleton]
            omega
          rw [e7] at hq
          exact hq
        | cons q rest =>
          rw [tls_cons] at ht' hlen
          refine ⟨rfl, p, tl p, 32 :: (tls (q :: rest) ++ 93 :: R), ⟨rfl, fun c hc => .inl (show (32 : Nat) = c by simpa using hc).symm, wp, dp, wids_mem hws p mp⟩, ⟨⟨A', by rw [ht']; simp, rfl⟩, lt⟩, ?_⟩
          have en : oIsN (.tuple [p, .int ((A'.length : Nat) + ((tl p).length : Nat))]) .none = Dl.ret (.bool false) := rfl
          have e9 : oCut (.str t) (some (((A'.length : Nat) : Int) + ((tl p).length : Nat))) (some (((A'.length : Nat) : Int) + ((tl p).length : Nat) + 1)) = Dl.ret (.str ⟨#[32]⟩) := by
            refine (grd_true (hsl lt) _).trans ?_
            rw [slice_one (x := t) (A := A' ++ tl p) (c := 32) (R := tls (q :: rest) ++ 93 :: R) (by rw [ht']; simp) (by rw [List.length_append]; rfl) rfl]
          have d1 : decide ((32 : Nat) = 93) = false := by decide
          have d2 : decide ((32 : Nat) = 32) = true := by decide
          simp only [sSeq, sIf, sNext, sAsg, sPar, sPar3, gN, bnd_ret, ret_app, bnd_grd, grd_app, sl_zero, sl_succ, slX_zero, slX_own, slX_succ, slO_zero, slO_own, slO_succ, slH_zero, slH_succ, frz_zero, frz_succ, own_zero, own_succ, onStr_str, asB_bool, asI_int, both_if, either_if, bothD_if, eitherD_if, choose_if, List.set_cons_zero, List.set_cons_succ, Bool.not_true, Bool.not_false, if_true, if_false, Bool.false_eq_true, grd_nil, en]
          refine ⟨rfl, ?_⟩
          simp only [gsCons, gsNil, sSeq, sIf, sNext, sAsg, sPar, sPar3, gN, bnd_ret, ret_app, bnd_grd, grd_app, sl_zero, sl_succ, slX_zero, slX_own, slX_succ, slO_zero, slO_own, slO_succ, slH_zero, slH_succ, frz_zero, frz_succ, own_zero, own_succ, onStr_str, asB_bool, asI_int, both_if, either_if, bothD_if, eitherD_if, choose_if, List.set_cons_zero, List.set_cons_succ, Bool.not_true, Bool.not_false, if_true, if_false, Bool.false_eq_true, grd_nil, sAppend, asi, pl, e9, eq_one, ne_one, d1, d2, sAug, List.getElem?_cons_succ, List.getElem?_cons_zero]
          refine ⟨hsz _ (by omega), (q :: rest).length, by simp only [List.length_cons]; omega, trivial, A' ++ tl p ++ [32], done ++ [p], q :: rest, .d (.tuple [p, .int (((A'.length : Nat) : Int) + ((tl p).length : Nat))]), .d p, by rw [hps]; simp, (fun z => nomatch z), by rw [ht']; simp, ?_, rfl⟩
          rw [List.length_append, List.length_append, List.length_singleton]
          rfl
theorem isdigit_one (c : Nat) (h : c < 128) : Txt.isdigit ⟨#[c]⟩ = decide (48 ≤ c ∧ c ≤ 57) := by
  have key : (List.range 128).all (fun c => Txt.isdigit ⟨#[c]⟩ == decide (48 ≤ c ∧ c ≤ 57)) = true := by decide +kernel
  have z := List.all_eq_true.mp key c (List.mem_range.mpr h)
  simpa using z
theorem ok_worth {j : Nat} (F : Fc K mg) (K_quoted_at : Kn P w K mg base k "quoted_at" s_35 ["text", "at"] (mRead okQuoted)) (K_row_at : Kn P w K mg base k "row_at" s_36 ["text", "at"] (mRead (okRow j))) (K_thing_at : Kn P w K mg base k "thing_at" s_37 ["text", "at"] (mRead okThing)) (K_number_at : Kn P w K mg base k "number_at" s_34 ["text", "at"] (mRead okNumber)) (K_word_at : Kn P w K mg base k "word_at" s_38 ["text", "at"] (mRead okWord)) (D : Df K mg "worth_at" s_39 ["text", "at"] f fd) : Kn P w K mg base (k + 1) "worth_at" s_39 ["text", "at"] (mRead (okWorth j)) := by
  refine D.kn (FnD.of _ D.d sc_39 (fun cdv A outer s H E g hx room => have hu := hu64 room; have hu1 := hu65 room;
    (dss_cons (ds_set 2 sc_39.nd (de_cut (dx_var 0) (do_some (de_var 1)) (do_some (de_plus (dx_var 1) (DE.now de_int)))))
 (dss_cons (ds_if (dt_cmpX (op_eqA hu) x2_eq (dx_var 2) (DE.now de_str) (nomark _)) (dss_one (ds_ret (de_k K_quoted_at hx room (das_cons (DE.arg (de_var 0)) (das_cons (DE.arg (de_var 1)) das_nil))))) dss_nil)
 (dss_cons (ds_if (dt_cmpX (op_eqA hu) x2_eq (dx_var 2) (DE.now de_str) (nomark _)) (dss_one (ds_ret (de_k K_row_at hx room (das_cons (DE.arg (de_var 0)) (das_cons (DE.arg (de_var 1)) das_nil))))) dss_nil)
 (dss_cons (ds_if (dt_cmpX (op_eqA hu) x2_eq (dx_var 2) (DE.now de_str) (nomark _)) (dss_one (ds_ret (de_k K_thing_at hx room (das_cons (DE.arg (de_var 0)) (das_cons (DE.arg (de_var 1)) das_nil))))) dss_nil)
 (dss_cons (ds_if (DW.tst (dw_or (dt_cmpX (op_eqA hu) x2_eq (dx_var 2) (DE.now de_str) (nomark _)) (dw_or1 (DE.tst (de_isdigit (dx_var 2)))))) (dss_one (ds_ret (de_k K_number_at hx room (das_cons (DE.arg (de_var 0)) (das_cons (DE.arg (de_var 1)) das_nil))))) dss_nil)
 (dss_one (ds_ret (de_k K_word_at hx room (das_cons (DE.arg (de_var 0)) (das_cons (DE.arg (de_var 1)) das_nil))))))))))) ?_)
  intro as n Qd W hl h
  match as, hl, h with
  | [.d (.str t), .d (.int a)], _, ⟨d, L, R, ho, rd, hq⟩ =>
    obtain ⟨rfl, hR, gd, hj, hwd⟩ := ho
    obtain ⟨⟨A, ht, ha⟩, lt⟩ := rd
    rw [show slotsOf n_39 [Da.d (PyData.str t), Da.d (PyData.int a)] = [Ds.d (.str t), .d (.int a), .no] from rfl]
    have q39 : ("'" : Str) = ⟨#[39]⟩ := by decide +kernel
    have q91 : ("[" : Str) = ⟨#[91]⟩ := by decide +kernel
    have q35 : ("#" : Str) = ⟨#[35]⟩ := by decide +kernel
    have q45 : ("-" : Str) = ⟨#[45]⟩ := by decide +kernel
    have asi : ∀ i : Int, asI (.int i) = Dl.ret (some i) := fun _ => rfl
    have pl : ∀ i j : Int, oPlus (.int i) (.int j) = Dl.ret (.int (i + j)) := fun _ _ => rfl
    have ec : ∀ {c : Nat} {r : List Nat}, tl d = c :: r → oCut (.str t) (some a) (some (a + 1)) = Dl.ret (.str ⟨#[c]⟩) := fun {c r} e => by
      refine (grd_true (hsl lt) _).trans ?_
      rw [slice_one (x := t) (A := A) (c := c) (R := r ++ R) (by rw [ht, e]; simp) ha rfl]
    have od : ∀ {c : Nat}, c < 128 → onStr (.str ⟨#[c]⟩) (o10 (fun _ => True) (fun a => .bool (Txt.isdigit a)) (.str ⟨#[c]⟩) []) = Dl.ret (.bool (decide (48 ≤ c ∧ c ≤ 57))) := fun {c} h => (grd_true trivial _).trans (congrArg (fun b => Dl.ret (PyData.bool b)) (isdigit_one c h))
    simp only [sSeq, sIf, sNext, sAsg, sPar, sPar3, gN, bnd_ret, ret_app, bnd_grd, grd_app, sl_zero, sl_succ, slX_zero, slX_own, slX_succ, slO_zero, slO_own, slO_succ, slH_zero, slH_succ, frz_zero, frz_succ, own_zero, own_succ, onStr_str, asB_bool, asI_int, both_if, either_if, bothD_if, eitherD_if, choose_if, List.set_cons_zero, List.set_cons_succ, Bool.not_true, Bool.not_false, if_true, if_false, Bool.false_eq_true, grd_nil, pl, asi, q39, q91, q35, q45]
    have rds : Rds t a (tl d) R := ⟨⟨A, ht, ha⟩, lt⟩
    have first : ∃ c r, tl d = c :: r ∧ c < 128 := by
      cases hr : rowOf d with
      | some ps => exact ⟨91, _, tl_row hr, by decide⟩
      | none =>
        rw [tl_leaf hr]
        have gl := well_leaf hr gd
        cases d with
        | none => exact ⟨_, _, rfl, by decide⟩
        | bool b => cases b <;> exact ⟨_, _, rfl, by decide⟩
        | int i =>
          obtain ⟨c, r, e, hc⟩ := int_head i
          exact ⟨c, r, e, by unfold dig at hc; omega⟩
        | str x => exact ⟨_, _, rfl, by decide⟩
        | tuple xs =>
          rcases named_cases (lg_tup gl) with ⟨i, e, gi⟩ | ⟨a, b, c, e, ha, hb, hc⟩
          · cases e
            exact ⟨35, _, rfl, by decide⟩
          · cases e
            obtain ⟨q, r, e, hq⟩ := name_head hb
            refine ⟨q, r ++ (if a = ("deed" : Str) then 46 else 58) :: cp c, ?_, by omega⟩
            show cp b ++ _ = _
            rw [e]
            rfl
        | list xs => exact absurd (leafGood_S gl) Bool.false_ne_true
        | dict es => exact absurd (leafGood_S gl) Bool.false_ne_true
    obtain ⟨c, r, ecr, hc⟩ := first
    simp only [sSeq, sIf, sNext, sAsg, sPar, sPar3, gN, bnd_ret, ret_app, bnd_grd, grd_app, sl_zero, sl_succ, slX_zero, slX_own, slX_succ, slO_zero, slO_own, slO_succ, slH_zero, slH_succ, frz_zero, frz_succ, own_zero, own_succ, onStr_str, asB_bool, asI_int, both_if, either_if, bothD_if, eitherD_if, choose_if, List.set_cons_zero, List.set_cons_succ, Bool.not_true, Bool.not_false, if_true, if_false, Bool.false_eq_true, grd_nil, ec ecr, eq_one, od hc]
    cases hr : rowOf d with
    | some ps =>
      have et := tl_row hr
      have ed := rowOf_some hr
      rw [et] at ecr
      have e91 : 91 = c := (List.cons.inj ecr).1
      subst e91
      rw [if_neg (by decide), if_pos (by decide)]
      have hj2 := hj
      rw [dep_row hr] at hj2
      rw [wid_row hr, Bool.and_eq_true, decide_eq_true_eq] at hwd
      exact ⟨rfl, d, tl d, R, ⟨ps, ed, et, by rw [← well_row hr]; exact gd, hj2, by omega, hwd.2⟩, rds, hq⟩
    | none =>
      have et := tl_leaf hr
      rw [et] at ecr
      have gl := well_leaf hr gd
      cases d with
      | none =>
        have e := (List.cons.inj (show 110 :: [111, 110, 101] = c :: r from ecr)).1
        subst e
        rw [if_neg (by decide), if_neg (by decide), if_neg (by decide), if_neg (by decide)]
        simp only [ret_app]
        rw [if_neg (by decide)]
        exact ⟨rfl, _, _, R, ⟨et, hR, .inl rfl⟩, rds, hq⟩
      | bool b =>
        cases b
        · have e := (List.cons.inj (show 110 :: [111] = c :: r from ecr)).1
          subst e
          rw [if_neg (by decide), if_neg (by decide), if_neg (by decide), if_neg (by decide)]
          simp only [ret_app]
          rw [if_neg (by decide)]
          exact ⟨rfl, _, _, R, ⟨et, hR, .inr (.inl ⟨_, rfl⟩)⟩, rds, hq⟩
        · have e := (List.cons.inj (show 121 :: [101, 115] = c :: r from ecr)).1
          subst e
          rw [if_neg (by decide), if_neg (by decide), if_neg (by decide), if_neg (by decide)]
          simp only [ret_app]
          rw [if_neg (by decide)]
          exact ⟨rfl, _, _, R, ⟨et, hR, .inr (.inl ⟨_, rfl⟩)⟩, rds, hq⟩
      | int i =>
        obtain ⟨c', r', e, hc'⟩ := int_head i
        have e2 := (List.cons.inj ((show cp ((toString i : String) : Str) = c :: r from ecr).symm.trans e)).1
        subst e2
        unfold dig at hc'
        rw [if_neg (by rw [decide_eq_true_eq]; omega), if_neg (by rw [decide_eq_true_eq]; omega), if_neg (by rw [decide_eq_true_eq]; omega)]
        obtain ⟨h0, h1⟩ := lg_int gl
        have fin : many (["text", "at"] : List Str).length (mRead okNumber) [Da.d (.str t), Da.d (.int a)] n Qd W := ⟨rfl, _, _, R, ⟨i, rfl, et, h0, h1, hR.noDig⟩, rds, hq⟩
        by_cases h45 : c = 45
        · rw [if_pos (by rw [decide_eq_true_eq]; exact h45)]
          exact fin
        · rw [if_neg (by rw [decide_eq_true_eq]; exact h45)]
          simp only [ret_app]
          rw [if_pos (by rw [decide_eq_true_eq]; omega)]
          exact fin
      | str x =>
        have e := (List.cons.inj (show 39 :: (cp x ++ [39]) = c :: r from ecr)).1
        subst e
        rw [if_pos (by decide)]
        have hx := (isText_iff x).mp (lg_str gl)
        exact ⟨rfl, _, _, R, ⟨x, rfl, et, fun h39 => by have := (okS_iff 39).mp (hx.2 39 h39); omega⟩, rds, hq⟩
      | tuple xs =>
        rcases named_cases (lg_tup gl) with ⟨i, e, gi⟩ | ⟨x, y, z, e, hx, hy, hz⟩
        · cases e
          unfold great at gi
          rw [Bool.and_eq_true, decide_eq_true_eq, decide_eq_true_eq] at gi
          have e := (List.cons.inj (show 35 :: cp ((toString i : String) : Str) = c :: r from ecr)).1
          subst e
          rw [if_neg (by decide), if_neg (by decide), if_pos (by decide)]
          have em : ((i.natAbs : Nat) : Int) = i := by omega
          have el : leafL (.tuple [.str "thing", .int i]) = 35 :: digs i.natAbs := by
            show 35 :: cp ((toString i : String) : Str) = _
            rw [int_cp, if_neg (by omega)]
          exact ⟨rfl, _, _, R, ⟨i.natAbs, by rw [em], et.trans el, by omega, hR.noDig⟩, rds, hq⟩
        · cases e
          obtain ⟨q, r', e, hq'⟩ := name_head hy
          have e2 : q = c := by
            have z1 : cp y ++ (if x = ("deed" : Str) then 46 else 58) :: cp z = c :: r := ecr
            rw [e] at z1
            exact (List.cons.inj z1).1
          subst e2
          rw [if_neg (by rw [decide_eq_true_eq]; omega), if_neg (by rw [decide_eq_true_eq]; omega), if_neg (by rw [decide_eq_true_eq]; omega), if_neg (by rw [decide_eq_true_eq]; omega)]
          simp only [ret_app]
          rw [if_neg (by rw [decide_eq_true_eq]; omega)]
          exact ⟨rfl, _, _, R, ⟨et, hR, .inr (.inr ⟨x, y, z, rfl, hx, hy, hz⟩)⟩, rds, hq⟩
      | list xs => exact absurd (leafGood_S gl) Bool.false_ne_true
      | dict es => exact absurd (leafGood_S gl) Bool.false_ne_true
end
end Ev
namespace Ev
open PySem PySem.Spec L2 Dl
open PyProof.Rows hiding St
theorem join_chars : ∀ {ys : List Dt}, (∀ y ∈ ys, ∃ c, okS c = true ∧ y = .str ⟨#[c]⟩) → ∃ zs, textsOf ys = some zs ∧ zs.length = ys.length ∧ (zs.map (·.length)).sum = ys.length ∧ (Txt.join "" zs).length ≤ ys.length ∧ ∀ c ∈ cp (Txt.join "" zs), okS c = true := by
  intro ys h
  have key : ∃ zs, textsOf ys = some zs ∧ zs.length = ys.length ∧ (zs.map (·.length)).sum = ys.length ∧ ∀ z ∈ zs, ∀ c ∈ cp z, okS c = true := by
    induction ys with
    | nil => exact ⟨[], rfl, rfl, rfl, fun _ h => nomatch h⟩
    | cons y ys ih =>
      obtain ⟨c, hc, rfl⟩ := h y List.mem_cons_self
      obtain ⟨zs, e1, e2, e3, e4⟩ := ih fun z hz => h z (List.mem_cons_of_mem _ hz)
      refine ⟨⟨#[c]⟩ :: zs, by rw [textsOf, e1]; rfl, by rw [List.length_cons, List.length_cons, e2], ?_, fun z hz => ?_⟩
      · rw [List.map_cons, List.sum_cons, e3, List.length_cons]
        show 1 + _ = _
        omega
      · rcases List.mem_cons.mp hz with rfl | hz
        · intro d hd
          have : d = c := by simpa [cp] using hd
          rw [this]
          exact hc
        · exact e4 z hz
  obtain ⟨zs, e1, e2, e3, e4⟩ := key
  have ej : Txt.join "" zs = Str.join "" zs := StrLaws.glued_eq_join "" zs
  refine ⟨zs, e1, e2, e3, ?_, fun c hc => ?_⟩
  · rw [ej]
    have := StrLaws.join_length_le "" zs
    have le : ("" : Str).length = 0 := by decide +kernel
    rw [le] at this
    omega
  · rw [ej] at hc
    rcases (mem_join "" c zs).mp hc with ⟨t, ht, hc⟩ | ⟨_, hc⟩
    · exact e4 t ht c hc
    · exact absurd hc (by show c ∉ ([] : List Nat); exact List.not_mem_nil)
theorem okS_asc {c : Nat} (h : okS c = true) : ascC c = true := by
  have := (okS_iff c).mp h
  unfold ascC
  simp only [Bool.or_eq_true, beq_iff_eq, Bool.and_eq_true, decide_eq_true_eq]
  omega
theorem int_asc {i : Int} (h0 : -1000000000000000 ≤ i) (h1 : i ≤ 1000000000000000) : ∀ c ∈ cp ((toString i : String) : Str), ascC c = true := fun c hc => okS_asc (((isText_iff _).mp (text_int (by omega))).2 c hc)
theorem text_asc {x : Str} (h : isText (.str x) = true) : ∀ c ∈ cp x, ascC c = true := fun c hc => okS_asc (((isText_iff _).mp h).2 c hc)
theorem leaf_asc {d : Dt} (h : leafGood d = true) : ∀ c ∈ leafL d, ascC c = true := by
  cases d with
  | none => exact List.all_eq_true.mp (show [110, 111, 110, 101].all ascC = true by decide)
  | bool b => cases b <;> exact List.all_eq_true.mp (by decide)
  | int i =>
    obtain ⟨h0, h1⟩ := lg_int h
    exact int_asc h0 h1
  | str x =>
    intro c hc
    have hc : c ∈ 39 :: (cp x ++ [39]) := hc
    simp only [List.mem_cons, List.mem_append, List.not_mem_nil, or_false] at hc
    rcases hc with rfl | hc | rfl
    · decide
    · exact text_asc (lg_str h) c hc
    · decide
  | tuple xs =>
    rcases named_cases (lg_tup h) with ⟨i, e, gi⟩ | ⟨x, y, z, e, hx, hy, hz⟩
    · cases e
      unfold great at gi
      rw [Bool.and_eq_true, decide_eq_true_eq, decide_eq_true_eq] at gi
      intro c hc
      rcases List.mem_cons.mp (show c ∈ 35 :: cp ((toString i : String) : Str) from hc) with rfl | hc
      · decide
      · exact int_asc (by omega) (by omega) c hc
    · cases e
      intro c hc
      have hc : c ∈ cp y ++ (if x = ("deed" : Str) then 46 else 58) :: cp z := hc
      rcases List.mem_append.mp hc with hc | hc
      · exact text_asc (name_text hy) c hc
      · rcases List.mem_cons.mp hc with rfl | hc
        · split <;> decide
        · exact text_asc (name_text hz) c hc
  | list xs => exact absurd (leafGood_S h) Bool.false_ne_true
  | dict es => exact absurd (leafGood_S h) Bool.false_ne_true
mutual
theorem tl_asc (d : Dt) (h : wellD d = true) : ∀ c ∈ tl d, ascC c = true := by
  cases hr : rowOf d with
  | none =>
    rw [tl_leaf hr]
    exact leaf_asc (well_leaf hr h)
  | some ps =>
    have hlt := rowOf_lt hr
    have z := tls_asc ps (by rw [← well_row hr]; exact h)
    rw [tl_row hr]
    intro c hc
    simp only [List.mem_cons, List.mem_append, List.not_mem_nil, or_false] at hc
    rcases hc with rfl | hc | rfl
    · decide
    · exact z c hc
    · decide
termination_by sizeOf d
theorem tls_asc (ps : List Dt) (h : wellsD ps = true) : ∀ c ∈ tls ps, ascC c = true := by
  cases ps with
  | nil => rw [tls_nil]; exact fun _ h => nomatch h
  | cons p ps =>
    rw [wellsD_cons, Bool.and_eq_true] at h
    have z1 := tl_asc p h.1
    cases ps with
    | nil =>
      rw [tls_one]
      exact z1
    | cons q ps =>
      have z2 := tls_asc (q :: ps) h.2
      rw [tls_cons]
      intro c hc
      simp only [List.mem_cons, List.mem_append] at hc
      rcases hc with hc | rfl | hc
      · exact z1 c hc
      · decide
      · exact z2 c hc
termination_by sizeOf ps
end
section
variable {P : Program} {w : World} {K : PySem.W.Frag} {mg : Str → Option Value} {base : Heap} {f : Addr} {fd : FuncData} {k : Nat}
theorem worth_all {fw fr : Addr} {fdw fdr : FuncData} (F : Fc K mg) (K_quoted_at : Kn P w K mg base k "quoted_at" s_35 ["text", "at"] (mRead okQuoted)) (K_thing_at : Kn P w K mg base k "thing_at" s_37 ["text", "at"] (mRead okThing)) (K_number_at : Kn P w K mg base k "number_at" s_34 ["text", "at"] (mRead okNumber)) (K_word_at : Kn P w K mg base k "word_at" s_38 ["text", "at"] (mRead okWord)) (Dw : Df K mg "worth_at" s_39 ["text", "at"] fw fdw) (Dr : Df K mg "row_at" s_36 ["text", "at"] fr fdr) : ∀ j, Kn P w K mg base (k + 2 * j + 2) "worth_at" s_39 ["text", "at"] (mRead (okWorth j))
  | 0 => ok_worth F (K_quoted_at.more (by omega)) (ok_row (k := k) (j := 0) (fun i h => by omega) F (Kn.never Dw) Dr) (K_thing_at.more (by omega)) (K_number_at.more (by omega)) (K_word_at.more (by omega)) Dw
  | j + 1 => (ok_worth (k := k + 2 * j + 2 + 1) F (K_quoted_at.more (by omega)) (ok_row (j := j + 1) (mR := mRead (okWorth j)) (fun i h => by cases h; rfl) F (worth_all F K_quoted_at K_thing_at K_number_at K_word_at Dw Dr j) Dr) (K_thing_at.more (by omega)) (K_number_at.more (by omega)) (K_word_at.more (by omega)) Dw).more (by omega)
/-- worths that are told and read -/
def Good (d : Dt) : Prop := isWorth d = true ∧ Oq 100000 45 d
theorem Good.bounds {d : Dt} (g : Good d) : wellD d = true ∧ nod d ≤ 200 ∧ dep d ≤ 8 ∧ wid d = true := by
  have z := g.1
  unfold isWorth inBounds at z
  rw [Bool.and_eq_true, Bool.and_eq_true, Bool.and_eq_true, decide_eq_true_eq, decide_eq_true_eq] at z
  exact ⟨z.2, z.1.1, z.1.2.1, z.1.2.2⟩
theorem Good.told {d : Dt} (g : Good d) : Told d := ⟨g.bounds.1, g.2.more (by omega) (by omega), g.bounds.2.1⟩
def mReadW : List Da → Mv Dt
  | [.d (.str t)] => fun n Q _ => ∃ d, t = mkS (tl d) ∧ Good d ∧ Q d n
  | _ => bad
theorem ok_read (F : Fc K mg) (K_worth_at : Kn P w K mg base k "worth_at" s_39 ["text", "at"] (mRead (okWorth 8))) (K_is_worth : Kn P w K mg base k "is_worth" s_25 ["thing"] (mPure fun x => .bool (isWorth x))) (D : Df K mg "read_worth" s_40 ["text"] f fd) : Kn P w K mg base (k + 1) "read_worth" s_40 ["text"] mReadW := by
  refine D.kn (FnD.of _ D.d sc_40 (fun cdv A outer s H E g hx room => have hu := hu64 room; have hu1 := hu65 room;
    (dss_cons (ds_set 1 sc_40.nd (de_if (DE.tst (de_isi ts_str rfl F.m_isinstance rfl F.m_str rfl (dx_var 0))) (de_k K_worth_at hx room (das_cons (DE.arg (de_var 0)) (das_cons (DE.arg de_int) das_nil))) de_non))
 (dss_cons (ds_if (DW.tst (dw_or (dt_cmpX op_isN x2_isN (dx_var 1) (DE.now de_non) (nomark _)) (dw_or (dt_cmpX (op_neA hu) x2_ne (DE.now (de_at (dx_var 1) (DE.now de_int) (fun _ _ => rfl))) (DE.now (de_callX call_len xc_len rfl F.m_len rfl (dxs_cons (dx_var 0) dxs_nil))) (nomark _)) (dw_or1 (dt_not (DE.tst (de_k K_is_worth hx room (das_cons (DE.arg (de_at (dx_var 1) (DE.now de_int) (fun _ _ => rfl))) das_nil)))))))) (dss_one ds_never) dss_nil)
 (dss_one (ds_ret (de_at (dx_var 1) (DE.now de_int) (fun _ _ => rfl))))))) ?_)
  intro as n Qd W hl h
  match as, hl, h with
  | [.d (.str t)], _, ⟨d, ht, gd, hq⟩ =>
    subst ht
    rw [show slotsOf n_40 [Da.d (PyData.str (mkS (tl d)))] = [Ds.d (.str (mkS (tl d))), .no] from rfl]
    have lt := gd.told.len
    obtain ⟨w1, w2, w3, w4⟩ := gd.bounds
    simp only [sSeq, sIf, sNext, sAsg, sPar, sPar3, gN, bnd_ret, ret_app, bnd_grd, grd_app, sl_zero, sl_succ, slX_zero, slX_own, slX_succ, slO_zero, slO_own, slO_succ, slH_zero, slH_succ, frz_zero, frz_succ, own_zero, own_succ, onStr_str, asB_bool, asI_int, both_if, either_if, bothD_if, eitherD_if, choose_if, List.set_cons_zero, List.set_cons_succ, Bool.not_true, Bool.not_false, if_true, if_false, Bool.false_eq_true, grd_nil, isStr, bnd_app]
    refine ⟨rfl, d, tl d, [], ⟨rfl, (fun c hc => nomatch hc), w1, w3, w4⟩, ⟨⟨[], by simp, rfl⟩, by omega⟩, ?_⟩
    have e3 : oIsN (.tuple [d, .int (0 + ((tl d).length : Nat))]) .none = Dl.ret (.bool false) := rfl
    have e4 : oAt (.tuple [d, .int (0 + ((tl d).length : Nat))]) (.int 0) = Dl.ret d := rfl
    have e5 : oAt (.tuple [d, .int (0 + ((tl d).length : Nat))]) (.int 1) = Dl.ret (.int (0 + ((tl d).length : Nat))) := rfl
    have ol : oLen [.str (mkS (tl d))] = Dl.ret (.int ((tl d).length : Nat)) := grd_true (hsl (show (mkS (tl d)).length ≤ 100000 by omega)) _
    have e6 : ((0 + ((tl d).length : Int)) == ((tl d).length : Nat)) = true := by rw [beq_iff_eq]; omega
    have c1 := mPure_is (f := fun x => .bool (isWorth x)) (["thing"] : List Str).length rfl (show fitW d from (gd.2.more (by omega) (Nat.le_refl _) : Oq 300000 45 d).w)
    generalize hz : PyData.tuple [d, .int (0 + ((tl d).length : Nat))] = z at e3 e4 e5
    simp only [sSeq, sIf, sNext, sAsg, sPar, sPar3, gN, bnd_ret, ret_app, bnd_grd, grd_app, sl_zero, sl_succ, slX_zero, slX_own, slX_succ, slO_zero, slO_own, slO_succ, slH_zero, slH_succ, frz_zero, frz_succ, own_zero, own_succ, onStr_str, asB_bool, asI_int, both_if, either_if, bothD_if, eitherD_if, choose_if, List.set_cons_zero, List.set_cons_succ, Bool.not_true, Bool.not_false, if_true, if_false, Bool.false_eq_true, grd_nil, e3, e4, e5, ol, oNe_int, e6, c1, gd.1]
    exact hq
/-! ### the law's own -/
def mPickS : List Da → Mv Dt
  | [.hand, .d (.list xs)] => grd (xs ≠ [] ∧ xs.length < 2 ^ 30) (dr 1 (· ∈ xs))
  | [.hand, .d (.str x)] => grd (0 < x.length ∧ x.length ≤ 1000) (dr 1 fun d => ∃ c ∈ cp x, d = .str ⟨#[c]⟩)
  | _ => bad
theorem ok_pickS (F : Fc K mg) (K__law_dealt : Kn P w K mg base k "_law_dealt" s_43 ["_law_hand", "_law_lots"] mDealt) (D : Df K mg "_law_pick" s_44 ["_law_hand", "_law_some"] f fd) : Kn P w K mg base (k + 1) "_law_pick" s_44 ["_law_hand", "_law_some"] mPickS := by
  refine D.kn (FnD.of _ D.d sc_44 (fun cdv A outer s H E g hx room => have hu := hu64 room; have hu1 := hu65 room;
    (dss_one (ds_ret (de_at (dx_var 1) (DE.now (de_k K__law_dealt hx room (das_cons (da_hand 0) (das_cons (DE.arg (de_callX call_len xc_len rfl F.m_len rfl (dxs_cons (dx_var 1) dxs_nil))) das_nil)))) (fun _ _ => rfl))))) ?_)
  intro as n Qd W hl h
  match as, hl, h with
  | [.hand, .d (.list xs)], _, ⟨⟨h1, h2⟩, h3, h4⟩ =>
    have hp : 0 < xs.length := List.length_pos_iff.mpr h1
    refine ⟨rfl, by omega, by omega, h3, fun r r0 r1 => ?_⟩
    obtain ⟨y, hy, e⟩ := pick_at r0 r1
    show oAt (.list xs) (.int r) (n - 1) Qd W
    rw [e]
    exact h4 y (n - 1) hy (by omega)
  | [.hand, .d (.str x)], _, ⟨⟨h1, h2⟩, h3, h4⟩ =>
    refine ⟨hsl (by omega), rfl, by omega, by omega, h3, fun r r0 r1 => ?_⟩
    have hr : r.toNat < (cp x).length := by rw [← len_cp]; omega
    have e : L2.atI (cp x) r = some (cp x)[r.toNat] := by
      have z := L2.atI_nat (xs := cp x) (j := r.toNat) (v := (cp x)[r.toNat]) (by simp [hr])
      rw [show ((r.toNat : Nat) : Int) = r by omega] at z
      exact z
    show (grd (x.length ≤ sizeLine) (match L2.atI x.cps.toList r with | some c => Dl.ret (PyData.str ⟨#[c]⟩) | none => bad) : Mv Dt) (n - 1) Qd W
    rw [grd_true (hsl (by omega)), e]
    exact h4 _ (n - 1) ⟨_, List.getElem_mem hr, rfl⟩ (by omega)
def mSigns : List Da → Mv Dt
  | [.hand] => dr 30 fun d => ∃ x, d = .str x ∧ isText (.str x) = true
  | _ => bad
theorem ok_signs (F : Fc K mg) (K__law_dealt : Kn P w K mg base k "_law_dealt" s_43 ["_law_hand", "_law_lots"] mDealt) (K__law_pick : Kn P w K mg base k "_law_pick" s_44 ["_law_hand", "_law_some"] mPickS) (D : Df K mg "_law_signs" s_53 ["_law_hand"] f fd) : Kn P w K mg base (k + 1) "_law_signs" s_53 ["_law_hand"] mSigns := by
  refine D.kn (FnD.of _ D.d sc_53 (fun cdv A outer s H E g hx room => have hu := hu64 room; have hu1 := hu65 room;
    (dss_cons (ds_set 1 sc_53.nd de_str)
 (dss_one (ds_ret (de_join (DE.now de_str) (DE.now (DN.dat (dn_lc rfl sc_53.nd (own := [("_law_turn", 2)]) (blk_ok rfl) (DF.di (df_range1 rfl F.m_range (de_k K__law_dealt hx room (das_cons (da_hand 0) (das_cons (DE.arg de_int) das_nil))))) (fun _ _ _ _ _ => (dg_name 2 sc_53.nd)) (fun _ _ _ _ _ => difs_nil) (fun _ _ _ _ _ => (de_k K__law_pick hx.blk room (das_cons (da_hand 0) (das_cons (DE.arg (de_var 1)) das_nil)))))))))))) ?_)
  intro as n Qd W hl h
  match as, hl, h with
  | [.hand], _, ⟨hn, hq⟩ =>
    rw [show slotsOf n_53 [Da.hand] = [.hand, .no, .no] from rfl]
    simp only [sSeq, sIf, sNext, sAsg, sPar, sPar3, gN, bnd_ret, ret_app, bnd_grd, grd_app, sl_zero, sl_succ, slX_zero, slX_own, slX_succ, slO_zero, slO_own, slO_succ, slH_zero, slH_succ, frz_zero, frz_succ, own_zero, own_succ, onStr_str, asB_bool, asI_int, both_if, either_if, bothD_if, eitherD_if, choose_if, List.set_cons_zero, List.set_cons_succ, Bool.not_true, Bool.not_false, if_true, if_false, Bool.false_eq_true, grd_nil, bnd_app, onStr]
    refine ⟨rfl, by omega, by omega, by omega, fun r a b => ⟨⟨by omega, by omega⟩, ?_⟩⟩
    have hl : (upTo 0 r.toNat).length ≤ 20 := by rw [upTo_length]; omega
    refine lc_draw (P := fun y => ∃ c, okS c = true ∧ y = .str ⟨#[c]⟩) (c := 1) (upTo 0 r.toNat) [] _ _ (fun x hx => ⟨_, rfl, rfl, fun n Q W hq => ⟨rfl, ⟨by decide +kernel, by decide +kernel⟩, hq.1, fun y m hy hm => ?_⟩⟩) (by omega) (fun ys m hl2 ha hm => ?_)
    · obtain ⟨c, hc, rfl⟩ := hy
      exact hq.2 _ m ⟨c, List.all_eq_true.mp (show (cp " !\"#$&()*+,-./0123456789:;<=>?@ABCXYZ[]^_`abcxyz{|}~").all okS = true by decide +kernel) c hc, rfl⟩ hm
    · obtain ⟨zs, e1, e2, e3, e4⟩ := join_chars ha
      have le : ("" : Str).length = 0 := by decide +kernel
      show oJoin (.str "") [.list ys] m Qd W
      rw [oJoin_list e1 (by rw [le]; have : zs.length ≤ 20 := by omega
                            omega)]
      refine hq _ m ⟨_, rfl, ?_⟩ (by omega)
      rw [isText_iff]
      exact ⟨by omega, e4.2⟩
theorem good_shown {d : Dt} (g : Good d) : goodD d = true := g.2.good (by omega) (by omega)
theorem txD_oq {d : Dt} (g : Good d) : Oq 6000 0 (txD d) := by
  refine Oq.str g.told.len ?_
  rw [cp_mkS]
  exact List.all_eq_true.mpr (tl_asc d g.bounds.1)
def mRight : List Da → Mv Dt
  | [.d d] => grd (Good d) (Dl.ret (.bool true))
  | _ => bad
theorem ok_right (F : Fc K mg) (K_show_worth : Kn P w K mg base k "show_worth" s_31 ["worth"] (mShow 50)) (K_read_worth : Kn P w K mg base k "read_worth" s_40 ["text"] mReadW) (K__law_text_of : Kn P w K mg base k "_law_text_of" s_54 ["_law_it"] (mShow 50)) (D : Df K mg "_law_right" s_55 ["_law_it"] f fd) : Kn P w K mg base (k + 1) "_law_right" s_55 ["_law_it"] mRight := by
  refine D.kn (FnD.of _ D.d sc_55 (fun cdv A outer s H E g hx room => have hu := hu64 room; have hu1 := hu65 room;
    (dss_cons (ds_par 1 2 rfl sc_55.nd (DE.val (de_callX (call_repr hx.guards hu) xc_repr rfl F.m_repr rfl (dxs_cons (dx_var 0) dxs_nil))) (DE.val (de_k K__law_text_of hx room (das_cons (DE.arg (de_var 0)) das_nil))))
 (dss_cons (ds_set 3 sc_55.nd (DN.dat (dn_lst (des_cons (de_k K_show_worth hx room (das_cons (DE.arg (de_var 0)) das_nil)) (des_cons (de_kk [0] (ks := ["worth"]) K_show_worth hx room (dks_cons (DE.arg (de_var 0)) dks_nil) (fun _ _ _ _ _ _ us hl => match us, hl with | [_], _ => rfl)) (des_cons (de_k K_show_worth hx room (das_cons (DE.arg (de_var 0)) das_nil)) des_nil))))))
 (dss_cons (ds_set 4 sc_55.nd (DN.dat (dn_lst (des_cons (de_k K_read_worth hx room (das_cons (DE.arg (de_var 2)) das_nil)) (des_cons (de_kk [0] (ks := ["text"]) K_read_worth hx room (dks_cons (DE.arg (de_var 2)) dks_nil) (fun _ _ _ _ _ _ us hl => match us, hl with | [_], _ => rfl)) des_nil)))))
 (dss_one (ds_ret (de_and (de_cmpX (op_eqA hu) x2_eq (DE.now (de_callX (call_repr hx.guards hu) xc_repr rfl F.m_repr rfl (dxs_cons (dx_var 3) dxs_nil))) (DE.now (de_callX (call_repr hx.guards hu) xc_repr rfl F.m_repr rfl (dxs_cons (DE.now (de_times (DE.now (DN.dat (dn_lst (des_cons (de_var 2) des_nil)))) (DE.now de_int))) dxs_nil))) (nomark _)) (de_and (de_cmpX (op_eqA hu) x2_eq (DE.now (de_callX (call_repr hx.guards hu) xc_repr rfl F.m_repr rfl (dxs_cons (dx_var 4) dxs_nil))) (DE.now (de_callX (call_repr hx.guards hu) xc_repr rfl F.m_repr rfl (dxs_cons (DE.now (DN.dat (dn_lst (des_cons (de_var 0) (des_cons (de_var 0) des_nil))))) dxs_nil))) (nomark _)) (de_one (de_cmpX (op_eqA hu) x2_eq (DE.now (de_callX (call_repr hx.guards hu) xc_repr rfl F.m_repr rfl (dxs_cons (dx_var 0) dxs_nil))) (dx_var 1) (nomark _))))))))))) ?_)
  intro as n Qd W hl h
  match as, hl, h with
  | [.d d], _, ⟨gd, hq⟩ =>
    rw [show slotsOf n_55 [Da.d d] = [Ds.d d, .no, .no, .no, .no] from rfl]
    have ot := txD_oq gd
    have c1 : many (["worth"] : List Str).length (mShow 50) [Da.d d] = Dl.ret (txD d) := (many_app _ _ _ rfl).trans (grd_true ⟨gd.told, by have := gd.2.h; omega⟩ _)
    have c2 : manyK (["worth"] : List Str).length (mShow 50) [0] [Da.d d] = Dl.ret (txD d) := (manyK_app _ _ _ _ rfl rfl).trans (grd_true ⟨gd.told, by have := gd.2.h; omega⟩ _)
    have c3 : many (["_law_it"] : List Str).length (mShow 50) [Da.d d] = Dl.ret (txD d) := (many_app _ _ _ rfl).trans (grd_true ⟨gd.told, by have := gd.2.h; omega⟩ _)
    have gl : ∀ {x : Dt}, Oq 6000 0 x → goodD (.list [x, x, x]) = true := fun o => (Oq.lst (Oqs.cons o (Oqs.cons o (Oqs.cons o (Oqs.nil (w := 0)))))).good (by omega) (by omega)
    have g2 : goodD (.list [d, d]) = true := (Oq.lst (Oqs.cons gd.2 (Oqs.cons gd.2 (Oqs.nil (w := 0))))).good (by omega) (by omega)
    have e : oTimes (.list [txD d]) (.int 3) = Dl.ret (.list [txD d, txD d, txD d]) := grd_true ⟨by omega, by omega, by show 1 ≤ 1000; omega⟩ _
    simp only [sSeq, sIf, sNext, sAsg, sPar, sPar3, gN, bnd_ret, ret_app, bnd_grd, grd_app, sl_zero, sl_succ, slX_zero, slX_own, slX_succ, slO_zero, slO_own, slO_succ, slH_zero, slH_succ, frz_zero, frz_succ, own_zero, own_succ, onStr_str, asB_bool, asI_int, both_if, either_if, bothD_if, eitherD_if, choose_if, List.set_cons_zero, List.set_cons_succ, Bool.not_true, Bool.not_false, if_true, if_false, Bool.false_eq_true, grd_nil, c1, c2, c3, oRepr_good (good_shown gd), bnd_app, oRepr_good (gl ot), e]
    refine ⟨sz 3, rfl, d, rfl, gd, ⟨rfl, rfl, d, rfl, gd, sz 2, ?_⟩⟩
    simp only [sSeq, sIf, sNext, sAsg, sPar, sPar3, gN, bnd_ret, ret_app, bnd_grd, grd_app, sl_zero, sl_succ, slX_zero, slX_own, slX_succ, slO_zero, slO_own, slO_succ, slH_zero, slH_succ, frz_zero, frz_succ, own_zero, own_succ, onStr_str, asB_bool, asI_int, both_if, either_if, bothD_if, eitherD_if, choose_if, List.set_cons_zero, List.set_cons_succ, Bool.not_true, Bool.not_false, if_true, if_false, Bool.false_eq_true, grd_nil, oRepr_good (gl ot), oRepr_good g2, oEq_str, beq_self_eq_true]
    exact ⟨sz 1, sz 2, hq⟩
/-! ### the law -/
theorem wt_good {w h : Nat} {d : Dt} (t : Wt w h 200 8 d) (hw : w ≤ 100000) (hh : h ≤ 45) : Good d := ⟨t.worth, t.o.more hw hh⟩
theorem ok_law (F : Fc K mg) {fB : Addr} {fdB : FuncData} (DB : Df K mg "_law_begun" s_42 ["_law_script"] fB fdB) (B : FnG P w K mg base k fB fdB ["_law_script"] (spBegun K)) (K__law_drawn : Kn P w K mg base k "_law_drawn" s_48 ["_law_hand", "_law_deep"] (mDrawn 3)) (K__law_greatest : Kn P w K mg base k "_law_greatest" s_51 ["_law_hand"] mGreatest) (K__law_alike_looks : Kn P w K mg base k "_law_alike_looks" s_47 [] mLooks) (K__law_signs : Kn P w K mg base k "_law_signs" s_53 ["_law_hand"] mSigns) (K__law_right : Kn P w K mg base k "_law_right" s_55 ["_law_it"] mRight) (D : Df K mg "law" s_56 ["_law_script"] f fd) : FnG P w K mg base (k + 1) f fd ["_law_script"] (spLaw K) := by
  refine law_of (N := n_56) D.d sc_56 rfl rfl rfl (by decide) B DB.g DB.d.kp (fun us h s _ => DB.b us h s) (.inl rfl) (by first | exact Or.inl rfl | exact Or.inr rfl) (fun cdv A outer s H E => rfl) (by decide) (by decide) (by decide) (fun cdv A outer s H E g hx room => have hu := hu64 room; have hu1 := hu65 room;
    (dss_cons (ds_set 2 sc_56.nd (de_plus (DE.now (de_plus (DE.now (DN.dat (dn_lc rfl sc_56.nd (own := [("_law_turn", 3)]) (blk_ok rfl) (DF.di (df_range1 rfl F.m_range de_int)) (fun _ _ _ _ _ => (dg_name 3 sc_56.nd)) (fun _ _ _ _ _ => difs_nil) (fun _ _ _ _ _ => (de_k K__law_drawn hx.blk room (das_cons (da_hand 1) (das_cons (DE.arg de_int) das_nil))))))) (DE.now (de_k K__law_greatest hx room (das_cons (da_hand 1) das_nil))))) (DE.now (de_k0 K__law_alike_looks hx room))))
 (dss_cons (ds_set 2 sc_56.nd (de_plus (DE.now (de_plus (dx_var 2) (DE.now (DN.dat (dn_lc rfl sc_56.nd (own := [("_law_turn", 3)]) (blk_ok rfl) (DF.di (df_range1 rfl F.m_range de_int)) (fun _ _ _ _ _ => (dg_name 3 sc_56.nd)) (fun _ _ _ _ _ => difs_nil) (fun _ _ _ _ _ => (de_k K__law_signs hx.blk room (das_cons (da_hand 1) das_nil)))))))) (DE.now (DN.dat (dn_lst (des_cons (de_tup (des_cons de_str (des_cons (de_tupleC rfl F.m_tuple (DE.now (DN.dat (dn_lc rfl sc_56.nd (own := [("_law_turn", 3)]) (blk_ok rfl) (DF.di (df_range1 rfl F.m_range de_int)) (fun _ _ _ _ _ => (dg_name 3 sc_56.nd)) (fun _ _ _ _ _ => difs_nil) (fun _ _ _ _ _ => (de_k K__law_signs hx.blk room (das_cons (da_hand 1) das_nil))))))) des_nil))) des_nil))))))
 (dss_one (ds_ret (de_cmpX (op_eqA hu) x2_eq (DE.now (DN.dat (dn_lc rfl sc_56.nd (own := [("_law_it", 4)]) (blk_ok rfl) (di_list (DE.now (de_plus (dx_var 2) (DE.now (de_revL (dx_var 2)))))) (fun _ _ _ _ _ => (dg_name 4 sc_56.nd)) (fun _ _ _ _ _ => (difs_one (dt_not (DE.tst (de_k K__law_right hx.blk room (das_cons (DE.arg (de_var 4)) das_nil)))))) (fun _ _ _ _ _ => (de_var 4))))) (DE.now (DN.dat (dn_lst des_nil))) (nomark _))))))) ?_
  unfold LawMean
  rw [show ([Ds.no, Ds.hand] ++ List.replicate (n_56.length - 2) Ds.no) = [Ds.no, Ds.hand, Ds.no, Ds.no, Ds.no] from rfl]
  simp only [sSeq, sIf, sNext, sAsg, sPar, sPar3, gN, bnd_ret, ret_app, bnd_grd, grd_app, sl_zero, sl_succ, slX_zero, slX_own, slX_succ, slO_zero, slO_own, slO_succ, slH_zero, slH_succ, frz_zero, frz_succ, own_zero, own_succ, onStr_str, asB_bool, asI_int, both_if, either_if, bothD_if, eitherD_if, choose_if, List.set_cons_zero, List.set_cons_succ, Bool.not_true, Bool.not_false, if_true, if_false, Bool.false_eq_true, grd_nil, bnd_app]
  have hs : 300000 ≤ sizeLine := by decide
  refine lcD_draw (items := upTo 0 10) (P := Wt (wD 3) (2 * 3 + 4) (nD 3) (3 + 2)) (cD 3) ?_ ?_ ?_ ?_
  · exact grd_true (by decide) _
  · exact fun x hx => ⟨_, rfl, fun n Q W hq => ⟨rfl, ⟨by omega, rfl⟩, hq⟩⟩
  · rw [upTo_length]
    decide
  intro ys m1 hl1 hy hm1
  rw [upTo_length] at hl1 hm1
  have lk : looksD.length = 6 := rfl
  have cd3 : cD 3 = 490 := rfl
  refine ⟨rfl, by omega, fun d m2 hd hm2 => ?_⟩
  obtain ⟨xs, rfl, hlx, hx⟩ := hd
  refine ⟨by rw [hl1, hlx]; decide, by rw [List.length_append, hl1, hlx, lk]; decide, ?_⟩
  simp only [ret_app]
  refine lcD_draw (items := upTo 0 6) (P := fun d => ∃ x, d = .str x ∧ isText (.str x) = true) 30 ?_ ?_ ?_ ?_
  · exact grd_true (by decide) _
  · exact fun x hx => ⟨_, rfl, fun n Q W hq => ⟨rfl, hq⟩⟩
  · rw [upTo_length]
    omega
  intro zs m3 hl3 hz hm3
  rw [upTo_length] at hl3 hm3
  refine ⟨by rw [List.length_append, List.length_append, hl1, hlx, lk, hl3]; decide, ?_⟩
  simp only [ret_app]
  refine lcD_draw (items := upTo 0 3) (P := fun d => ∃ x, d = .str x ∧ isText (.str x) = true) 30 ?_ ?_ ?_ ?_
  · exact grd_true (by decide) _
  · exact fun x hx => ⟨_, rfl, fun n Q W hq => ⟨rfl, hq⟩⟩
  · rw [upTo_length]
    omega
  intro us m4 hl4 hu' hm4
  rw [upTo_length] at hl4 hm4
  refine ⟨sz 2, sz 1, by simp only [List.length_append, List.length_singleton, hl1, hlx, lk, hl3]; decide, ?_⟩
  have tx : ∀ {d : Dt}, (∃ x, d = .str x ∧ isText (.str x) = true) → Wt 20 0 1 0 d := fun ⟨x, e, h⟩ => by
    rw [e]
    exact Wt.leaf (text_oq h) (leafText h)
  have hM : ∀ x ∈ ys ++ xs ++ looksD ++ zs ++ [.tuple [.str "row", .tuple us]], Good x := by
    intro x hx'
    rcases List.mem_append.mp hx' with h | h
    · rcases List.mem_append.mp h with h | h
      · rcases List.mem_append.mp h with h | h
        · rcases List.mem_append.mp h with h | h
          · exact wt_good ((hy x h).more (Nat.le_refl _) (Nat.le_refl _) (by decide) (by decide)) (by decide) (by decide)
          · exact wt_good (hx x h) (by decide) (by decide)
        · exact wt_good ((looks_wt x h).more (Nat.le_refl _) (Nat.le_refl _) (by decide) (by decide)) (by decide) (by decide)
      · exact wt_good ((tx (hz x h)).more (Nat.le_refl _) (Nat.le_refl _) (by decide) (by decide)) (by decide) (by decide)
    · rw [List.mem_singleton.mp h]
      have z := Wt.rowOf (ds := us) (fun d hd => tx (hu' d hd)) (by rw [hl4]; decide)
      rw [hl4] at z
      exact wt_good (z.more (Nat.le_refl _) (Nat.le_refl _) (by decide) (by decide)) (by decide) (by decide)
  have hlM : (ys ++ xs ++ looksD ++ zs ++ [.tuple [.str "row", .tuple us]] : List Dt).length = 27 := by
    simp only [List.length_append, List.length_singleton, hl1, hlx, lk, hl3]
  generalize (ys ++ xs ++ looksD ++ zs ++ [.tuple [.str "row", .tuple us]] : List Dt) = M at hM hlM
  simp only [ret_app]
  rw [lcD_filter (items := M ++ M.reverse) (fun _ => false)]
  · rw [List.filter_eq_nil_iff.mpr (fun _ _ => Bool.false_ne_true)]
    exact ⟨.inl (.inl rfl), rfl⟩
  · simp only [sSeq, sIf, sNext, sAsg, sPar, sPar3, gN, bnd_ret, ret_app, bnd_grd, grd_app, sl_zero, sl_succ, slX_zero, slX_own, slX_succ, slO_zero, slO_own, slO_succ, slH_zero, slH_succ, frz_zero, frz_succ, own_zero, own_succ, onStr_str, asB_bool, asI_int, both_if, either_if, bothD_if, eitherD_if, choose_if, List.set_cons_zero, List.set_cons_succ, Bool.not_true, Bool.not_false, if_true, if_false, Bool.false_eq_true, grd_nil]
    show bnd (grd (M.length + M.reverse.length ≤ sizeLine) (Dl.ret (.list (M ++ M.reverse)))) itL = _
    rw [grd_true (by rw [List.length_reverse, hlM]; decide)]
    rfl
  · intro x hx'
    have hx' : Good x := hM x (by simpa using hx')
    have c1 : many (["_law_it"] : List Str).length mRight [Da.d x] = Dl.ret (.bool true) := (many_app _ _ _ rfl).trans (grd_true hx' _)
    refine ⟨_, rfl, ?_, rfl⟩
    simp only [sSeq, sIf, sNext, sAsg, sPar, sPar3, gN, bnd_ret, ret_app, bnd_grd, grd_app, sl_zero, sl_succ, slX_zero, slX_own, slX_succ, slO_zero, slO_own, slO_succ, slH_zero, slH_succ, frz_zero, frz_succ, own_zero, own_succ, onStr_str, asB_bool, asI_int, both_if, either_if, bothD_if, eitherD_if, choose_if, List.set_cons_zero, List.set_cons_succ, Bool.not_true, Bool.not_false, if_true, if_false, Bool.false_eq_true, grd_nil, wipeD_cons, wipeD_nil, List.map, c1]
end
end Ev
namespace Ev
open PySem PySem.Spec L2 Dl
open PyProof.Rows hiding St
/-! ### the head: facts by names, the run -/
def d_18 : He.DefD := ⟨("is_whole", none), "is_whole", "is_whole", defArgs s_18, defBody s_18, defScope s_18, [], []⟩
def d_19 : He.DefD := ⟨("is_name", none), "is_name", "is_name", defArgs s_19, defBody s_19, defScope s_19, [], []⟩
def d_20 : He.DefD := ⟨("is_text", none), "is_text", "is_text", defArgs s_20, defBody s_20, defScope s_20, [], []⟩
def d_21 : He.DefD := ⟨("is_row", none), "is_row", "is_row", defArgs s_21, defBody s_21, defScope s_21, [], []⟩
def d_22 : He.DefD := ⟨("is_named", none), "is_named", "is_named", defArgs s_22, defBody s_22, defScope s_22, [], []⟩
def d_23 : He.DefD := ⟨("is_bare", none), "is_bare", "is_bare", defArgs s_23, defBody s_23, defScope s_23, [], []⟩
def d_24 : He.DefD := ⟨("leaves", none), "leaves", "leaves", defArgs s_24, defBody s_24, defScope s_24, [], []⟩
def d_25 : He.DefD := ⟨("is_worth", none), "is_worth", "is_worth", defArgs s_25, defBody s_25, defScope s_25, [], []⟩
def d_31 : He.DefD := ⟨("show_worth", none), "show_worth", "show_worth", defArgs s_31, defBody s_31, defScope s_31, [], []⟩
def d_32 : He.DefD := ⟨("end_of", none), "end_of", "end_of", defArgs s_32, defBody s_32, defScope s_32, [], []⟩
def d_33 : He.DefD := ⟨("whole_at", none), "whole_at", "whole_at", defArgs s_33, defBody s_33, defScope s_33, [], []⟩
def d_34 : He.DefD := ⟨("number_at", none), "number_at", "number_at", defArgs s_34, defBody s_34, defScope s_34, [], []⟩
def d_35 : He.DefD := ⟨("quoted_at", none), "quoted_at", "quoted_at", defArgs s_35, defBody s_35, defScope s_35, [], []⟩
def d_36 : He.DefD := ⟨("row_at", none), "row_at", "row_at", defArgs s_36, defBody s_36, defScope s_36, [], []⟩
def d_37 : He.DefD := ⟨("thing_at", none), "thing_at", "thing_at", defArgs s_37, defBody s_37, defScope s_37, [], []⟩
def d_38 : He.DefD := ⟨("word_at", none), "word_at", "word_at", defArgs s_38, defBody s_38, defScope s_38, [], []⟩
def d_39 : He.DefD := ⟨("worth_at", none), "worth_at", "worth_at", defArgs s_39, defBody s_39, defScope s_39, [], []⟩
def d_40 : He.DefD := ⟨("read_worth", none), "read_worth", "read_worth", defArgs s_40, defBody s_40, defScope s_40, [], []⟩
def d_42 : He.DefD := ⟨("_law_begun", none), "_law_begun", "_law_begun", defArgs s_42, defBody s_42, defScope s_42, [], []⟩
def d_43 : He.DefD := ⟨("_law_dealt", none), "_law_dealt", "_law_dealt", defArgs s_43, defBody s_43, defScope s_43, [], []⟩
def d_44 : He.DefD := ⟨("_law_pick", none), "_law_pick", "_law_pick", defArgs s_44, defBody s_44, defScope s_44, [], []⟩
def d_45 : He.DefD := ⟨("_law_label", none), "_law_label", "_law_label", defArgs s_45, defBody s_45, defScope s_45, [], []⟩
def d_46 : He.DefD := ⟨("_law_leaf", none), "_law_leaf", "_law_leaf", defArgs s_46, defBody s_46, defScope s_46, [], []⟩
def d_47 : He.DefD := ⟨("_law_alike_looks", none), "_law_alike_looks", "_law_alike_looks", defArgs s_47, defBody s_47, defScope s_47, [], []⟩
def d_48 : He.DefD := ⟨("_law_drawn", none), "_law_drawn", "_law_drawn", defArgs s_48, defBody s_48, defScope s_48, [], []⟩
def d_49 : He.DefD := ⟨("_law_chain", none), "_law_chain", "_law_chain", defArgs s_49, defBody s_49, defScope s_49, [], []⟩
def d_50 : He.DefD := ⟨("_law_wide", none), "_law_wide", "_law_wide", defArgs s_50, defBody s_50, defScope s_50, [], []⟩
def d_51 : He.DefD := ⟨("_law_greatest", none), "_law_greatest", "_law_greatest", defArgs s_51, defBody s_51, defScope s_51, [], []⟩
def d_52 : He.DefD := ⟨("_law_beyond", none), "_law_beyond", "_law_beyond", defArgs s_52, defBody s_52, defScope s_52, [], []⟩
def d_53 : He.DefD := ⟨("_law_signs", none), "_law_signs", "_law_signs", defArgs s_53, defBody s_53, defScope s_53, [], []⟩
def d_54 : He.DefD := ⟨("_law_text_of", none), "_law_text_of", "_law_text_of", defArgs s_54, defBody s_54, defScope s_54, [], []⟩
def d_55 : He.DefD := ⟨("_law_right", none), "_law_right", "_law_right", defArgs s_55, defBody s_55, defScope s_55, [], []⟩
def d_56 : He.DefD := ⟨("law", none), "law", "law", defArgs s_56, defBody s_56, defScope s_56, [], []⟩
def fn : List He.DefD := [d_18, d_19, d_20, d_21, d_22, d_23, d_24, d_25, d_31, d_32, d_33, d_34, d_35, d_36, d_37, d_38, d_39, d_40, d_42, d_43, d_44, d_45, d_46, d_47, d_48, d_49, d_50, d_51, d_52, d_53, d_54, d_55, d_56]
def fa : List He.Fa := [.glo "is_whole", .glo "is_name", .glo "is_text", .glo "is_row", .glo "is_named", .glo "is_bare", .glo "leaves", .glo "is_worth", .glo "show_worth", .glo "end_of", .glo "whole_at", .glo "number_at", .glo "quoted_at", .glo "row_at", .glo "thing_at", .glo "word_at", .glo "worth_at", .glo "read_worth", .glo "_law_begun", .glo "_law_dealt", .glo "_law_pick", .glo "_law_label", .glo "_law_leaf", .glo "_law_alike_looks", .glo "_law_drawn", .glo "_law_chain", .glo "_law_wide", .glo "_law_greatest", .glo "_law_beyond", .glo "_law_signs", .glo "_law_text_of", .glo "_law_right", .glo "law", .free "abs", .free "all", .free "bool", .free "int", .free "isinstance", .free "len", .free "list", .free "ord", .free "range", .free "repr", .free "str", .free "tuple", .str "LETTERS" "abcdefghijklmnopqrstuvwxyz", .int "LONGEST_NAME" 8, .int "GREATEST" 1000000000000000, .int "LONGEST_TEXT" 20, .int "FIRST_SIGN" 32, .int "LAST_SIGN" 126, .glo "NO_SIGNS", .str "ROW" "row", .str "THING" "thing", .str "DEED" "deed", .str "KIND" "kind", .int "WIDEST" 40, .int "MOST_IN_ALL" 200, .int "DEEPEST" 8, .str "FIGURES" "0123456789", .int "MOST_FIGURES" 16, .glo "WORDS", .glo "SORTS"]
def ex (K : PySem.W.Frag) : Bool := He.tupB K "NO_SIGNS" [.int 37, .int 39] && Dl.tabB K "WORDS" tab_WORDS && Dl.tabB K "SORTS" tab_SORTS
def ts : List Dl.Tb := [("WORDS", ["none", "yes", "no"]), ("SORTS", [".", ":"])]
def loose : List PySem.Str := [("LETTERS" : PySem.Str), ("LONGEST_NAME" : PySem.Str), ("GREATEST" : PySem.Str), ("LONGEST_TEXT" : PySem.Str), ("FIRST_SIGN" : PySem.Str), ("LAST_SIGN" : PySem.Str), ("NO_SIGNS" : PySem.Str), ("ROW" : PySem.Str), ("THING" : PySem.Str), ("DEED" : PySem.Str), ("KIND" : PySem.Str), ("WIDEST" : PySem.Str), ("MOST_IN_ALL" : PySem.Str), ("DEEPEST" : PySem.Str), ("FIGURES" : PySem.Str), ("MOST_FIGURES" : PySem.Str), ("WORDS" : PySem.Str), ("SORTS" : PySem.Str), ("is_whole" : PySem.Str), ("is_name" : PySem.Str), ("is_text" : PySem.Str), ("is_row" : PySem.Str), ("is_named" : PySem.Str), ("is_bare" : PySem.Str), ("leaves" : PySem.Str), ("is_worth" : PySem.Str), ("show_worth" : PySem.Str), ("end_of" : PySem.Str), ("whole_at" : PySem.Str), ("number_at" : PySem.Str), ("quoted_at" : PySem.Str), ("row_at" : PySem.Str), ("thing_at" : PySem.Str), ("word_at" : PySem.Str), ("worth_at" : PySem.Str), ("read_worth" : PySem.Str), ("_law_begun" : PySem.Str), ("_law_dealt" : PySem.Str), ("_law_pick" : PySem.Str), ("_law_label" : PySem.Str), ("_law_leaf" : PySem.Str), ("_law_alike_looks" : PySem.Str), ("_law_drawn" : PySem.Str), ("_law_chain" : PySem.Str), ("_law_wide" : PySem.Str), ("_law_greatest" : PySem.Str), ("_law_beyond" : PySem.Str), ("_law_signs" : PySem.Str), ("_law_text_of" : PySem.Str), ("_law_right" : PySem.Str), ("SoError" : PySem.Str), ("NoText" : PySem.Str)]
abbrev R : PySem.W.OpenRow := PySem.W.OpenLaw.row PySem.Challenge.rw_everso_k04_worths_there_and_back
abbrev hk : PySem.W.Hook := Dl.hookZ 4 fa fn ex ts
def ob (s : PySem.W.SharedT) : (He.AlD × Bool) × List (Option (List (Option (Str × Int)))) := Dl.obsZ 4 fa fn ex ts (HandSHeadRun.getT s)
theorem ob_eq (s : PySem.W.SharedT) : ob s = hk.obs s.abs := Dl.obsZ_eq (HandSHeadRun.getT_eq s)
theorem run (w : World) : HandSHeadRun.RunEq R (PySem.W.view R.prog [56]) hk ob 3000 loose w :=
  PySem.W.byRow2 "special-get-raises" (P := fun w => HandSHeadRun.RunEq R (PySem.W.view R.prog [56]) hk ob 3000 loose w) (fun w os => by kernel_rfl) (fun w os => by kernel_rfl) w
abbrev Says (K : PySem.W.Frag) (w : World) : Prop := (He.SaysD fa fn K ∧ ex K = true) ∧ Dl.tabsIn K ts = Dl.tabsDue w ts
theorem facts_of {K : PySem.W.Frag} {w : World} {h : Heap} {mg : Str → Option Value} (X : K.In h) (G : h.Ns mainGlobals mg) (c : Says K w) : Fc K mg := by
  have e : ex K = true := c.1.2
  unfold ex at e
  simp only [Bool.and_eq_true] at e
  exact ⟨He.free_ok X G (c.1.1.fact 33 (f := .free "abs") rfl),
    He.free_ok X G (c.1.1.fact 34 (f := .free "all") rfl),
    He.free_ok X G (c.1.1.fact 35 (f := .free "bool") rfl),
    He.free_ok X G (c.1.1.fact 36 (f := .free "int") rfl),
    He.free_ok X G (c.1.1.fact 37 (f := .free "isinstance") rfl),
    He.free_ok X G (c.1.1.fact 38 (f := .free "len") rfl),
    He.free_ok X G (c.1.1.fact 39 (f := .free "list") rfl),
    He.free_ok X G (c.1.1.fact 40 (f := .free "ord") rfl),
    He.free_ok X G (c.1.1.fact 41 (f := .free "range") rfl),
    He.free_ok X G (c.1.1.fact 42 (f := .free "repr") rfl),
    He.free_ok X G (c.1.1.fact 43 (f := .free "str") rfl),
    He.free_ok X G (c.1.1.fact 44 (f := .free "tuple") rfl),
    He.str_ok X G (c.1.1.fact 45 (f := .str "LETTERS" "abcdefghijklmnopqrstuvwxyz") rfl),
    He.int_ok X G (c.1.1.fact 46 (f := .int "LONGEST_NAME" 8) rfl),
    He.int_ok X G (c.1.1.fact 47 (f := .int "GREATEST" 1000000000000000) rfl),
    He.int_ok X G (c.1.1.fact 48 (f := .int "LONGEST_TEXT" 20) rfl),
    He.int_ok X G (c.1.1.fact 49 (f := .int "FIRST_SIGN" 32) rfl),
    He.int_ok X G (c.1.1.fact 50 (f := .int "LAST_SIGN" 126) rfl),
    ⟨_, He.glo_ok X G (c.1.1.fact 51 (f := .glo "NO_SIGNS") rfl), rfl⟩,
    fun F => .tup (He.tupB_ok e.1.1 F) (.cons (.int _) (.cons (.int _) .nil)),
    He.str_ok X G (c.1.1.fact 52 (f := .str "ROW" "row") rfl),
    He.str_ok X G (c.1.1.fact 53 (f := .str "THING" "thing") rfl),
    He.str_ok X G (c.1.1.fact 54 (f := .str "DEED" "deed") rfl),
    He.str_ok X G (c.1.1.fact 55 (f := .str "KIND" "kind") rfl),
    He.int_ok X G (c.1.1.fact 56 (f := .int "WIDEST" 40) rfl),
    He.int_ok X G (c.1.1.fact 57 (f := .int "MOST_IN_ALL" 200) rfl),
    He.int_ok X G (c.1.1.fact 58 (f := .int "DEEPEST" 8) rfl),
    He.str_ok X G (c.1.1.fact 59 (f := .str "FIGURES" "0123456789") rfl),
    He.int_ok X G (c.1.1.fact 60 (f := .int "MOST_FIGURES" 16) rfl)⟩
theorem df_18 {K : PySem.W.Frag} {w : World} {h : Heap} {mg : Str → Option Value} (X : K.In h) (G : h.Ns mainGlobals mg) (c : Says K w) : ∃ fd, Df K mg "is_whole" s_18 ["thing"] (He.ga K "is_whole") fd := by
  obtain ⟨fd, F⟩ := c.1.1.def_ 0 (d := d_18) rfl
  exact ⟨fd, F, He.glo_ok X G (c.1.1.fact 0 (f := .glo "is_whole") rfl), fun us hl s => FunD.bindsA F (ps := ["thing"]) (fun _ _ _ _ _ _ us hl => match us, hl with | [_], _ => rfl) s us hl⟩
theorem df_19 {K : PySem.W.Frag} {w : World} {h : Heap} {mg : Str → Option Value} (X : K.In h) (G : h.Ns mainGlobals mg) (c : Says K w) : ∃ fd, Df K mg "is_name" s_19 ["thing"] (He.ga K "is_name") fd := by
  obtain ⟨fd, F⟩ := c.1.1.def_ 1 (d := d_19) rfl
  exact ⟨fd, F, He.glo_ok X G (c.1.1.fact 1 (f := .glo "is_name") rfl), fun us hl s => FunD.bindsA F (ps := ["thing"]) (fun _ _ _ _ _ _ us hl => match us, hl with | [_], _ => rfl) s us hl⟩
theorem df_20 {K : PySem.W.Frag} {w : World} {h : Heap} {mg : Str → Option Value} (X : K.In h) (G : h.Ns mainGlobals mg) (c : Says K w) : ∃ fd, Df K mg "is_text" s_20 ["thing"] (He.ga K "is_text") fd := by
  obtain ⟨fd, F⟩ := c.1.1.def_ 2 (d := d_20) rfl
  exact ⟨fd, F, He.glo_ok X G (c.1.1.fact 2 (f := .glo "is_text") rfl), fun us hl s => FunD.bindsA F (ps := ["thing"]) (fun _ _ _ _ _ _ us hl => match us, hl with | [_], _ => rfl) s us hl⟩
theorem df_21 {K : PySem.W.Frag} {w : World} {h : Heap} {mg : Str → Option Value} (X : K.In h) (G : h.Ns mainGlobals mg) (c : Says K w) : ∃ fd, Df K mg "is_row" s_21 ["thing"] (He.ga K "is_row") fd := by
  obtain ⟨fd, F⟩ := c.1.1.def_ 3 (d := d_21) rfl
  exact ⟨fd, F, He.glo_ok X G (c.1.1.fact 3 (f := .glo "is_row") rfl), fun us hl s => FunD.bindsA F (ps := ["thing"]) (fun _ _ _ _ _ _ us hl => match us, hl with | [_], _ => rfl) s us hl⟩
theorem df_22 {K : PySem.W.Frag} {w : World} {h : Heap} {mg : Str → Option Value} (X : K.In h) (G : h.Ns mainGlobals mg) (c : Says K w) : ∃ fd, Df K mg "is_named" s_22 ["thing"] (He.ga K "is_named") fd := by
  obtain ⟨fd, F⟩ := c.1.1.def_ 4 (d := d_22) rfl
  exact ⟨fd, F, He.glo_ok X G (c.1.1.fact 4 (f := .glo "is_named") rfl), fun us hl s => FunD.bindsA F (ps := ["thing"]) (fun _ _ _ _ _ _ us hl => match us, hl with | [_], _ => rfl) s us hl⟩
theorem df_23 {K : PySem.W.Frag} {w : World} {h : Heap} {mg : Str → Option Value} (X : K.In h) (G : h.Ns mainGlobals mg) (c : Says K w) : ∃ fd, Df K mg "is_bare" s_23 ["thing"] (He.ga K "is_bare") fd := by
  obtain ⟨fd, F⟩ := c.1.1.def_ 5 (d := d_23) rfl
  exact ⟨fd, F, He.glo_ok X G (c.1.1.fact 5 (f := .glo "is_bare") rfl), fun us hl s => FunD.bindsA F (ps := ["thing"]) (fun _ _ _ _ _ _ us hl => match us, hl with | [_], _ => rfl) s us hl⟩
theorem df_24 {K : PySem.W.Frag} {w : World} {h : Heap} {mg : Str → Option Value} (X : K.In h) (G : h.Ns mainGlobals mg) (c : Says K w) : ∃ fd, Df K mg "leaves" s_24 ["thing"] (He.ga K "leaves") fd := by
  obtain ⟨fd, F⟩ := c.1.1.def_ 6 (d := d_24) rfl
  exact ⟨fd, F, He.glo_ok X G (c.1.1.fact 6 (f := .glo "leaves") rfl), fun us hl s => FunD.bindsA F (ps := ["thing"]) (fun _ _ _ _ _ _ us hl => match us, hl with | [_], _ => rfl) s us hl⟩
theorem df_25 {K : PySem.W.Frag} {w : World} {h : Heap} {mg : Str → Option Value} (X : K.In h) (G : h.Ns mainGlobals mg) (c : Says K w) : ∃ fd, Df K mg "is_worth" s_25 ["thing"] (He.ga K "is_worth") fd := by
  obtain ⟨fd, F⟩ := c.1.1.def_ 7 (d := d_25) rfl
  exact ⟨fd, F, He.glo_ok X G (c.1.1.fact 7 (f := .glo "is_worth") rfl), fun us hl s => FunD.bindsA F (ps := ["thing"]) (fun _ _ _ _ _ _ us hl => match us, hl with | [_], _ => rfl) s us hl⟩
theorem df_31 {K : PySem.W.Frag} {w : World} {h : Heap} {mg : Str → Option Value} (X : K.In h) (G : h.Ns mainGlobals mg) (c : Says K w) : ∃ fd, Df K mg "show_worth" s_31 ["worth"] (He.ga K "show_worth") fd := by
  obtain ⟨fd, F⟩ := c.1.1.def_ 8 (d := d_31) rfl
  exact ⟨fd, F, He.glo_ok X G (c.1.1.fact 8 (f := .glo "show_worth") rfl), fun us hl s => FunD.bindsA F (ps := ["worth"]) (fun _ _ _ _ _ _ us hl => match us, hl with | [_], _ => rfl) s us hl⟩
theorem df_32 {K : PySem.W.Frag} {w : World} {h : Heap} {mg : Str → Option Value} (X : K.In h) (G : h.Ns mainGlobals mg) (c : Says K w) : ∃ fd, Df K mg "end_of" s_32 ["text", "at", "signs"] (He.ga K "end_of") fd := by
  obtain ⟨fd, F⟩ := c.1.1.def_ 9 (d := d_32) rfl
  exact ⟨fd, F, He.glo_ok X G (c.1.1.fact 9 (f := .glo "end_of") rfl), fun us hl s => FunD.bindsA F (ps := ["text", "at", "signs"]) (fun _ _ _ _ _ _ us hl => match us, hl with | [_, _, _], _ => rfl) s us hl⟩
theorem df_33 {K : PySem.W.Frag} {w : World} {h : Heap} {mg : Str → Option Value} (X : K.In h) (G : h.Ns mainGlobals mg) (c : Says K w) : ∃ fd, Df K mg "whole_at" s_33 ["text", "at"] (He.ga K "whole_at") fd := by
  obtain ⟨fd, F⟩ := c.1.1.def_ 10 (d := d_33) rfl
  exact ⟨fd, F, He.glo_ok X G (c.1.1.fact 10 (f := .glo "whole_at") rfl), fun us hl s => FunD.bindsA F (ps := ["text", "at"]) (fun _ _ _ _ _ _ us hl => match us, hl with | [_, _], _ => rfl) s us hl⟩
theorem df_34 {K : PySem.W.Frag} {w : World} {h : Heap} {mg : Str → Option Value} (X : K.In h) (G : h.Ns mainGlobals mg) (c : Says K w) : ∃ fd, Df K mg "number_at" s_34 ["text", "at"] (He.ga K "number_at") fd := by
  obtain ⟨fd, F⟩ := c.1.1.def_ 11 (d := d_34) rfl
  exact ⟨fd, F, He.glo_ok X G (c.1.1.fact 11 (f := .glo "number_at") rfl), fun us hl s => FunD.bindsA F (ps := ["text", "at"]) (fun _ _ _ _ _ _ us hl => match us, hl with | [_, _], _ => rfl) s us hl⟩
theorem df_35 {K : PySem.W.Frag} {w : World} {h : Heap} {mg : Str → Option Value} (X : K.In h) (G : h.Ns mainGlobals mg) (c : Says K w) : ∃ fd, Df K mg "quoted_at" s_35 ["text", "at"] (He.ga K "quoted_at") fd := by
  obtain ⟨fd, F⟩ := c.1.1.def_ 12 (d := d_35) rfl
  exact ⟨fd, F, He.glo_ok X G (c.1.1.fact 12 (f := .glo "quoted_at") rfl), fun us hl s => FunD.bindsA F (ps := ["text", "at"]) (fun _ _ _ _ _ _ us hl => match us, hl with | [_, _], _ => rfl) s us hl⟩
theorem df_36 {K : PySem.W.Frag} {w : World} {h : Heap} {mg : Str → Option Value} (X : K.In h) (G : h.Ns mainGlobals mg) (c : Says K w) : ∃ fd, Df K mg "row_at" s_36 ["text", "at"] (He.ga K "row_at") fd := by
  obtain ⟨fd, F⟩ := c.1.1.def_ 13 (d := d_36) rfl
  exact ⟨fd, F, He.glo_ok X G (c.1.1.fact 13 (f := .glo "row_at") rfl), fun us hl s => FunD.bindsA F (ps := ["text", "at"]) (fun _ _ _ _ _ _ us hl => match us, hl with | [_, _], _ => rfl) s us hl⟩
theorem df_37 {K : PySem.W.Frag} {w : World} {h : Heap} {mg : Str → Option Value} (X : K.In h) (G : h.Ns mainGlobals mg) (c : Says K w) : ∃ fd, Df K mg "thing_at" s_37 ["text", "at"] (He.ga K "thing_at") fd := by
  obtain ⟨fd, F⟩ := c.1.1.def_ 14 (d := d_37) rfl
  exact ⟨fd, F, He.glo_ok X G (c.1.1.fact 14 (f := .glo "thing_at") rfl), fun us hl s => FunD.bindsA F (ps := ["text", "at"]) (fun _ _ _ _ _ _ us hl => match us, hl with | [_, _], _ => rfl) s us hl⟩
theorem df_38 {K : PySem.W.Frag} {w : World} {h : Heap} {mg : Str → Option Value} (X : K.In h) (G : h.Ns mainGlobals mg) (c : Says K w) : ∃ fd, Df K mg "word_at" s_38 ["text", "at"] (He.ga K "word_at") fd := by
  obtain ⟨fd, F⟩ := c.1.1.def_ 15 (d := d_38) rfl
  exact ⟨fd, F, He.glo_ok X G (c.1.1.fact 15 (f := .glo "word_at") rfl), fun us hl s => FunD.bindsA F (ps := ["text", "at"]) (fun _ _ _ _ _ _ us hl => match us, hl with | [_, _], _ => rfl) s us hl⟩
theorem df_39 {K : PySem.W.Frag} {w : World} {h : Heap} {mg : Str → Option Value} (X : K.In h) (G : h.Ns mainGlobals mg) (c : Says K w) : ∃ fd, Df K mg "worth_at" s_39 ["text", "at"] (He.ga K "worth_at") fd := by
  obtain ⟨fd, F⟩ := c.1.1.def_ 16 (d := d_39) rfl
  exact ⟨fd, F, He.glo_ok X G (c.1.1.fact 16 (f := .glo "worth_at") rfl), fun us hl s => FunD.bindsA F (ps := ["text", "at"]) (fun _ _ _ _ _ _ us hl => match us, hl with | [_, _], _ => rfl) s us hl⟩
theorem df_40 {K : PySem.W.Frag} {w : World} {h : Heap} {mg : Str → Option Value} (X : K.In h) (G : h.Ns mainGlobals mg) (c : Says K w) : ∃ fd, Df K mg "read_worth" s_40 ["text"] (He.ga K "read_worth") fd := by
  obtain ⟨fd, F⟩ := c.1.1.def_ 17 (d := d_40) rfl
  exact ⟨fd, F, He.glo_ok X G (c.1.1.fact 17 (f := .glo "read_worth") rfl), fun us hl s => FunD.bindsA F (ps := ["text"]) (fun _ _ _ _ _ _ us hl => match us, hl with | [_], _ => rfl) s us hl⟩
theorem df_42 {K : PySem.W.Frag} {w : World} {h : Heap} {mg : Str → Option Value} (X : K.In h) (G : h.Ns mainGlobals mg) (c : Says K w) : ∃ fd, Df K mg "_law_begun" s_42 ["_law_script"] (He.ga K "_law_begun") fd := by
  obtain ⟨fd, F⟩ := c.1.1.def_ 18 (d := d_42) rfl
  exact ⟨fd, F, He.glo_ok X G (c.1.1.fact 18 (f := .glo "_law_begun") rfl), fun us hl s => FunD.bindsA F (ps := ["_law_script"]) (fun _ _ _ _ _ _ us hl => match us, hl with | [_], _ => rfl) s us hl⟩
theorem df_43 {K : PySem.W.Frag} {w : World} {h : Heap} {mg : Str → Option Value} (X : K.In h) (G : h.Ns mainGlobals mg) (c : Says K w) : ∃ fd, Df K mg "_law_dealt" s_43 ["_law_hand", "_law_lots"] (He.ga K "_law_dealt") fd := by
  obtain ⟨fd, F⟩ := c.1.1.def_ 19 (d := d_43) rfl
  exact ⟨fd, F, He.glo_ok X G (c.1.1.fact 19 (f := .glo "_law_dealt") rfl), fun us hl s => FunD.bindsA F (ps := ["_law_hand", "_law_lots"]) (fun _ _ _ _ _ _ us hl => match us, hl with | [_, _], _ => rfl) s us hl⟩
theorem df_44 {K : PySem.W.Frag} {w : World} {h : Heap} {mg : Str → Option Value} (X : K.In h) (G : h.Ns mainGlobals mg) (c : Says K w) : ∃ fd, Df K mg "_law_pick" s_44 ["_law_hand", "_law_some"] (He.ga K "_law_pick") fd := by
  obtain ⟨fd, F⟩ := c.1.1.def_ 20 (d := d_44) rfl
  exact ⟨fd, F, He.glo_ok X G (c.1.1.fact 20 (f := .glo "_law_pick") rfl), fun us hl s => FunD.bindsA F (ps := ["_law_hand", "_law_some"]) (fun _ _ _ _ _ _ us hl => match us, hl with | [_, _], _ => rfl) s us hl⟩
theorem df_45 {K : PySem.W.Frag} {w : World} {h : Heap} {mg : Str → Option Value} (X : K.In h) (G : h.Ns mainGlobals mg) (c : Says K w) : ∃ fd, Df K mg "_law_label" s_45 ["_law_hand"] (He.ga K "_law_label") fd := by
  obtain ⟨fd, F⟩ := c.1.1.def_ 21 (d := d_45) rfl
  exact ⟨fd, F, He.glo_ok X G (c.1.1.fact 21 (f := .glo "_law_label") rfl), fun us hl s => FunD.bindsA F (ps := ["_law_hand"]) (fun _ _ _ _ _ _ us hl => match us, hl with | [_], _ => rfl) s us hl⟩
theorem df_46 {K : PySem.W.Frag} {w : World} {h : Heap} {mg : Str → Option Value} (X : K.In h) (G : h.Ns mainGlobals mg) (c : Says K w) : ∃ fd, Df K mg "_law_leaf" s_46 ["_law_hand"] (He.ga K "_law_leaf") fd := by
  obtain ⟨fd, F⟩ := c.1.1.def_ 22 (d := d_46) rfl
  exact ⟨fd, F, He.glo_ok X G (c.1.1.fact 22 (f := .glo "_law_leaf") rfl), fun us hl s => FunD.bindsA F (ps := ["_law_hand"]) (fun _ _ _ _ _ _ us hl => match us, hl with | [_], _ => rfl) s us hl⟩
theorem df_47 {K : PySem.W.Frag} {w : World} {h : Heap} {mg : Str → Option Value} (X : K.In h) (G : h.Ns mainGlobals mg) (c : Says K w) : ∃ fd, Df K mg "_law_alike_looks" s_47 [] (He.ga K "_law_alike_looks") fd := by
  obtain ⟨fd, F⟩ := c.1.1.def_ 23 (d := d_47) rfl
  exact ⟨fd, F, He.glo_ok X G (c.1.1.fact 23 (f := .glo "_law_alike_looks") rfl), fun us hl s => FunD.bindsA F (ps := []) (fun _ _ _ _ _ _ us hl => match us, hl with | [], _ => rfl) s us hl⟩
theorem df_48 {K : PySem.W.Frag} {w : World} {h : Heap} {mg : Str → Option Value} (X : K.In h) (G : h.Ns mainGlobals mg) (c : Says K w) : ∃ fd, Df K mg "_law_drawn" s_48 ["_law_hand", "_law_deep"] (He.ga K "_law_drawn") fd := by
  obtain ⟨fd, F⟩ := c.1.1.def_ 24 (d := d_48) rfl
  exact ⟨fd, F, He.glo_ok X G (c.1.1.fact 24 (f := .glo "_law_drawn") rfl), fun us hl s => FunD.bindsA F (ps := ["_law_hand", "_law_deep"]) (fun _ _ _ _ _ _ us hl => match us, hl with | [_, _], _ => rfl) s us hl⟩
theorem df_49 {K : PySem.W.Frag} {w : World} {h : Heap} {mg : Str → Option Value} (X : K.In h) (G : h.Ns mainGlobals mg) (c : Says K w) : ∃ fd, Df K mg "_law_chain" s_49 ["_law_inner", "_law_lots"] (He.ga K "_law_chain") fd := by
  obtain ⟨fd, F⟩ := c.1.1.def_ 25 (d := d_49) rfl
  exact ⟨fd, F, He.glo_ok X G (c.1.1.fact 25 (f := .glo "_law_chain") rfl), fun us hl s => FunD.bindsA F (ps := ["_law_inner", "_law_lots"]) (fun _ _ _ _ _ _ us hl => match us, hl with | [_, _], _ => rfl) s us hl⟩
theorem df_50 {K : PySem.W.Frag} {w : World} {h : Heap} {mg : Str → Option Value} (X : K.In h) (G : h.Ns mainGlobals mg) (c : Says K w) : ∃ fd, Df K mg "_law_wide" s_50 ["_law_inner", "_law_lots"] (He.ga K "_law_wide") fd := by
  obtain ⟨fd, F⟩ := c.1.1.def_ 26 (d := d_50) rfl
  exact ⟨fd, F, He.glo_ok X G (c.1.1.fact 26 (f := .glo "_law_wide") rfl), fun us hl s => FunD.bindsA F (ps := ["_law_inner", "_law_lots"]) (fun _ _ _ _ _ _ us hl => match us, hl with | [_, _], _ => rfl) s us hl⟩
theorem df_51 {K : PySem.W.Frag} {w : World} {h : Heap} {mg : Str → Option Value} (X : K.In h) (G : h.Ns mainGlobals mg) (c : Says K w) : ∃ fd, Df K mg "_law_greatest" s_51 ["_law_hand"] (He.ga K "_law_greatest") fd := by
  obtain ⟨fd, F⟩ := c.1.1.def_ 27 (d := d_51) rfl
  exact ⟨fd, F, He.glo_ok X G (c.1.1.fact 27 (f := .glo "_law_greatest") rfl), fun us hl s => FunD.bindsA F (ps := ["_law_hand"]) (fun _ _ _ _ _ _ us hl => match us, hl with | [_], _ => rfl) s us hl⟩
theorem df_52 {K : PySem.W.Frag} {w : World} {h : Heap} {mg : Str → Option Value} (X : K.In h) (G : h.Ns mainGlobals mg) (c : Says K w) : ∃ fd, Df K mg "_law_beyond" s_52 ["_law_hand"] (He.ga K "_law_beyond") fd := by
  obtain ⟨fd, F⟩ := c.1.1.def_ 28 (d := d_52) rfl
  exact ⟨fd, F, He.glo_ok X G (c.1.1.fact 28 (f := .glo "_law_beyond") rfl), fun us hl s => FunD.bindsA F (ps := ["_law_hand"]) (fun _ _ _ _ _ _ us hl => match us, hl with | [_], _ => rfl) s us hl⟩
theorem df_53 {K : PySem.W.Frag} {w : World} {h : Heap} {mg : Str → Option Value} (X : K.In h) (G : h.Ns mainGlobals mg) (c : Says K w) : ∃ fd, Df K mg "_law_signs" s_53 ["_law_hand"] (He.ga K "_law_signs") fd := by
  obtain ⟨fd, F⟩ := c.1.1.def_ 29 (d := d_53) rfl
  exact ⟨fd, F, He.glo_ok X G (c.1.1.fact 29 (f := .glo "_law_signs") rfl), fun us hl s => FunD.bindsA F (ps := ["_law_hand"]) (fun _ _ _ _ _ _ us hl => match us, hl with | [_], _ => rfl) s us hl⟩
theorem df_54 {K : PySem.W.Frag} {w : World} {h : Heap} {mg : Str → Option Value} (X : K.In h) (G : h.Ns mainGlobals mg) (c : Says K w) : ∃ fd, Df K mg "_law_text_of" s_54 ["_law_it"] (He.ga K "_law_text_of") fd := by
  obtain ⟨fd, F⟩ := c.1.1.def_ 30 (d := d_54) rfl
  exact ⟨fd, F, He.glo_ok X G (c.1.1.fact 30 (f := .glo "_law_text_of") rfl), fun us hl s => FunD.bindsA F (ps := ["_law_it"]) (fun _ _ _ _ _ _ us hl => match us, hl with | [_], _ => rfl) s us hl⟩
theorem df_55 {K : PySem.W.Frag} {w : World} {h : Heap} {mg : Str → Option Value} (X : K.In h) (G : h.Ns mainGlobals mg) (c : Says K w) : ∃ fd, Df K mg "_law_right" s_55 ["_law_it"] (He.ga K "_law_right") fd := by
  obtain ⟨fd, F⟩ := c.1.1.def_ 31 (d := d_55) rfl
  exact ⟨fd, F, He.glo_ok X G (c.1.1.fact 31 (f := .glo "_law_right") rfl), fun us hl s => FunD.bindsA F (ps := ["_law_it"]) (fun _ _ _ _ _ _ us hl => match us, hl with | [_], _ => rfl) s us hl⟩
theorem df_56 {K : PySem.W.Frag} {w : World} {h : Heap} {mg : Str → Option Value} (X : K.In h) (G : h.Ns mainGlobals mg) (c : Says K w) : ∃ fd, Df K mg "law" s_56 ["_law_script"] (He.ga K "law") fd := by
  obtain ⟨fd, F⟩ := c.1.1.def_ 32 (d := d_56) rfl
  exact ⟨fd, F, He.glo_ok X G (c.1.1.fact 32 (f := .glo "law") rfl), fun us hl s => FunD.bindsA F (ps := ["_law_script"]) (fun _ _ _ _ _ _ us hl => match us, hl with | [_], _ => rfl) s us hl⟩
theorem tabs_of {K : PySem.W.Frag} {w : World} {h : Heap} {mg : Str → Option Value} (X : K.In h) (G : h.Ns mainGlobals mg) (c : Says K w) : Ft K w mg := by
  have e : ex K = true := c.1.2
  unfold ex at e
  simp only [Bool.and_eq_true] at e
  exact ⟨Dl.tab_ok (He.glo_ok X G (c.1.1.fact 61 (f := .glo "WORDS") rfl)) (Dl.tabs_at c.2 0 rfl) e.1.2,
    Dl.tab_ok (He.glo_ok X G (c.1.1.fact 62 (f := .glo "SORTS") rfl)) (Dl.tabs_at c.2 1 rfl) e.2⟩
/-- the law keeps its promise: the defs one behind another -/
theorem law_ok {P : Program} {w : World} {K : PySem.W.Frag} {h : Heap} {mg : Str → Option Value} {fa' : Addr} (X : K.In h) (G : h.Ns mainGlobals mg) (hfa : mg ("law" : Str) = some (.ref fa')) (c : Says K w) :
    ∃ fd : FuncData, (∀ (s : Shared) (u : Value), BindsTo s fd ⟨[u], []⟩ [("_law_script", u)]) ∧ ∀ base : Heap, K.In base → base.Ns mainGlobals mg → FnG P w K mg base 60 fa' fd ["_law_script"] (spLaw K) := by
  have F := facts_of X G c
  have T := tabs_of X G c
  obtain ⟨_, Dwhole⟩ := df_18 X G c
  obtain ⟨_, Dname⟩ := df_19 X G c
  obtain ⟨_, Dtext⟩ := df_20 X G c
  obtain ⟨_, Drow⟩ := df_21 X G c
  obtain ⟨_, Dnamed⟩ := df_22 X G c
  obtain ⟨_, Dbare⟩ := df_23 X G c
  obtain ⟨_, Dleaves⟩ := df_24 X G c
  obtain ⟨_, Dworth⟩ := df_25 X G c
  obtain ⟨_, Dshow⟩ := df_31 X G c
  obtain ⟨_, Dend⟩ := df_32 X G c
  obtain ⟨_, Dwholeat⟩ := df_33 X G c
  obtain ⟨_, Dnumber⟩ := df_34 X G c
  obtain ⟨_, Dquoted⟩ := df_35 X G c
  obtain ⟨_, Drowat⟩ := df_36 X G c
  obtain ⟨_, Dthing⟩ := df_37 X G c
  obtain ⟨_, Dword⟩ := df_38 X G c
  obtain ⟨_, Dworthat⟩ := df_39 X G c
  obtain ⟨_, Dread⟩ := df_40 X G c
  obtain ⟨_, Dbegun⟩ := df_42 X G c
  obtain ⟨_, Ddealt⟩ := df_43 X G c
  obtain ⟨_, Dpick⟩ := df_44 X G c
  obtain ⟨_, Dlabel⟩ := df_45 X G c
  obtain ⟨_, Dleaf⟩ := df_46 X G c
  obtain ⟨_, Dlooks⟩ := df_47 X G c
  obtain ⟨_, Ddrawn⟩ := df_48 X G c
  obtain ⟨_, Dchain⟩ := df_49 X G c
  obtain ⟨_, Dwide⟩ := df_50 X G c
  obtain ⟨_, Dgreatest⟩ := df_51 X G c
  obtain ⟨_, Dsigns⟩ := df_53 X G c
  obtain ⟨_, Dtextof⟩ := df_54 X G c
  obtain ⟨_, Dright⟩ := df_55 X G c
  obtain ⟨fd, D⟩ := df_56 X G c
  have e := hfa.symm.trans D.g
  cases e
  refine ⟨fd, fun s u => D.b [u] rfl s, fun base _ _ => ?_⟩
  have Kwhole := ok_is_whole (P := P) (w := w) (base := base) (k := 0) F Dwhole
  have Kname := ok_is_name (P := P) (w := w) (base := base) (k := 0) F Dname
  have Ktext := ok_is_text (P := P) (w := w) (base := base) (k := 0) F Dtext
  have Krow := ok_is_row (P := P) (w := w) (base := base) (k := 0) F Drow
  have Knamed := ok_is_named (k := 1) F Kwhole Kname Dnamed
  have Kbare := ok_is_bare (k := 1) F Kwhole Ktext Dbare
  have Kleaves := ok_leaves (k := 1) F Krow Dleaves
  have Kworth := ok_is_worth (k := 2) F Kleaves Kbare Knamed Dworth
  have Kshow := show_all (k := 1) F Krow Dshow 50
  have Kend := ok_end (P := P) (w := w) (base := base) (k := 0) F Dend
  have Kwholeat := ok_whole (k := 1) F Kend Dwholeat
  have Knumber := ok_number (k := 2) F Kwholeat Dnumber
  have Kquoted := ok_quoted (P := P) (w := w) (base := base) (k := 2) F Dquoted
  have Kthing := ok_thing (k := 2) F Kwholeat Dthing
  have Kword := ok_word (k := 2) F T (Kend.more (by omega)) Dword
  have Kworthat := worth_all (k := 3) F Kquoted Kthing Knumber Kword Dworthat Drowat 8
  have Kread := ok_read (k := 21) F Kworthat (Kworth.more (by omega)) Dread
  have Kdealt := ok_dealt (P := P) (w := w) (base := base) (k := 0) Ddealt
  have Kpick := ok_pick (k := 1) F Kdealt Dpick
  have KpickS := ok_pickS (k := 1) F Kdealt Dpick
  have Klabel := ok_label (k := 2) F Kpick Dlabel
  have Kleaf := ok_leaf (k := 3) F (Kdealt.more (by omega)) (Kpick.more (by omega)) Klabel Dleaf
  have Klooks := ok_looks (P := P) (w := w) (base := base) (k := 0) F Dlooks
  have Kdrawn := drawn_all (k := 4) F (Kdealt.more (by omega)) (Kpick.more (by omega)) Kleaf (Klooks.more (by omega)) Ddrawn 3
  have Kchain := ok_chain (P := P) (w := w) (base := base) (k := 0) F Dchain
  have Kwide := ok_wide (P := P) (w := w) (base := base) (k := 0) F Dwide
  have Kgreatest := ok_greatest (k := 4) F Kleaf (Kchain.more (by omega)) (Kwide.more (by omega)) Dgreatest
  have Ksigns := ok_signs (k := 2) F (Kdealt.more (by omega)) KpickS Dsigns
  have Ktextof := text_all (P := P) (w := w) (base := base) (k := 0) F Dtextof 50
  have Kright := ok_right (k := 55) F (Kshow.more (by omega)) (Kread.more (by omega)) (Ktextof.more (by omega)) Dright
  exact ok_law (k := 59) F Dbegun (ok_begun (k := 58) F Dbegun) (Kdrawn.more (by omega)) (Kgreatest.more (by omega)) (Klooks.more (by omega)) (Ksigns.more (by omega)) (Kright.more (by omega)) D
end Ev
open PySem PySem.W PySem.Calls PyProof.Rows
set_option maxHeartbeats 0 in
theorem PySem.Challenge.cw_everso_k04_worths_there_and_back_holds : PySem.Challenge.rw_everso_k04_worths_there_and_back.Holds := by
  w_on; o_law
  refine HandSHeadRun.head_any (r := OpenLaw.row PySem.Challenge.rw_everso_k04_worths_there_and_back) (q := view (OpenLaw.row PySem.Challenge.rw_everso_k04_worths_there_and_back).prog [56]) (H := Ev.hk) (ob := Ev.ob) (M := 3000) (loose := Ev.loose) (d := HandSHeadRun.topDef (OpenLaw.row PySem.Challenge.rw_everso_k04_worths_there_and_back).prog 56) (kwd := []) Ev.ob_eq
    (by kernel_rfl) (fun s => by kernel_rfl) Ev.run (by kernel_rfl) (by kernel_rfl) (by kernel_rfl) (by rfl) (by first | assumption | decide +kernel) (by decide +kernel) ⟨rfl, rfl, rfl, rfl, rfl, by decide +kernel⟩ ?hw ?hc
  case hw => w_witness2
  case hc =>
    refine Dl.walk_G (l := PySem.Challenge.rw_everso_k04_worths_there_and_back) (k := 60) (x := "_law_script") rfl (by kernel_rfl) ⟨rfl, by decide, by decide⟩ ?_
    intro w mg fa h Y G hmg0
    obtain ⟨K, KX, c⟩ := Y
    have hmg : mg ("law" : PySem.Str) = some (.ref fa) := by
      have e : (HandSHeadRun.topDef (OpenLaw.row PySem.Challenge.rw_everso_k04_worths_there_and_back).prog 56).name = ("law" : PySem.Str) := by kernel_rfl
      rw [← e]
      exact hmg0
    obtain ⟨fd, hb, hF⟩ := Ev.law_ok (P := (PySem.Challenge.rw_everso_k04_worths_there_and_back).prog) (w := w) KX G hmg c
    exact ⟨K, fd, KX, hb, hF⟩
