import PyProof.Rows.All
import Wide.All
import OpenK.AllK
import Wide.FinOn
import PyProof.EqAt
import PyProof.EqKinds
import PyProof.TupleCall
import HandS.ForMost
import HandS.Evl
import HandS.Wide
import HandS.TupAny
import HandS.TupMul
import HandS.Style
import HandS.Conv
import HandS.Codes
import HandS.RaiseMore
import HandS.IsInst
import HandS.Flow
import PyProof.ReprRoads
import KE.KRevSl
import HandS.Strs
import HandS.Set
import PyProof.Rows.SortShellAny
import HandS.DictComp
import HandS.ExcOwn
import HandS.Defaults
import HandS.EndBits
import PyProof.ReprLen
import PyProof.Rows.RegFStrParts
import PySem.Challenge.RW_deepedge_k68_live_values
section
set_option Elab.async false
set_option linter.all false
set_option maxRecDepth 100000
set_option maxHeartbeats 1000000
/-! DL: judgements over plain data. A state is a list of slots and a list of owned objects, told by number. -/
namespace DL
open PySem PySem.Spec PyProof.Rows L2 Evl

/-- what stands in a slot or an item: data, a list of ints that stands aside (the script), an owned object by its number, any other value -/
inductive Rv where
  | d (x : PyData)
  | f (ns : List Int)
  | o (n : Nat)
  | v (x : V)
/-- an owned object -/
inductive OD where
  | lst (xs : List Rv)
  | dct (kvs : List (Key × Rv))
  | ins (C : Addr) (fs : List (Str × Rv))
  | fdct (kvs : List (Key × Rv))
  | gone
abbrev SL := List (Option Rv)
abbrev OW := List OD
abbrev QR := Rv → OW → Prop
abbrev FG := PySem.W.Frag

/-! ### frozen data -/
mutual
inductive Dd (K : FG) (F : Hp) : V → PyData → Prop
  | non : Dd K F .non .none
  | bl (b : Bool) : Dd K F (.bl b) (.bool b)
  | int (i : Int) : Dd K F (.int i) (.int i)
  | str (x : Str) : Dd K F (.str x) (.str x)
  | lst {a : Addr} {xs : List V} {ds : List PyData} : F a = some (.lst xs) → DdAll K F xs ds → Dd K F (.ref a) (.list ds)
  | tup {a : Addr} {xs : List V} {ds : List PyData} : SqT K F a xs → DdAll K F xs ds → Dd K F (.ref a) (.tuple ds)
inductive DdAll (K : FG) (F : Hp) : List V → List PyData → Prop
  | nil : DdAll K F [] []
  | cons {v : V} {vs : List V} {d : PyData} {ds : List PyData} : Dd K F v d → DdAll K F vs ds → DdAll K F (v :: vs) (d :: ds)
end
section
variable {K : FG} {F F' : Hp}
mutual
theorem Dd.mono (e : Ex F F') : ∀ (d : PyData) (v : V), Dd K F v d → Dd K F' v d
  | .none, _, h => by cases h; exact .non
  | .bool b, _, h => by cases h; exact .bl b
  | .int i, _, h => by cases h; exact .int i
  | .str x, _, h => by cases h; exact .str x
  | .list ds, _, h => by
    cases h with
    | lst h1 h2 => exact .lst (e _ _ h1) (DdAll.mono e ds _ h2)
  | .tuple ds, _, h => by
    cases h with
    | tup h1 h2 => exact .tup (ex_t e h1) (DdAll.mono e ds _ h2)
  | .dict _, _, h => by cases h
theorem DdAll.mono (e : Ex F F') : ∀ (ds : List PyData) (vs : List V), DdAll K F vs ds → DdAll K F' vs ds
  | [], _, h => by cases h; exact .nil
  | d :: ds, _, h => by
    cases h with
    | cons h1 h2 => exact .cons (Dd.mono e d _ h1) (DdAll.mono e ds _ h2)
end
mutual
theorem Dd.dp {H : Hp} (e : Ex F H) : ∀ (d : PyData) (v : V), Dd K F v d → Dp K H v d
  | .none, _, h => by cases h; exact .non
  | .bool b, _, h => by cases h; exact .bl b
  | .int i, _, h => by cases h; exact .int i
  | .str x, _, h => by cases h; exact .str x
  | .list ds, _, h => by
    cases h with
    | lst h1 h2 => exact .lst (sq_of (e _ _ h1)) (DdAll.dp e ds _ h2)
  | .tuple ds, _, h => by
    cases h with
    | tup h1 h2 => exact .tup (ex_t e h1) (DdAll.dp e ds _ h2)
  | .dict _, _, h => by cases h
theorem DdAll.dp {H : Hp} (e : Ex F H) : ∀ (ds : List PyData) (vs : List V), DdAll K F vs ds → DpAll K H vs ds
  | [], _, h => by cases h; exact .nil
  | d :: ds, _, h => by
    cases h with
    | cons h1 h2 => exact .cons (Dd.dp e d _ h1) (DdAll.dp e ds _ h2)
end
theorem DdAll.len : ∀ {vs : List V} {ds : List PyData}, DdAll K F vs ds → vs.length = ds.length
  | _, _, .nil => rfl
  | _, _, .cons _ t => by rw [List.length_cons, List.length_cons, DdAll.len t]
theorem DdAll.get : ∀ {vs : List V} {ds : List PyData} {i : Nat} {d : PyData}, DdAll K F vs ds → ds[i]? = some d → ∃ v, vs[i]? = some v ∧ Dd K F v d
  | _, _, _, _, .nil, e => by simp at e
  | _, _, 0, _, .cons r _, e => by simp at e; subst e; exact ⟨_, rfl, r⟩
  | _, _, i + 1, d, .cons _ t, e => by
    obtain ⟨v, h1, h2⟩ := DdAll.get (i := i) (d := d) t (by simpa using e)
    exact ⟨v, by simpa using h1, h2⟩
theorem DdAll.app : ∀ {vs ws : List V} {ds es : List PyData}, DdAll K F vs ds → DdAll K F ws es → DdAll K F (vs ++ ws) (ds ++ es)
  | _, _, _, _, .nil, h => h
  | _, _, _, _, .cons r t, h => .cons r (DdAll.app t h)
theorem DdAll.take : ∀ {vs : List V} {ds : List PyData} (n : Nat), DdAll K F vs ds → DdAll K F (vs.take n) (ds.take n)
  | _, _, 0, _ => .nil
  | _, _, _ + 1, .nil => .nil
  | _, _, n + 1, .cons r t => .cons r (DdAll.take n t)
theorem DdAll.drop : ∀ {vs : List V} {ds : List PyData} (n : Nat), DdAll K F vs ds → DdAll K F (vs.drop n) (ds.drop n)
  | _, _, 0, h => h
  | _, _, _ + 1, .nil => .nil
  | _, _, n + 1, .cons _ t => DdAll.drop n t
theorem DdAll.snoc {vs : List V} {ds : List PyData} {v : V} {d : PyData} (h : DdAll K F vs ds) (r : Dd K F v d) : DdAll K F (vs ++ [v]) (ds ++ [d]) := h.app (.cons r .nil)
theorem DdAll.rev : ∀ {vs : List V} {ds : List PyData}, DdAll K F vs ds → DdAll K F vs.reverse ds.reverse
  | _, _, .nil => .nil
  | _, _, .cons r t => by
    rw [List.reverse_cons, List.reverse_cons]
    exact (DdAll.rev t).snoc r
theorem DdAll.strs : ∀ {vs : List V} {xs : List Str}, DdAll K F vs (xs.map PyData.str) → vs = xs.map V.str
  | _, [], h => by cases h; rfl
  | _, x :: xs, h => by
    cases h with
    | cons h1 h2 =>
      cases h1
      rw [DdAll.strs h2]
      rfl
theorem DdAll.ints : ∀ {vs : List V} {xs : List Int}, DdAll K F vs (xs.map PyData.int) → vs = xs.map V.int
  | _, [], h => by cases h; rfl
  | _, x :: xs, h => by
    cases h with
    | cons h1 h2 =>
      cases h1
      rw [DdAll.ints h2]
      rfl
theorem DdAll.bools : ∀ {vs : List V} {xs : List Bool}, DdAll K F vs (xs.map PyData.bool) → vs = xs.map V.bl
  | _, [], h => by cases h; rfl
  | _, x :: xs, h => by
    cases h with
    | cons h1 h2 =>
      cases h1
      rw [DdAll.bools h2]
      rfl
theorem DdAll.ofStrs : ∀ (xs : List Str), DdAll K F (xs.map V.str) (xs.map PyData.str)
  | [] => .nil
  | x :: xs => .cons (.str x) (DdAll.ofStrs xs)
theorem DdAll.ofInts : ∀ (xs : List Int), DdAll K F (xs.map V.int) (xs.map PyData.int)
  | [] => .nil
  | x :: xs => .cons (.int x) (DdAll.ofInts xs)
theorem DdAll.flat : ∀ {xss : List (List V)} {dss : List (List PyData)}, Paired (DdAll K F) xss dss → DdAll K F xss.flatten dss.flatten
  | _, _, .nil => .nil
  | _, _, .cons r t => by
    rw [List.flatten_cons, List.flatten_cons]
    exact r.app (DdAll.flat t)
theorem DdAll.rep {vs : List V} {ds : List PyData} (h : DdAll K F vs ds) : ∀ n : Nat, DdAll K F (List.replicate n vs).flatten (List.replicate n ds).flatten
  | 0 => .nil
  | n + 1 => by
    rw [List.replicate_succ, List.replicate_succ, List.flatten_cons, List.flatten_cons]
    exact h.app (DdAll.rep h n)
end

/-! ### what a value is -/
/-- the addresses of the owned objects; objects that stand aside, kept as they are -/
structure AS where
  l : List Addr
  R : Hp
def AS.add (as : AS) (p : Addr) : AS := ⟨as.l ++ [p], as.R⟩
def RvOk (K : FG) (F : Hp) (as : AS) (v : V) : Rv → Prop
  | .d x => Dd K F v x
  | .f ns => ∃ a, v = .ref a ∧ SqL K F a (ns.map V.int)
  | .o n => ∃ a, as.l[n]? = some a ∧ v = .ref a
  | .v y => v = y
structure Grow (F : Hp) (as : AS) (F' : Hp) (as' : AS) : Prop where
  ex : Ex F F'
  ap : ∃ more, as'.l = as.l ++ more
  rr : Ex as.R as'.R
/-- what stands aside may have changed -/
structure GrowW (F : Hp) (as : AS) (F' : Hp) (as' : AS) : Prop where
  ex : Ex F F'
  ap : ∃ more, as'.l = as.l ++ more
section
variable {K : FG} {F F' F2 H H' : Hp} {as as' as2 : AS} {v w : V} {r : Rv}
theorem Grow.gw (g : Grow F as F' as') : GrowW F as F' as' := ⟨g.ex, g.ap⟩
theorem GrowW.refl : GrowW F as F as := ⟨Ex.refl F, [], by simp⟩
theorem GrowW.trans (a : GrowW F as F' as') (b : GrowW F' as' F2 as2) : GrowW F as F2 as2 := by
  obtain ⟨e1, m1, h1⟩ := a
  obtain ⟨e2, m2, h2⟩ := b
  exact ⟨e1.trans e2, m1 ++ m2, by rw [h2, h1, List.append_assoc]⟩
theorem GrowW.get (g : GrowW F as F' as') {n : Nat} {a : Addr} (h : as.l[n]? = some a) : as'.l[n]? = some a := by
  obtain ⟨_, m, e⟩ := g
  rw [e, List.getElem?_append_left (List.getElem?_eq_some_iff.mp h).1]
  exact h
theorem RvOk.monoW (g : GrowW F as F' as') (h : RvOk K F as v r) : RvOk K F' as' v r := by
  cases r with
  | d x => exact Dd.mono g.ex x v h
  | f ns =>
    obtain ⟨a, h1, h2⟩ := h
    exact ⟨a, h1, ex_l g.ex h2⟩
  | o n =>
    obtain ⟨a, h1, h2⟩ := h
    exact ⟨a, g.get h1, h2⟩
  | v y => exact h
theorem Grow.refl : Grow F as F as := ⟨Ex.refl F, ⟨[], by simp⟩, Ex.refl _⟩
theorem Grow.trans (a : Grow F as F' as') (b : Grow F' as' F2 as2) : Grow F as F2 as2 := by
  obtain ⟨e1, ⟨m1, h1⟩, r1⟩ := a
  obtain ⟨e2, ⟨m2, h2⟩, r2⟩ := b
  exact ⟨e1.trans e2, ⟨m1 ++ m2, by rw [h2, h1, List.append_assoc]⟩, r1.trans r2⟩
theorem Grow.get (g : Grow F as F' as') {n : Nat} {a : Addr} (h : as.l[n]? = some a) : as'.l[n]? = some a := by
  obtain ⟨_, ⟨m, e⟩, _⟩ := g
  rw [e, List.getElem?_append_left (List.getElem?_eq_some_iff.mp h).1]
  exact h
theorem RvOk.mono (g : Grow F as F' as') (h : RvOk K F as v r) : RvOk K F' as' v r := by
  cases r with
  | d x => exact Dd.mono g.ex x v h
  | f ns =>
    obtain ⟨a, h1, h2⟩ := h
    exact ⟨a, h1, ex_l g.ex h2⟩
  | o n =>
    obtain ⟨a, h1, h2⟩ := h
    exact ⟨a, g.get h1, h2⟩
  | v y => exact h
theorem Paired.monoP {α β : Type} {P Q : α → β → Prop} (h : ∀ a b, P a b → Q a b) : ∀ {l : List α} {m : List β}, Paired P l m → Paired Q l m
  | _, _, .nil => .nil
  | _, _, .cons r t => .cons (h _ _ r) (Paired.monoP h t)
theorem Paired.set2 {α β : Type} {P : α → β → Prop} {x : α} {y : β} (r : P x y) : ∀ {l : List α} {m : List β} (i : Nat), Paired P l m → Paired P (l.set i x) (m.set i y)
  | _, _, _, .nil => .nil
  | _, _, 0, .cons _ t => .cons r t
  | _, _, i + 1, .cons q t => .cons q (Paired.set2 r i t)
theorem Paired.app2 {α β : Type} {P : α → β → Prop} : ∀ {l l' : List α} {m m' : List β}, Paired P l m → Paired P l' m' → Paired P (l ++ l') (m ++ m')
  | _, _, _, _, .nil, h => h
  | _, _, _, _, .cons r t, h => .cons r (Paired.app2 t h)
theorem Paired.len2 {α β : Type} {P : α → β → Prop} : ∀ {l : List α} {m : List β}, Paired P l m → l.length = m.length
  | _, _, .nil => rfl
  | _, _, .cons _ t => by rw [List.length_cons, List.length_cons, Paired.len2 t]
theorem Paired.get2 {α β : Type} {P : α → β → Prop} : ∀ {l : List α} {m : List β} {i : Nat} {y : β}, Paired P l m → m[i]? = some y → ∃ x, l[i]? = some x ∧ P x y
  | _, _, _, _, .nil, e => by simp at e
  | _, _, 0, _, .cons r _, e => by simp at e; subst e; exact ⟨_, rfl, r⟩
  | _, _, i + 1, y, .cons _ t, e => by
    obtain ⟨v, h1, h2⟩ := Paired.get2 (i := i) (y := y) t (by simpa using e)
    exact ⟨v, by simpa using h1, h2⟩
/-- all items are data -/
def allD : List Rv → Option (List PyData)
  | [] => some []
  | .d x :: r => (allD r).map (x :: ·)
  | _ :: _ => none
theorem allD_map : ∀ ds : List PyData, allD (ds.map Rv.d) = some ds
  | [] => rfl
  | d :: ds => by
    show (allD (ds.map Rv.d)).map (d :: ·) = _
    rw [allD_map ds]
    rfl
theorem of_allD : ∀ {xs : List Rv} {ds : List PyData}, allD xs = some ds → xs = ds.map Rv.d
  | [], ds, h => by
    simp [allD] at h
    subst h
    rfl
  | .d x :: r, ds, h => by
    unfold allD at h
    cases e : allD r with
    | none => rw [e] at h; simp at h
    | some es =>
      rw [e] at h
      simp at h
      subst h
      rw [of_allD e]
      rfl
  | .f _ :: _, _, h => by simp [allD] at h
  | .o _ :: _, _, h => by simp [allD] at h
  | .v _ :: _, _, h => by simp [allD] at h
theorem rvs_dd : ∀ {vs : List V} {ds : List PyData}, Paired (RvOk K F as) vs (ds.map Rv.d) → DdAll K F vs ds
  | _, [], h => by cases h; exact .nil
  | _, d :: ds, h => by
    cases h with
    | cons r t => exact .cons r (rvs_dd t)
theorem dd_rvs : ∀ {vs : List V} {ds : List PyData}, DdAll K F vs ds → Paired (RvOk K F as) vs (ds.map Rv.d)
  | _, _, .nil => .nil
  | _, _, .cons r t => .cons r (dd_rvs t)
end

/-! ### the state -/
def OdOk (K : FG) (F : Hp) (as : AS) (H : Hp) (a : Addr) : OD → Prop
  | .lst xs => F a = none ∧ ∃ vs, H a = some (.lst vs) ∧ Paired (RvOk K F as) vs xs
  | .dct kvs => F a = none ∧ ∃ ws, H a = some (.dK ws) ∧ Paired (fun p q => p.1 = q.1 ∧ RvOk K F as p.2 q.2) ws kvs
  | .ins C fs => F a = none ∧ ∃ dx ws, H a = some (.ins C dx ws) ∧ Paired (fun p q => p.1 = q.1 ∧ RvOk K F as p.2 q.2) ws fs
  | .fdct kvs => ∃ od ws, F a = some (.frz od (.dK ws)) ∧ Paired (fun p q => p.1 = q.1 ∧ RvOk K F as p.2 q.2) ws kvs
  | .gone => True
/-- the written part; the state at the def's start -/
structure KB where
  K : FG
  F : Hp
  A : AS
structure Sat (B : KB) (F : Hp) (as : AS) (ow : OW) (H : Hp) : Prop where
  ex : Ex F H
  nd : as.l.Nodup
  ln : as.l.length = ow.length
  al : ∀ a ∈ as.l, ∃ o, H a = some o
  rr : ∀ a o, as.R a = some o → H a = some o ∧ F a = none ∧ a ∉ as.l
  ob : ∀ (n : Nat) (a : Addr) (x : OD), as.l[n]? = some a → ow[n]? = some x → OdOk B.K F as H a x
  gw : Grow B.F B.A F as
structure Sls (K : FG) (F : Hp) (as : AS) (sl : SL) (σ : L2.St) : Prop where
  ln : sl.length = σ.length
  at_ : ∀ (i : Nat) (r : Rv), sl[i]? = some (some r) → ∃ v, σ[i]? = some (some v) ∧ RvOk K F as v r
section
variable {K : FG} {B : KB} {F F' H H' : Hp} {as as' : AS} {v w : V} {r : Rv} {ow : OW} {σ : L2.St} {sl : SL} {p a : Addr} {o : HO} {x : OD}
theorem OdOk.mono (g : Grow F as F' as') (hf : F a = none → F' a = none) (hh : H' a = H a) (h : OdOk K F as H a x) : OdOk K F' as' H' a x := by
  cases x with
  | lst xs =>
    obtain ⟨h0, vs, h1, h2⟩ := h
    exact ⟨hf h0, vs, hh.trans h1, Paired.monoP (fun _ _ z => z.mono g) h2⟩
  | dct kvs =>
    obtain ⟨h0, vs, h1, h2⟩ := h
    exact ⟨hf h0, vs, hh.trans h1, Paired.monoP (fun _ _ z => ⟨z.1, z.2.mono g⟩) h2⟩
  | ins C fs =>
    obtain ⟨h0, dx, vs, h1, h2⟩ := h
    exact ⟨hf h0, dx, vs, hh.trans h1, Paired.monoP (fun _ _ z => ⟨z.1, z.2.mono g⟩) h2⟩
  | fdct kvs =>
    obtain ⟨od, ws, h1, h2⟩ := h
    exact ⟨od, ws, g.ex _ _ h1, Paired.monoP (fun _ _ z => ⟨z.1, z.2.mono g⟩) h2⟩
  | gone => trivial
theorem Sls.mono (g : Grow F as F' as') (h : Sls K F as sl σ) : Sls K F' as' sl σ := ⟨h.ln, fun i r e => let ⟨v, h1, h2⟩ := h.at_ i r e; ⟨v, h1, h2.mono g⟩⟩
theorem Sls.monoW (g : GrowW F as F' as') (h : Sls K F as sl σ) : Sls K F' as' sl σ := ⟨h.ln, fun i r e => let ⟨v, h1, h2⟩ := h.at_ i r e; ⟨v, h1, h2.monoW g⟩⟩
theorem Sls.set (h : Sls K F as sl σ) (r' : RvOk K F as v r) (i : Nat) : Sls K F as (sl.set i (some r)) (σ.set i (some v)) := by
  refine ⟨by rw [List.length_set, List.length_set, h.ln], fun j q e => ?_⟩
  by_cases hj : i = j
  · subst hj
    have hlt : i < sl.length := by
      have := (List.getElem?_eq_some_iff.mp e).1
      rwa [List.length_set] at this
    rw [List.getElem?_set_self hlt] at e
    cases e
    exact ⟨v, List.getElem?_set_self (by rw [← h.ln]; exact hlt), r'⟩
  · rw [List.getElem?_set_ne hj] at e
    obtain ⟨v', h1, h2⟩ := h.at_ j q e
    exact ⟨v', by rw [List.getElem?_set_ne hj]; exact h1, h2⟩
theorem Sat.mem (S : Sat B F as ow H) {n : Nat} (h : ow[n]? = some x) : ∃ a, as.l[n]? = some a ∧ OdOk B.K F as H a x := by
  have hl : n < as.l.length := by rw [S.ln]; exact (List.getElem?_eq_some_iff.mp h).1
  exact ⟨as.l[n], List.getElem?_eq_getElem hl, S.ob n _ x (List.getElem?_eq_getElem hl) h⟩
/-- a new object of the data -/
theorem Sat.newD (S : Sat B F as ow H) (hp : H p = none) : Grow F as (upd F p o) as ∧ Sat B (upd F p o) as ow (upd H p o) := by
  have fp : F p = none := fresh_back S.ex hp
  have g : Grow F as (upd F p o) as := ⟨Ex.new fp, ⟨[], by simp⟩, Ex.refl _⟩
  have nep : ∀ b ∈ as.l, b ≠ p := fun b hb => by
    obtain ⟨u, e⟩ := S.al b hb
    exact ne_of_none e hp
  refine ⟨g, ?_, S.nd, S.ln, fun b hb => ?_, fun b u e => ?_, fun n b y h1 h2 => ?_, S.gw.trans g⟩
  · intro b u e
    by_cases hb : b = p
    · subst hb
      rw [upd_same] at e ⊢
      exact e
    · rw [upd_ne hb] at e ⊢
      exact S.ex b u e
  · obtain ⟨u, e⟩ := S.al b hb
    exact ⟨u, by rw [upd_ne (nep b hb)]; exact e⟩
  · obtain ⟨e1, e2, e3⟩ := S.rr b u e
    have hb : b ≠ p := ne_of_none e1 hp
    exact ⟨by rw [upd_ne hb]; exact e1, by rw [upd_ne hb]; exact e2, e3⟩
  · have hb := nep b (List.mem_of_getElem? h1)
    have q := S.ob n b y h1 h2
    exact q.mono g (fun z => by rw [upd_ne hb]; exact z) (upd_ne hb)
/-- a new owned object -/
theorem Sat.newO (S : Sat B F as ow H) (hp : H p = none) (hx : OdOk B.K F (as.add p) (upd H p o) p x) : Grow F as F (as.add p) ∧ Sat B F (as.add p) (ow ++ [x]) (upd H p o) := by
  have g : Grow F as F (as.add p) := ⟨Ex.refl F, ⟨[p], rfl⟩, Ex.refl _⟩
  have nep : ∀ b ∈ as.l, b ≠ p := fun b hb => by
    obtain ⟨u, e⟩ := S.al b hb
    exact ne_of_none e hp
  refine ⟨g, ?_, ?_, by unfold AS.add; simp [S.ln], fun b hb => ?_, fun b u e => ?_, fun n b y h1 h2 => ?_, S.gw.trans g⟩
  · intro b u e
    have hb : b ≠ p := ne_of_none (S.ex b u e) hp
    rw [upd_ne hb]
    exact S.ex b u e
  · show (as.l ++ [p]).Nodup
    rw [List.nodup_append]
    refine ⟨S.nd, by simp, fun b hb c hc => ?_⟩
    have e : c = p := by simpa using hc
    subst e
    exact nep b hb
  · rcases List.mem_append.mp hb with hb | hb
    · obtain ⟨u, e⟩ := S.al b hb
      exact ⟨u, by rw [upd_ne (nep b hb)]; exact e⟩
    · have e : b = p := by simpa using hb
      subst e
      exact ⟨o, upd_same⟩
  · obtain ⟨e1, e2, e3⟩ := S.rr b u e
    have hb : b ≠ p := ne_of_none e1 hp
    refine ⟨by rw [upd_ne hb]; exact e1, e2, fun z => ?_⟩
    rcases List.mem_append.mp z with z | z
    · exact e3 z
    · exact hb (by simpa using z)
  · have h1 : (as.l ++ [p])[n]? = some b := h1
    by_cases hn : n < as.l.length
    · rw [List.getElem?_append_left hn] at h1
      rw [List.getElem?_append_left (by rw [← S.ln]; exact hn)] at h2
      have hb := nep b (List.mem_of_getElem? h1)
      have q := S.ob n b y h1 h2
      exact q.mono g (fun z => z) (upd_ne hb)
    · have hl : n < (as.l ++ [p]).length := (List.getElem?_eq_some_iff.mp h1).1
      have e : n = as.l.length := by
        rw [List.length_append] at hl
        simp at hl
        omega
      subst e
      rw [List.getElem?_append_right (Nat.le_refl _), Nat.sub_self] at h1
      rw [S.ln, List.getElem?_append_right (Nat.le_refl _), Nat.sub_self] at h2
      simp at h1 h2
      subst h1 h2
      exact hx
theorem nd_ix {N : List Addr} (hN : N.Nodup) {i j : Nat} {x : Addr} (a : N[i]? = some x) (b : N[j]? = some x) : i = j := by
  obtain ⟨_, e1⟩ := List.getElem?_eq_some_iff.mp a
  obtain ⟨_, e2⟩ := List.getElem?_eq_some_iff.mp b
  exact (List.getElem_inj hN).mp (e1.trans e2.symm)
/-- an owned object is changed -/
theorem Sat.wr (S : Sat B F as ow H) {n : Nat} (ha : as.l[n]? = some a) (hf : F a = none) (hx : OdOk B.K F as (upd H a o) a x) : Sat B F as (ow.set n x) (upd H a o) := by
  refine ⟨?_, S.nd, by rw [List.length_set]; exact S.ln, fun b hb => ?_, fun b u e => ?_, fun m b y h1 h2 => ?_, S.gw⟩
  · intro b u e
    have hb : b ≠ a := ne_of_none e hf
    rw [upd_ne hb]
    exact S.ex b u e
  · by_cases hb' : b = a
    · subst hb'
      exact ⟨o, upd_same⟩
    · obtain ⟨u, e⟩ := S.al b hb
      exact ⟨u, by rw [upd_ne hb']; exact e⟩
  · obtain ⟨e1, e2, e3⟩ := S.rr b u e
    have hb : b ≠ a := fun z => e3 (by rw [z]; exact List.mem_of_getElem? ha)
    exact ⟨by rw [upd_ne hb]; exact e1, e2, e3⟩
  · by_cases hm : n = m
    · subst hm
      rw [ha] at h1
      cases h1
      rw [List.getElem?_set_self (by rw [← S.ln]; exact (List.getElem?_eq_some_iff.mp ha).1)] at h2
      cases h2
      exact hx
    · rw [List.getElem?_set_ne hm] at h2
      have hb : b ≠ a := by
        intro e
        subst e
        exact hm (nd_ix S.nd ha h1)
      have q := S.ob m b y h1 h2
      exact q.mono Grow.refl (fun z => z) (upd_ne hb)
/-- an object stands aside -/
theorem OdOk.keepW (g : GrowW F as F' as') (hf : F a = none → F' a = none) (hh : H' a = H a) (h : OdOk K F as H a x) : OdOk K F' as' H' a x := by
  cases x with
  | lst xs =>
    obtain ⟨h0, vs, h1, h2⟩ := h
    exact ⟨hf h0, vs, hh.trans h1, Paired.monoP (fun _ _ z => z.monoW g) h2⟩
  | dct kvs =>
    obtain ⟨h0, vs, h1, h2⟩ := h
    exact ⟨hf h0, vs, hh.trans h1, Paired.monoP (fun _ _ z => ⟨z.1, z.2.monoW g⟩) h2⟩
  | ins C fs =>
    obtain ⟨h0, dx, vs, h1, h2⟩ := h
    exact ⟨hf h0, dx, vs, hh.trans h1, Paired.monoP (fun _ _ z => ⟨z.1, z.2.monoW g⟩) h2⟩
  | fdct kvs =>
    obtain ⟨od, ws, h1, h2⟩ := h
    exact ⟨od, ws, g.ex _ _ h1, Paired.monoP (fun _ _ z => ⟨z.1, z.2.monoW g⟩) h2⟩
  | gone => trivial
def AS.side (as : AS) (R : Hp) : AS := ⟨as.l, R⟩
theorem side_w {R : Hp} : GrowW F as F (as.side R) := ⟨Ex.refl F, [], by unfold AS.side; simp⟩
theorem side_w' {R : Hp} : GrowW F (as.side R) F as := ⟨Ex.refl F, [], by unfold AS.side; simp⟩
theorem Sat.aside (S : Sat B F as ow H) (hp : H p = none) : Sat B F (as.side (upd as.R p o)) ow (upd H p o) := by
  have nep : ∀ b ∈ as.l, b ≠ p := fun b hb => by
    obtain ⟨u, e⟩ := S.al b hb
    exact ne_of_none e hp
  refine ⟨fun b u e => ?_, S.nd, S.ln, fun b hb => ?_, fun b u e => ?_, fun n b y h1 h2 => ?_, S.gw.trans ⟨Ex.refl F, ⟨[], by unfold AS.side; simp⟩, Ex.new (by
    cases e : as.R p with
    | none => rfl
    | some u =>
      have := (S.rr p u e).1
      rw [hp] at this
      cases this)⟩⟩
  · rw [upd_ne (ne_of_none (S.ex b u e) hp)]
    exact S.ex b u e
  · obtain ⟨u, e⟩ := S.al b hb
    exact ⟨u, by rw [upd_ne (nep b hb)]; exact e⟩
  · by_cases hb : b = p
    · subst hb
      have e' : upd as.R b o b = some u := e
      rw [upd_same] at e'
      cases e'
      exact ⟨upd_same, fresh_back S.ex hp, fun z => nep b z rfl⟩
    · have e' : upd as.R p o b = some u := e
      rw [upd_ne hb] at e' ⊢
      exact S.rr b u e'
  · have hb := nep b (List.mem_of_getElem? h1)
    have q := S.ob n b y h1 h2
    exact q.keepW side_w (fun z => z) (upd_ne hb)
/-- it is changed -/
theorem Sat.asideW {R : Hp} {o' : HO} (hB : B.A.R p = none) (S : Sat B F (as.side (upd R p o)) ow H) : Sat B F (as.side (upd R p o')) ow (upd H p o') := by
  obtain ⟨h1, h2, h3⟩ := S.rr p o upd_same
  have nep : ∀ b ∈ as.l, b ≠ p := fun b hb z => h3 (by rw [← z]; exact hb)
  refine ⟨fun b u e => ?_, S.nd, S.ln, fun b hb => ?_, fun b u e => ?_, fun n b y k1 k2 => ?_, ⟨S.gw.ex, S.gw.ap, fun b u e => by
    have hb : b ≠ p := ne_of_none e hB
    have z := S.gw.rr b u e
    have z : upd R p o b = some u := z
    rw [upd_ne hb] at z
    show upd R p o' b = some u
    rw [upd_ne hb]
    exact z⟩⟩
  · rw [upd_ne (ne_of_none e h2)]
    exact S.ex b u e
  · obtain ⟨u, e⟩ := S.al b hb
    exact ⟨u, by rw [upd_ne (nep b hb)]; exact e⟩
  · have e' : upd R p o' b = some u := e
    by_cases hb : b = p
    · subst hb
      rw [upd_same] at e'
      cases e'
      exact ⟨upd_same, h2, h3⟩
    · rw [upd_ne hb] at e'
      obtain ⟨k1, k2, k3⟩ := S.rr b u (show upd R p o b = some u by rw [upd_ne hb]; exact e')
      exact ⟨by rw [upd_ne hb]; exact k1, k2, k3⟩
  · have hb := nep b (List.mem_of_getElem? k1)
    have q := S.ob n b y k1 k2
    exact q.keepW ⟨Ex.refl F, [], by unfold AS.side; simp⟩ (fun z => z) (upd_ne hb)
/-- less stands aside -/
theorem Sat.dropR {R : Hp} (S : Sat B F as ow H) (h : Ex R as.R) (hB : Ex B.A.R R) : Sat B F (as.side R) ow H :=
  ⟨S.ex, S.nd, S.ln, S.al, fun b u e => S.rr b u (h b u e), fun n b y k1 k2 => (S.ob n b y k1 k2).keepW side_w (fun z => z) rfl, ⟨S.gw.ex, S.gw.ap, hB⟩⟩
/-- it becomes data -/
theorem Sat.unside {R : Hp} (hB : B.A.R p = none) (S : Sat B F (as.side (upd R p o)) ow H) (hR : R p = none) : Sat B (upd F p o) (as.side R) ow H := by
  obtain ⟨h1, h2, h3⟩ := S.rr p o upd_same
  have nep : ∀ b ∈ as.l, b ≠ p := fun b hb z => h3 (by rw [← z]; exact hb)
  refine ⟨fun b u e => ?_, S.nd, S.ln, S.al, fun b u e => ?_, fun n b y k1 k2 => ?_, ⟨S.gw.ex.trans (Ex.new h2), S.gw.ap, fun b u e => by
    have hb : b ≠ p := ne_of_none e hB
    have z : upd R p o b = some u := S.gw.rr b u e
    rw [upd_ne hb] at z
    exact z⟩⟩
  · by_cases hb : b = p
    · subst hb
      rw [upd_same] at e
      rw [h1]
      exact e
    · rw [upd_ne hb] at e
      exact S.ex b u e
  · have e' : R b = some u := e
    have hb : b ≠ p := ne_of_none e' hR
    obtain ⟨k1, k2, k3⟩ := S.rr b u (show upd R p o b = some u by rw [upd_ne hb]; exact e')
    exact ⟨k1, by rw [upd_ne hb]; exact k2, k3⟩
  · have hb := nep b (List.mem_of_getElem? k1)
    have q := S.ob n b y k1 k2
    exact q.keepW ⟨Ex.new h2, [], by unfold AS.side; simp⟩ (fun z => by rw [upd_ne hb]; exact z) rfl
/-- an owned list of data becomes data -/
theorem Sat.freeze (S : Sat B F as ow H) {n : Nat} {ds : List PyData} (ha : as.l[n]? = some a) (hx : ow[n]? = some (.lst (ds.map Rv.d))) :
    ∃ F', Grow F as F' as ∧ Sat B F' as (ow.set n .gone) H ∧ Dd B.K F' (.ref a) (.list ds) := by
  obtain ⟨fa, vs, h1, h2⟩ := S.ob n a _ ha hx
  have dv := rvs_dd h2
  have g : Grow F as (upd F a (.lst vs)) as := ⟨Ex.new fa, ⟨[], by simp⟩, Ex.refl _⟩
  refine ⟨upd F a (.lst vs), g, ⟨?_, S.nd, by rw [List.length_set]; exact S.ln, S.al, fun b u e => ?_, fun m b y e1 e2 => ?_, S.gw.trans g⟩, .lst upd_same (DdAll.mono g.ex _ _ dv)⟩
  · intro b u e
    by_cases hb : b = a
    · subst hb
      rw [upd_same] at e
      rw [h1]
      exact e
    · rw [upd_ne hb] at e
      exact S.ex b u e
  · obtain ⟨e1, e2, e3⟩ := S.rr b u e
    have hb : b ≠ a := fun z => e3 (by rw [z]; exact List.mem_of_getElem? ha)
    exact ⟨e1, by rw [upd_ne hb]; exact e2, e3⟩
  · by_cases hm : n = m
    · subst hm
      rw [List.getElem?_set_self (by rw [← S.ln]; exact (List.getElem?_eq_some_iff.mp ha).1)] at e2
      cases e2
      trivial
    · rw [List.getElem?_set_ne hm] at e2
      have hb : b ≠ a := by
        intro e
        subst e
        exact hm (nd_ix S.nd ha e1)
      have q := S.ob m b y e1 e2
      exact q.mono g (fun z => by rw [upd_ne hb]; exact z) rfl
end

/-! ### ends -/
def Post (B : KB) (F : Hp) (as : AS) (Q : QR) : VK := fun v H' => ∃ F' as' r ow', Grow F as F' as' ∧ Sat B F' as' ow' H' ∧ RvOk B.K F' as' v r ∧ Q r ow'
def PostB (B : KB) (F : Hp) (as : AS) (Q : Bool → OW → Prop) : Bool → Hp → Prop := fun b H' => ∃ F' as' ow', Grow F as F' as' ∧ Sat B F' as' ow' H' ∧ Q b ow'
def PostA (B : KB) (F : Hp) (as : AS) (Q : List Rv → OW → Prop) : List V → Hp → Prop := fun vs H' => ∃ F' as' rs ow', Grow F as F' as' ∧ Sat B F' as' ow' H' ∧ Paired (RvOk B.K F' as') vs rs ∧ Q rs ow'
def PostS (B : KB) (F : Hp) (as : AS) (Q : SL → OW → Prop) : L2.St → Hp → Prop := fun σ H' => ∃ F' as' sl ow', Grow F as F' as' ∧ Sat B F' as' ow' H' ∧ Sls B.K F' as' sl σ ∧ Q sl ow'
structure DEnds where
  nx : SL → OW → Prop
  rt : QR
  bk : SL → OW → Prop := fun _ _ => False
  ct : SL → OW → Prop := fun _ _ => False
def DEnds.to (D : DEnds) (B : KB) (F : Hp) (as : AS) : Ends := { nx := PostS B F as D.nx, rt := Post B F as D.rt, bk := PostS B F as D.bk, ct := PostS B F as D.ct }
section
variable {B : KB} {F F' H H' : Hp} {as as' : AS} {v w : V} {r : Rv} {ow : OW} {Q : QR} {p : Addr}
theorem post_d {x : PyData} (g : Grow F as F' as') (S : Sat B F' as' ow H) (h : Dd B.K F' v x) (q : Q (.d x) ow) : Post B F as Q v H := ⟨F', as', .d x, ow, g, S, h, q⟩
theorem post_r (g : Grow F as F' as') (S : Sat B F' as' ow H) (h : RvOk B.K F' as' v r) (q : Q r ow) : Post B F as Q v H := ⟨F', as', r, ow, g, S, h, q⟩
theorem post_tup {vs : List V} {ds : List PyData} (g : Grow F as F' as') (S : Sat B F' as' ow H) (hp : H p = none) (h : DdAll B.K F' vs ds) (q : Q (.d (.tuple ds)) ow) : Post B F as Q (.ref p) (upd H p (.tup vs)) := by
  obtain ⟨g2, S2⟩ := S.newD (o := .tup vs) hp
  exact ⟨_, _, .d (.tuple ds), ow, g.trans g2, S2, .tup (st_of upd_same) (DdAll.mono g2.ex _ _ h), q⟩
theorem post_lst {vs : List V} {ds : List PyData} (g : Grow F as F' as') (S : Sat B F' as' ow H) (hp : H p = none) (h : DdAll B.K F' vs ds) (q : Q (.d (.list ds)) ow) : Post B F as Q (.ref p) (upd H p (.lst vs)) := by
  obtain ⟨g2, S2⟩ := S.newD (o := .lst vs) hp
  exact ⟨_, _, .d (.list ds), ow, g.trans g2, S2, .lst upd_same (DdAll.mono g2.ex _ _ h), q⟩
theorem post_ol {vs : List V} {rs : List Rv} (g : Grow F as F' as') (S : Sat B F' as' ow H) (hp : H p = none) (h : Paired (RvOk B.K F' as') vs rs) (q : Q (.o ow.length) (ow ++ [.lst rs])) : Post B F as Q (.ref p) (upd H p (.lst vs)) := by
  have fp : F' p = none := fresh_back S.ex hp
  obtain ⟨g2, S2⟩ := S.newO (o := .lst vs) (x := .lst rs) hp ⟨fp, vs, upd_same, Paired.monoP (fun _ _ z => z.mono ⟨Ex.refl F', ⟨[p], rfl⟩, Ex.refl _⟩) h⟩
  refine ⟨_, _, .o ow.length, _, g.trans g2, S2, ⟨p, ?_, rfl⟩, q⟩
  show (as'.l ++ [p])[ow.length]? = some p
  rw [← S.ln, List.getElem?_append_right (Nat.le_refl _), Nat.sub_self]
  rfl
theorem post_od {ws : List (Key × V)} {rs : List (Key × Rv)} (g : Grow F as F' as') (S : Sat B F' as' ow H) (hp : H p = none) (h : Paired (fun p q => p.1 = q.1 ∧ RvOk B.K F' as' p.2 q.2) ws rs) (q : Q (.o ow.length) (ow ++ [.dct rs])) : Post B F as Q (.ref p) (upd H p (.dK ws)) := by
  have fp : F' p = none := fresh_back S.ex hp
  obtain ⟨g2, S2⟩ := S.newO (o := .dK ws) (x := .dct rs) hp ⟨fp, ws, upd_same, Paired.monoP (fun _ _ z => ⟨z.1, z.2.mono ⟨Ex.refl F', ⟨[p], rfl⟩, Ex.refl _⟩⟩) h⟩
  refine ⟨_, _, .o ow.length, _, g.trans g2, S2, ⟨p, ?_, rfl⟩, q⟩
  show (as'.l ++ [p])[ow.length]? = some p
  rw [← S.ln, List.getElem?_append_right (Nat.le_refl _), Nat.sub_self]
  rfl
theorem Post.trans (g : Grow F as F' as') (h : Post B F' as' Q v H) : Post B F as Q v H := by
  obtain ⟨F2, as2, r, ow2, g2, rest⟩ := h
  exact ⟨F2, as2, r, ow2, g.trans g2, rest⟩
theorem DEnds.to_grow (g : Grow F as F' as') (D : DEnds) : (∀ σ H, (D.to B F' as').nx σ H → (D.to B F as).nx σ H) ∧ (∀ v H, (D.to B F' as').rt v H → (D.to B F as).rt v H) ∧ (∀ σ H, (D.to B F' as').bk σ H → (D.to B F as).bk σ H) ∧ (∀ σ H, (D.to B F' as').ct σ H → (D.to B F as).ct σ H) := by
  refine ⟨fun σ H ⟨F2, as2, sl, ow, g2, z⟩ => ⟨F2, as2, sl, ow, g.trans g2, z⟩, fun v H z => z.trans g, fun σ H ⟨F2, as2, sl, ow, g2, z⟩ => ⟨F2, as2, sl, ow, g.trans g2, z⟩, fun σ H ⟨F2, as2, sl, ow, g2, z⟩ => ⟨F2, as2, sl, ow, g.trans g2, z⟩⟩
end

/-! ### an owned dict that is walked -/
def rmF (F : Hp) (a : Addr) : Hp := fun b => if b = a then none else F b
section
variable {K : FG} {B : KB} {F F' F1 H H' : Hp} {as as1 : AS} {ow ow1 : OW} {a b : Addr} {od : Obj} {ws : List (Key × V)}
theorem rm_at : rmF F a a = none := if_pos rfl
theorem rm_ne (h : b ≠ a) : rmF F a b = F b := if_neg h
theorem rm_l (h : F a = some (.frz od (.dK ws))) {xs : List V} (r : Rd F b (.lst xs)) : Rd (rmF F a) b (.lst xs) := by
  have hb : b ≠ a := by
    intro e
    subst e
    rcases r with r | ⟨q, r⟩
    · rw [h] at r; cases r
    · rw [h] at r; cases r
  rcases r with r | ⟨q, r⟩
  · exact .inl ((rm_ne hb).trans r)
  · exact .inr ⟨q, (rm_ne hb).trans r⟩
theorem rm_t (h : F a = some (.frz od (.dK ws))) {xs : List V} (r : Rd F b (.tup xs)) : Rd (rmF F a) b (.tup xs) := by
  have hb : b ≠ a := by
    intro e
    subst e
    rcases r with r | ⟨q, r⟩
    · rw [h] at r; cases r
    · rw [h] at r; cases r
  rcases r with r | ⟨q, r⟩
  · exact .inl ((rm_ne hb).trans r)
  · exact .inr ⟨q, (rm_ne hb).trans r⟩
mutual
theorem Dd.rm (h : F a = some (.frz od (.dK ws))) : ∀ (d : PyData) (v : V), Dd K F v d → Dd K (rmF F a) v d
  | .none, _, x => by cases x; exact .non
  | .bool b, _, x => by cases x; exact .bl b
  | .int i, _, x => by cases x; exact .int i
  | .str z, _, x => by cases x; exact .str z
  | .list ds, _, x => by
    cases x with
    | lst h1 h2 =>
      rename_i p xs
      have hb : p ≠ a := by
        intro e
        subst e
        rw [h] at h1
        cases h1
      exact .lst ((rm_ne hb).trans h1) (DdAll.rm h ds _ h2)
  | .tuple ds, _, x => by
    cases x with
    | tup h1 h2 => exact .tup (h1.imp (rm_t h) id) (DdAll.rm h ds _ h2)
  | .dict _, _, x => by cases x
theorem DdAll.rm (h : F a = some (.frz od (.dK ws))) : ∀ (ds : List PyData) (vs : List V), DdAll K F vs ds → DdAll K (rmF F a) vs ds
  | [], _, x => by cases x; exact .nil
  | d :: ds, _, x => by
    cases x with
    | cons h1 h2 => exact .cons (Dd.rm h d _ h1) (DdAll.rm h ds _ h2)
end
theorem RvOk.rm (h : F a = some (.frz od (.dK ws))) {v : V} {r : Rv} (x : RvOk K F as v r) : RvOk K (rmF F a) as v r := by
  cases r with
  | d y => exact Dd.rm h y v x
  | f ns =>
    obtain ⟨p, h1, h2⟩ := x
    exact ⟨p, h1, h2.imp (rm_l h) id⟩
  | o n => exact x
  | v y => exact x
theorem Sat.lock (S : Sat B F as ow H) {n : Nat} {kvs : List (Key × Rv)} (ha : as.l[n]? = some a) (hx : ow[n]? = some (.dct kvs)) :
    F a = none ∧ ∃ ws, H a = some (.dK ws) ∧ ∀ od, Grow F as (upd F a (.frz od (.dK ws))) as ∧ Sat B (upd F a (.frz od (.dK ws))) as (ow.set n (.fdct kvs)) (upd H a (.frz od (.dK ws))) := by
  obtain ⟨fa, ws, h1, h2⟩ := S.ob n a _ ha hx
  refine ⟨fa, ws, h1, fun od => ?_⟩
  have g : Grow F as (upd F a (.frz od (.dK ws))) as := ⟨Ex.new fa, ⟨[], by simp⟩, Ex.refl _⟩
  refine ⟨g, ?_, S.nd, by rw [List.length_set]; exact S.ln, fun b hb => ?_, fun b u e => ?_, fun m b y e1 e2 => ?_, S.gw.trans g⟩
  · intro b u e
    by_cases hb : b = a
    · subst hb
      rw [upd_same] at e ⊢
      exact e
    · rw [upd_ne hb] at e ⊢
      exact S.ex b u e
  · by_cases hb' : b = a
    · subst hb'
      exact ⟨_, upd_same⟩
    · obtain ⟨u, e⟩ := S.al b hb
      exact ⟨u, by rw [upd_ne hb']; exact e⟩
  · obtain ⟨e1, e2, e3⟩ := S.rr b u e
    have hb : b ≠ a := fun z => e3 (by rw [z]; exact List.mem_of_getElem? ha)
    exact ⟨by rw [upd_ne hb]; exact e1, by rw [upd_ne hb]; exact e2, e3⟩
  · by_cases hm : n = m
    · subst hm
      rw [List.getElem?_set_self (by rw [← S.ln]; exact (List.getElem?_eq_some_iff.mp ha).1)] at e2
      cases e2
      rw [ha] at e1
      cases e1
      exact ⟨od, ws, upd_same, Paired.monoP (fun _ _ z => ⟨z.1, z.2.mono g⟩) h2⟩
    · rw [List.getElem?_set_ne hm] at e2
      have hb : b ≠ a := by
        intro e
        subst e
        exact hm (nd_ix S.nd ha e1)
      have q := S.ob m b y e1 e2
      exact q.mono g (fun z => by rw [upd_ne hb]; exact z) (upd_ne hb)
theorem OdOk.rm (h : F a = some (.frz od (.dK ws))) {p : Addr} {x : OD} (hp : p ≠ a) (hh : H' p = H p) (q : OdOk K F as H p x) : OdOk K (rmF F a) as H' p x := by
  cases x with
  | lst xs =>
    obtain ⟨h0, vs, h1, h2⟩ := q
    exact ⟨(rm_ne hp).trans h0, vs, hh.trans h1, Paired.monoP (fun _ _ z => z.rm h) h2⟩
  | dct kvs =>
    obtain ⟨h0, vs, h1, h2⟩ := q
    exact ⟨(rm_ne hp).trans h0, vs, hh.trans h1, Paired.monoP (fun _ _ z => ⟨z.1, z.2.rm h⟩) h2⟩
  | ins C fs =>
    obtain ⟨h0, dx, vs, h1, h2⟩ := q
    exact ⟨(rm_ne hp).trans h0, dx, vs, hh.trans h1, Paired.monoP (fun _ _ z => ⟨z.1, z.2.rm h⟩) h2⟩
  | fdct kvs =>
    obtain ⟨od, vs, h1, h2⟩ := q
    exact ⟨od, vs, (rm_ne hp).trans h1, Paired.monoP (fun _ _ z => ⟨z.1, z.2.rm h⟩) h2⟩
  | gone => trivial
theorem Sat.unlock {n : Nat} {kvs : List (Key × Rv)} (fa : F a = none) (gw : Grow B.F B.A F as) (g : Grow (upd F a (.frz od (.dK ws))) as F1 as1) (S1 : Sat B F1 as1 ow1 H) (ha : as.l[n]? = some a) (hx : ow1[n]? = some (.fdct kvs)) :
    Grow F as (rmF F1 a) as1 ∧ Sat B (rmF F1 a) as1 (ow1.set n (.dct kvs)) (upd H a (.dK ws)) ∧ ∀ v r, RvOk B.K F1 as1 v r → RvOk B.K (rmF F1 a) as1 v r := by
  have f1 : F1 a = some (.frz od (.dK ws)) := g.ex a _ upd_same
  have ha1 := g.get ha
  have g2 : Grow F as (rmF F1 a) as1 := ⟨fun b u e => by
    have hb : b ≠ a := ne_of_none e fa
    rw [rm_ne hb]
    exact g.ex b u (by rw [upd_ne hb]; exact e), g.ap, g.rr⟩
  refine ⟨g2, ⟨fun b u e => ?_, S1.nd, by rw [List.length_set]; exact S1.ln, fun b hb => ?_, fun b u e => ?_, fun m b y e1 e2 => ?_, gw.trans g2⟩, fun v r x => x.rm f1⟩
  · by_cases hb : b = a
    · subst hb
      rw [rm_at] at e
      cases e
    · rw [rm_ne hb] at e
      rw [upd_ne hb]
      exact S1.ex b u e
  · by_cases hb' : b = a
    · subst hb'
      exact ⟨_, upd_same⟩
    · obtain ⟨u, e⟩ := S1.al b hb
      exact ⟨u, by rw [upd_ne hb']; exact e⟩
  · obtain ⟨e1, e2, e3⟩ := S1.rr b u e
    have hb : b ≠ a := fun z => e3 (by rw [z]; exact List.mem_of_getElem? ha1)
    exact ⟨by rw [upd_ne hb]; exact e1, by rw [rm_ne hb]; exact e2, e3⟩
  · by_cases hm : n = m
    · subst hm
      rw [List.getElem?_set_self (by rw [← S1.ln]; exact (List.getElem?_eq_some_iff.mp ha1).1)] at e2
      cases e2
      rw [ha1] at e1
      cases e1
      obtain ⟨od', ws', k1, k2⟩ := S1.ob n a _ ha1 hx
      rw [f1] at k1
      cases k1
      exact ⟨rm_at, ws, upd_same, Paired.monoP (fun _ _ z => ⟨z.1, z.2.rm f1⟩) k2⟩
    · rw [List.getElem?_set_ne hm] at e2
      have hb : b ≠ a := by
        intro e
        subst e
        exact hm (nd_ix S1.nd ha1 e1)
      exact (S1.ob m b y e1 e2).rm f1 hb (upd_ne hb)
end
end DL
end
section
set_option Elab.async false
set_option linter.all false
set_option maxRecDepth 100000
set_option maxHeartbeats 1000000
/-! DL 2: judgements, expressions -/
namespace DL
open PySem PySem.Spec PyProof.Rows L2 Evl

/-! ### what holds ahead of a piece of code so that Q holds behind it -/
def wE (X : Cx) (e : Expr) : TE := fun σ H Q => ∀ (pins : List (Addr × Obj)) (s : Shared), Inv X pins σ H s → wpAny (model X.prog X.w) X.A (eval e X.env) (EP X pins σ Q) X.xe s
def wT (X : Cx) (e : Expr) : TT := fun σ H Q => ∀ (pins : List (Addr × Obj)) (s : Shared), Inv X pins σ H s → wpAny (model X.prog X.w) X.A (isTrue e X.env (eval e X.env)) (TP X pins σ Q) X.xe s
def wA (X : Cx) (es : List Expr) : TA := fun σ H Q => ∀ (pos : Pos) (pins : List (Addr × Obj)) (s : Shared), Inv X pins σ H s → wpAny (model X.prog X.w) X.A (spliced (backTo pos (starEach es X.env))) (AP X pins σ Q) X.xe s
def wS (X : Cx) (st : Stmt) : TS := fun D σ H => ∀ (pins : List (Addr × Obj)) (s : Shared), Inv X pins σ H s → wpAny (model X.prog X.w) X.A (exec st X.env) (SP X pins D) X.xe s
def wB (X : Cx) (st : List Stmt) : TS := fun D σ H => ∀ (pins : List (Addr × Obj)) (s : Shared), Inv X pins σ H s → wpAny (model X.prog X.w) X.A (execs st X.env) (SP X pins D) X.xe s
def wG (X : Cx) (tg : Expr) : TG := fun v σ H Q => ∀ (pins : List (Addr × Obj)) (s : Shared) (u : Value), Inv X pins σ H s → RelV v u → wpAny (model X.prog X.w) X.A (assign tg X.env u) (fun _ s' => ∃ σ' H', Inv X pins σ' H' s' ∧ Q σ' H') X.xe s
section
variable {X : Cx} {e tg : Expr} {es : List Expr} {st : Stmt} {sts : List Stmt} {σ : L2.St} {H : Hp} {t : TE}
theorem pe_w : PE X e (wE X e) := ⟨fun pins s σ H Q I h => h pins s I⟩
theorem pt_w : PT X e (wT X e) := ⟨fun pins s σ H Q I h => h pins s I⟩
theorem pa_w : PA X es (wA X es) := ⟨fun pos pins s σ H Q I h => h pos pins s I⟩
theorem ps_w : PS X st (wS X st) := ⟨fun pins s σ H D I h => h pins s I⟩
theorem pss_w : PSs X sts (wB X sts) := ⟨fun pins s σ H D I h => h pins s I⟩
theorem pg_w : PG X tg (wG X tg) := ⟨fun pins s σ H v u Q I r h => h pins s u I r⟩
theorem of_pe (h : PE X e t) {Q : VK} (q : t σ H Q) : wE X e σ H Q := fun pins s I => h.run pins s σ H Q I q
theorem of_pt {t : TT} (h : PT X e t) {Q : Bool → Hp → Prop} (q : t σ H Q) : wT X e σ H Q := fun pins s I => h.run pins s σ H Q I q
theorem of_pa {t : TA} (h : PA X es t) {Q : List V → Hp → Prop} (q : t σ H Q) : wA X es σ H Q := fun pos pins s I => h.run pos pins s σ H Q I q
theorem of_ps {t : TS} (h : PS X st t) {D : Ends} (q : t D σ H) : wS X st D σ H := fun pins s I => h.run pins s σ H D I q
theorem of_pss {t : TS} (h : PSs X sts t) {D : Ends} (q : t D σ H) : wB X sts D σ H := fun pins s I => h.run pins s σ H D I q
theorem of_pg {t : TG} (h : PG X tg t) {v : V} {Q : L2.St → Hp → Prop} (q : t v σ H Q) : wG X tg v σ H Q := fun pins s u I r => h.run pins s σ H v u Q I r q
theorem wE.mono {Q Q' : VK} (h : wE X e σ H Q) (k : ∀ v H', Q v H' → Q' v H') : wE X e σ H Q' := fun pins s I => thn (h pins s I) fun u s' ⟨v, H', I', r, q⟩ => ⟨v, H', I', r, k v H' q⟩
theorem wT.mono {Q Q' : Bool → Hp → Prop} (h : wT X e σ H Q) (k : ∀ v H', Q v H' → Q' v H') : wT X e σ H Q' := fun pins s I => thn (h pins s I) fun u s' ⟨H', I', q⟩ => ⟨H', I', k u H' q⟩
theorem wA.mono {Q Q' : List V → Hp → Prop} (h : wA X es σ H Q) (k : ∀ v H', Q v H' → Q' v H') : wA X es σ H Q' := fun pos pins s I => thn (h pos pins s I) fun u s' ⟨v, H', I', r, q⟩ => ⟨v, H', I', r, k v H' q⟩
theorem wG.mono {v : V} {Q Q' : L2.St → Hp → Prop} (h : wG X tg v σ H Q) (k : ∀ σ H', Q σ H' → Q' σ H') : wG X tg v σ H Q' := fun pins s u I r => thn (h pins s u I r) fun _ s' ⟨σ', H', I', q⟩ => ⟨σ', H', I', k σ' H' q⟩
theorem sp_mono {pins : List (Addr × Obj)} {D D' : Ends} {f : Flow} {s' : Shared} (h : SP X pins D f s') (h1 : ∀ σ H, D.nx σ H → D'.nx σ H) (h2 : ∀ v H, D.rt v H → D'.rt v H) (h3 : ∀ σ H, D.bk σ H → D'.bk σ H) (h4 : ∀ σ H, D.ct σ H → D'.ct σ H) : SP X pins D' f s' := by
  cases f with
  | next => obtain ⟨σ', H', I, q⟩ := h; exact ⟨σ', H', I, h1 _ _ q⟩
  | brk => obtain ⟨σ', H', I, q⟩ := h; exact ⟨σ', H', I, h3 _ _ q⟩
  | cont => obtain ⟨σ', H', I, q⟩ := h; exact ⟨σ', H', I, h4 _ _ q⟩
  | ret u => obtain ⟨v, σ', H', I, r, q⟩ := h; exact ⟨v, σ', H', I, r, h2 _ _ q⟩
theorem wS.mono {D D' : Ends} (h : wS X st D σ H) (h1 : ∀ σ H, D.nx σ H → D'.nx σ H) (h2 : ∀ v H, D.rt v H → D'.rt v H) (h3 : ∀ σ H, D.bk σ H → D'.bk σ H) (h4 : ∀ σ H, D.ct σ H → D'.ct σ H) : wS X st D' σ H := fun pins s I => thn (h pins s I) fun _ _ q => sp_mono q h1 h2 h3 h4
theorem wB.mono {D D' : Ends} (h : wB X sts D σ H) (h1 : ∀ σ H, D.nx σ H → D'.nx σ H) (h2 : ∀ v H, D.rt v H → D'.rt v H) (h3 : ∀ σ H, D.bk σ H → D'.bk σ H) (h4 : ∀ σ H, D.ct σ H → D'.ct σ H) : wB X sts D' σ H := fun pins s I => thn (h pins s I) fun _ _ q => sp_mono q h1 h2 h3 h4
end

/-! ### the judgements over data -/
/-- a def's body: the state at its start -/
structure DX extends Cx where
  bF : Hp
  bA : AS
instance : Coe DX Cx := ⟨DX.toCx⟩
abbrev DX.kb (X : DX) : KB := ⟨X.K, X.bF, X.bA⟩
abbrev DX.blk (X : DX) (s : Shared) (H : Hp) (scope : Scope) (env : Env) (fp : List Addr) : DX := { X with toCx := X.toCx.blk s H scope env fp }

abbrev TX := SL → OW → QR → Prop
abbrev TXb := SL → OW → (Bool → OW → Prop) → Prop
abbrev TXa := SL → OW → (List Rv → OW → Prop) → Prop
abbrev TM := DEnds → SL → OW → Prop
abbrev TGd := Rv → SL → OW → (SL → OW → Prop) → Prop
structure DE (X : DX) (e : Expr) (t : TX) : Prop where
  run : ∀ (F : Hp) (as : AS) (ow : OW) (σ : L2.St) (sl : SL) (H : Hp) (Q : QR), Sat X.kb F as ow H → Sls X.K F as sl σ → t sl ow Q → wE X e σ H (Post X.kb F as Q)
structure DT (X : DX) (e : Expr) (t : TXb) : Prop where
  run : ∀ (F : Hp) (as : AS) (ow : OW) (σ : L2.St) (sl : SL) (H : Hp) (Q : Bool → OW → Prop), Sat X.kb F as ow H → Sls X.K F as sl σ → t sl ow Q → wT X e σ H (PostB X.kb F as Q)
structure DA (X : DX) (es : List Expr) (t : TXa) : Prop where
  run : ∀ (F : Hp) (as : AS) (ow : OW) (σ : L2.St) (sl : SL) (H : Hp) (Q : List Rv → OW → Prop), Sat X.kb F as ow H → Sls X.K F as sl σ → t sl ow Q → wA X es σ H (PostA X.kb F as Q)
structure DS (X : DX) (st : Stmt) (t : TM) : Prop where
  run : ∀ (F : Hp) (as : AS) (ow : OW) (σ : L2.St) (sl : SL) (H : Hp) (D : DEnds), Sat X.kb F as ow H → Sls X.K F as sl σ → t D sl ow → wS X st (D.to X.kb F as) σ H
structure DB (X : DX) (st : List Stmt) (t : TM) : Prop where
  run : ∀ (F : Hp) (as : AS) (ow : OW) (σ : L2.St) (sl : SL) (H : Hp) (D : DEnds), Sat X.kb F as ow H → Sls X.K F as sl σ → t D sl ow → wB X st (D.to X.kb F as) σ H
structure DG (X : DX) (tg : Expr) (t : TGd) : Prop where
  run : ∀ (F : Hp) (as : AS) (ow : OW) (σ : L2.St) (sl : SL) (H : Hp) (v : V) (r : Rv) (Q : SL → OW → Prop), Sat X.kb F as ow H → Sls X.K F as sl σ → RvOk X.K F as v r → t r sl ow Q → wG X tg v σ H (PostS X.kb F as Q)

section
variable {X : DX} {a b c e : Expr} {es : List Expr} {pos : Pos} {ta tb tc te : TX} {t u : TXa}

/-! names, constants -/
def dVar (i : Nat) : TX := fun sl ow Q => match sl[i]? with
  | some (some r) => Q r ow
  | _ => False
def dK (x : PyData) : TX := fun _ ow Q => Q (.d x) ow
def dV (y : V) : TX := fun _ ow Q => Q (.v y) ow
theorem de_of {te' : TE} (h : PE X e te') (k : ∀ (F : Hp) (as : AS) (ow : OW) (σ : L2.St) (sl : SL) (H : Hp) (Q : QR), Sat X.kb F as ow H → Sls X.K F as sl σ → te sl ow Q → te' σ H (Post X.kb F as Q)) : DE X e te :=
  ⟨fun F as ow σ sl H Q S L q => of_pe h (k F as ow σ sl H Q S L q)⟩
theorem de_var (i : Nat) {x : Str} (h : PE X (.Name x pos) (tVar i)) : DE X (.Name x pos) (dVar i) := de_of h fun F as ow σ sl H Q S L q => by
  unfold dVar at q
  cases h1 : sl[i]? with
  | none => rw [h1] at q; exact q.elim
  | some y =>
    rw [h1] at q
    cases y with
    | none => exact q.elim
    | some r =>
      obtain ⟨v, e1, r1⟩ := L.at_ i r h1
      exact ⟨v, e1, post_r Grow.refl S r1 q⟩
theorem dn (i : Nat) {x : Str} {pos : Pos} (hN : X.N[i]? = some x := by rfl) (hv : Vis X.env.scope x := by first | exact Or.inl rfl | exact Or.inr (Or.inl rfl) | exact Or.inr (Or.inr rfl)) (hd : (x == ("__debug__" : Str)) = false := by decide)
    (hcd : (x == ("__classdict__" : Str)) = false := by decide) : DE X (.Name x pos) (dVar i) := de_var i (pe_var hN hv hd hcd)
theorem de_int {i : Int} {j} : DE X (.Constant (.int i) j pos) (dK (.int i)) := de_of pe_int fun F as ow σ sl H Q S L q => post_d Grow.refl S (.int i) q
theorem de_str {x : Str} {j} : DE X (.Constant (.str x) j pos) (dK (.str x)) := de_of pe_str fun F as ow σ sl H Q S L q => post_d Grow.refl S (.str x) q
theorem de_bl {k : Bool} {j} : DE X (.Constant (.bool k) j pos) (dK (.bool k)) := de_of pe_bl fun F as ow σ sl H Q S L q => post_d Grow.refl S (.bl k) q
theorem de_non {j} : DE X (.Constant .none j pos) (dK .none) := de_of pe_non fun F as ow σ sl H Q S L q => post_d Grow.refl S .non q
/-- a constant of the module -/
theorem de_globD {x : Str} {v : V} {y : PyData} {u : Value} (hg : Gl X x) (hm : X.mg x = some u) (r : RelV v u) (hk : ∀ F, Dd X.K F v y) (hd : (x == ("__debug__" : Str)) = false := by decide) : DE X (.Name x pos) (dK y) :=
  de_of (pe_glob hg hm r hd) fun F as ow σ sl H Q S L q => post_d Grow.refl S (hk F) q
theorem de_globV {x : Str} {v : V} {u : Value} (hg : Gl X x) (hm : X.mg x = some u) (r : RelV v u) (hd : (x == ("__debug__" : Str)) = false := by decide) : DE X (.Name x pos) (dV v) :=
  de_of (pe_glob hg hm r hd) fun F as ow σ sl H Q S L q => post_r (r := .v v) Grow.refl S rfl q
theorem de_bltn {x : Str} {v : V} {u : Value} (hg : Gl X x) (hm : X.mg x = none) (hv : bootBuiltins x = some u) (r : RelV v u) (hn : x ≠ "__name__" := by decide) (hd : (x == ("__debug__" : Str)) = false := by decide) : DE X (.Name x pos) (dV v) :=
  de_of (pe_bltn hg hm hv r hn hd) fun F as ow σ sl H Q S L q => post_r (r := .v v) Grow.refl S rfl q

/-! argument lists, displays -/
def dNil : TXa := fun _ ow Q => Q [] ow
def dCons (te : TX) (tr : TXa) : TXa := fun sl ow Q => te sl ow fun x ow1 => tr sl ow1 fun xs ow2 => Q (x :: xs) ow2
theorem da_of {te' : TA} {t : TXa} (h : PA X es te') (k : ∀ (F : Hp) (as : AS) (ow : OW) (σ : L2.St) (sl : SL) (H : Hp) (Q : List Rv → OW → Prop), Sat X.kb F as ow H → Sls X.K F as sl σ → t sl ow Q → te' σ H (PostA X.kb F as Q)) : DA X es t :=
  ⟨fun F as ow σ sl H Q S L q => of_pa h (k F as ow σ sl H Q S L q)⟩
theorem da_nil : DA X [] dNil := da_of pa_nil fun F as ow σ sl H Q S L q => ⟨F, as, [], ow, Grow.refl, S, .nil, q⟩
theorem da_cons (h : DE X e te) (hr : DA X es t) (hs : starEach (e :: es) X.env = (false, eval e X.env) :: starEach es X.env := by rfl) : DA X (e :: es) (dCons te t) :=
  da_of (pa_cons pe_w pa_w hs) fun F as ow σ sl H Q S L q => (h.run F as ow σ sl H _ S L q).mono fun v H1 ⟨F1, as1, x, ow1, g1, S1, r1, q1⟩ =>
    (hr.run F1 as1 ow1 σ sl H1 _ S1 (L.mono g1) q1).mono fun vs H2 ⟨F2, as2, xs, ow2, g2, S2, r2, q2⟩ => ⟨F2, as2, x :: xs, ow2, g1.trans g2, S2, .cons (r1.mono g2) r2, q2⟩
/-- (a, b, ..): data -/
def dTup (t : TXa) : TX := fun sl ow Q => t sl ow fun rs ow1 => rs.length ≤ sizeLine ∧ match allD rs with
  | some ds => Q (.d (.tuple ds)) ow1
  | none => False
theorem de_tup {k} (h : DA X es t) : DE X (.Tuple es k pos) (dTup t) := de_of (pe_tup pa_w) fun F as ow σ sl H Q S L q =>
  (h.run F as ow σ sl H _ S L q).mono fun vs H1 ⟨F1, as1, rs, ow1, g1, S1, r1, hl, q1⟩ => ⟨by rw [Paired.len2 r1]; exact hl, fun p hp => by
    cases e : allD rs with
    | none => rw [e] at q1; exact q1.elim
    | some ds =>
      rw [e] at q1
      rw [of_allD e] at r1
      exact post_tup g1 S1 hp (rvs_dd r1) q1⟩
/-- [a, b, ..]: data -/
def dLst (t : TXa) : TX := fun sl ow Q => t sl ow fun rs ow1 => rs.length ≤ sizeLine ∧ match allD rs with
  | some ds => Q (.d (.list ds)) ow1
  | none => False
theorem de_lst (h : DA X es t) : DE X (.List es pos) (dLst t) := de_of (pe_lst pa_w) fun F as ow σ sl H Q S L q =>
  (h.run F as ow σ sl H _ S L q).mono fun vs H1 ⟨F1, as1, rs, ow1, g1, S1, r1, hl, q1⟩ => ⟨by rw [Paired.len2 r1]; exact hl, fun p hp => by
    cases e : allD rs with
    | none => rw [e] at q1; exact q1.elim
    | some ds =>
      rw [e] at q1
      rw [of_allD e] at r1
      exact post_lst g1 S1 hp (rvs_dd r1) q1⟩
/-- [a, b, ..]: owned -/
def dLstO (t : TXa) : TX := fun sl ow Q => t sl ow fun rs ow1 => rs.length ≤ sizeLine ∧ Q (.o ow1.length) (ow1 ++ [.lst rs])
theorem de_lstO (h : DA X es t) : DE X (.List es pos) (dLstO t) := de_of (pe_lst pa_w) fun F as ow σ sl H Q S L q =>
  (h.run F as ow σ sl H _ S L q).mono fun vs H1 ⟨F1, as1, rs, ow1, g1, S1, r1, hl, q1⟩ => ⟨by rw [Paired.len2 r1]; exact hl, fun p hp => post_ol g1 S1 hp r1 q1⟩

/-! ### operators by data -/
/-- a two-place rule of the layer bears a rule over data -/
def Bears (X : DX) (r : R2) (rd : Rv → Rv → OW → QR → Prop) : Prop := ∀ (F0 : Hp) (as0 : AS) (F : Hp) (as : AS) (ow : OW) (H : Hp) (v w : V) (x y : Rv) (Q : QR) (R : VK), (∀ z H', Post X.kb F0 as0 Q z H' → R z H') → Grow F0 as0 F as → Sat X.kb F as ow H → RvOk X.K F as v x → RvOk X.K F as w y → rd x y ow Q → r v w H R
def dOp (rd : Rv → Rv → OW → QR → Prop) (ta tb : TX) : TX := fun sl ow Q => ta sl ow fun x ow1 => tb sl ow1 fun y ow2 => rd x y ow2 Q
theorem run2 {r : R2} {rd : Rv → Rv → OW → QR → Prop} (hb : Bears X r rd) (da : DE X a ta) (db : DE X b tb) {F : Hp} {as : AS} {ow : OW} {σ : L2.St} {sl : SL} {H : Hp} {Q : QR} (S : Sat X.kb F as ow H) (L : Sls X.K F as sl σ) (q : dOp rd ta tb sl ow Q) :
    tOp r (wE X a) (wE X b) σ H (Post X.kb F as Q) :=
  (da.run F as ow σ sl H _ S L q).mono fun v H1 ⟨F1, as1, x, ow1, g1, S1, r1, q1⟩ => (db.run F1 as1 ow1 σ sl H1 _ S1 (L.mono g1) q1).mono fun w H2 ⟨F2, as2, y, ow2, g2, S2, r2, q2⟩ =>
    hb F as F2 as2 ow2 H2 v w x y Q _ (fun _ _ z => z) (g1.trans g2) S2 (r1.mono g2) r2 q2
theorem de_op {op : Operator} {r : R2} {rd : Rv → Rv → OW → QR → Prop} (ho : OpR X (binaryOp op) r) (hb : Bears X r rd) (da : DE X a ta) (db : DE X b tb) : DE X (.BinOp a op b pos) (dOp rd ta tb) :=
  de_of (pe_op ho pe_w pe_w) fun F as ow σ sl H Q S L q => run2 hb da db S L q
theorem de_cmp {op : CmpOp} {r : R2} {rd : Rv → Rv → OW → QR → Prop} (ho : OpR X (compareOp op) r) (hb : Bears X r rd) (da : DE X a ta) (db : DE X b tb) (hm : behindInMarks op b = false) : DE X (.Compare a [op] [b] pos) (dOp rd ta tb) :=
  de_of (pe_cmpR ho pe_w pe_w hm) fun F as ow σ sl H Q S L q => run2 hb da db S L q

/-! #### the items of a list or tuple -/
def lstAt (ow : OW) (n : Nat) : Option (List Rv) := match ow[n]? with
  | some (.lst xs) => some xs
  | _ => none
theorem of_lstAt {ow : OW} {n : Nat} {xs : List Rv} (h : lstAt ow n = some xs) : ow[n]? = some (.lst xs) := by
  unfold lstAt at h
  split at h
  · cases h
    assumption
  · cases h
def itemsOf : Rv → OW → Option (List Rv)
  | .d (.list ds), _ => some (ds.map Rv.d)
  | .d (.tuple ds), _ => some (ds.map Rv.d)
  | .f ns, _ => some (ns.map fun i => Rv.d (.int i))
  | .o n, ow => lstAt ow n
  | _, _ => none
theorem items_ok {B : KB} {F H : Hp} {as : AS} {ow : OW} {v : V} {r : Rv} {xs : List Rv} (S : Sat B F as ow H) (h : RvOk B.K F as v r) (e : itemsOf r ow = some xs) :
    ∃ a vs, v = .ref a ∧ (SqL B.K H a vs ∨ SqT B.K H a vs) ∧ Paired (RvOk B.K F as) vs xs := by
  cases r with
  | f ns =>
    cases e
    obtain ⟨a, h1, h2⟩ := h
    exact ⟨a, _, h1, .inl (ex_l S.ex h2), by rw [show ns.map (fun i => Rv.d (.int i)) = (ns.map PyData.int).map Rv.d by rw [List.map_map]; rfl]; exact dd_rvs (DdAll.ofInts ns)⟩
  | d x =>
    cases x with
    | list ds =>
      cases e
      cases h with
      | lst h1 h2 => exact ⟨_, _, rfl, .inl (sq_of (S.ex _ _ h1)), dd_rvs h2⟩
    | tuple ds =>
      cases e
      cases h with
      | tup h1 h2 => exact ⟨_, _, rfl, .inr (ex_t S.ex h1), dd_rvs h2⟩
    | _ => cases e
  | o n =>
    obtain ⟨a, h1, rfl⟩ := h
    obtain ⟨_, vs, h2, h3⟩ := S.ob n a _ h1 (of_lstAt e)
    exact ⟨a, vs, rfl, .inl (sq_of h2), h3⟩
  | v y => cases e
/-- a value as data: an owned list of data is read -/
def dataOf : Rv → OW → Option PyData
  | .d x, _ => some x
  | .f ns, _ => some (.list (ns.map PyData.int))
  | .o n, ow => (lstAt ow n).bind fun xs => (allD xs).map PyData.list
  | .v _, _ => none
theorem data_ok {B : KB} {F H : Hp} {as : AS} {ow : OW} {v : V} {r : Rv} {x : PyData} (S : Sat B F as ow H) (h : RvOk B.K F as v r) (e : dataOf r ow = some x) : Dp B.K H v x := by
  cases r with
  | f ns =>
    cases e
    obtain ⟨a, h1, h2⟩ := h
    rw [h1]
    exact .lst (ex_l S.ex h2) (DdAll.dp (Ex.refl H) _ _ (DdAll.ofInts ns))
  | d y =>
    cases e
    exact Dd.dp S.ex _ _ h
  | o n =>
    obtain ⟨a, h1, rfl⟩ := h
    obtain ⟨ys, e1, e2⟩ := Option.bind_eq_some_iff.mp e
    obtain ⟨ds, e3, rfl⟩ := Option.map_eq_some_iff.mp e2
    obtain ⟨_, vs, h2, h3⟩ := S.ob n a _ h1 (of_lstAt e1)
    rw [of_allD e3] at h3
    exact .lst (sq_of h2) (DdAll.dp S.ex _ _ (rvs_dd h3))
  | v y => cases e

/-! #### + -/
def rAdd : Rv → Rv → OW → QR → Prop
  | .d (.int i), .d (.int j), ow, Q => Q (.d (.int (i + j))) ow
  | .d (.str s), .d (.str t), ow, Q => s.length + t.length ≤ sizeLine ∧ Q (.d (.str (s ++ t))) ow
  | .d (.tuple xs), .d (.tuple ys), ow, Q => xs.length + ys.length ≤ sizeLine ∧ Q (.d (.tuple (xs ++ ys))) ow
  | .d (.list xs), .d (.list ys), ow, Q => xs.length + ys.length ≤ sizeLine ∧ Q (.d (.list (xs ++ ys))) ow
  | _, _, _, _ => False
abbrev rAddH (K : FG) : R2 := fun x y H Q => rI0 (fun i j => .int (i + j)) x y H Q ∨ ((∃ i j, x = .str i ∧ y = .str j ∧ i.length + j.length ≤ sizeLine ∧ Q (.str (i ++ j)) H) ∨ (rCatA K x y H Q ∨ rCat x y H Q))
theorem opAddH : OpR X (binaryOp .Add) (rAddH X.K) := OpR.or op_add (OpR.or op_add_str (OpR.or op_catA op_cat))
theorem bears_add : Bears X (rAddH X.K) rAdd := fun F0 as0 F as ow H v w x y Q R k g S rx ry q => by
  unfold rAdd at q
  split at q
  · cases rx; cases ry
    exact .inl ⟨_, _, rfl, rfl, k _ _ (post_d g S (.int _) q)⟩
  · cases rx; cases ry
    exact .inr (.inl ⟨_, _, rfl, rfl, q.1, k _ _ (post_d g S (.str _) q.2)⟩)
  · cases rx with
    | tup h1 h2 =>
      cases ry with
      | tup k1 k2 =>
        refine .inr (.inr (.inl ⟨_, _, _, _, rfl, rfl, ex_t S.ex h1, ex_t S.ex k1, by rw [h2.len, k2.len]; exact q.1, fun e => ?_, fun _ e => ?_, fun _ _ p hp => k _ _ (post_tup g S hp (h2.app k2) q.2)⟩))
        · subst e
          cases h2
          exact k _ _ (post_d g S (.tup k1 k2) q.2)
        · subst e
          cases k2
          have q2 := q.2
          rw [List.append_nil] at q2
          exact k _ _ (post_d g S (.tup h1 h2) q2)
  · cases rx with
    | lst h1 h2 =>
      cases ry with
      | lst k1 k2 => exact .inr (.inr (.inr ⟨_, _, _, _, rfl, rfl, S.ex _ _ h1, S.ex _ _ k1, by rw [h2.len, k2.len]; exact q.1, fun p hp => k _ _ (post_lst g S hp (h2.app k2) q.2)⟩))
  · exact q.elim
theorem de_add (da : DE X a ta) (db : DE X b tb) : DE X (.BinOp a .Add b pos) (dOp rAdd ta tb) := de_op opAddH bears_add da db
/-! ints -/
def rInt (C : Int → Int → Prop) (f : Int → Int → Int) : Rv → Rv → OW → QR → Prop
  | .d (.int i), .d (.int j), ow, Q => C i j ∧ Q (.d (.int (f i j))) ow
  | _, _, _, _ => False
theorem bears_int {C C' : Int → Int → Prop} {f g : Int → Int → Int} (hC : ∀ i j, C i j → C' i j ∧ g i j = f i j) : Bears X (rI C' fun i j => .int (g i j)) (rInt C f) := fun F0 as0 F as ow H v w x y Q R k gr S rx ry q => by
  unfold rInt at q
  split at q
  · cases rx; cases ry
    obtain ⟨h1, h2⟩ := hC _ _ q.1
    exact ⟨_, _, rfl, rfl, h1, by show R (.int _) H; rw [h2]; exact k _ _ (post_d gr S (.int _) q.2)⟩
  · exact q.elim
theorem bears_int0 {f : Int → Int → Int} : Bears X (rI0 fun i j => .int (f i j)) (rInt (fun _ _ => True) f) := fun F0 as0 F as ow H v w x y Q R k gr S rx ry q => by
  unfold rInt at q
  split at q
  · cases rx; cases ry
    exact ⟨_, _, rfl, rfl, k _ _ (post_d gr S (.int _) q.2)⟩
  · exact q.elim
theorem de_sub (da : DE X a ta) (db : DE X b tb) : DE X (.BinOp a .Sub b pos) (dOp (rInt (fun _ _ => True) fun i j => i - j) ta tb) := de_op op_sub bears_int0 da db
theorem de_mod (da : DE X a ta) (db : DE X b tb) : DE X (.BinOp a .Mod b pos) (dOp (rInt (fun _ j => 0 < j) fun i j => i % j) ta tb) := de_op op_mod (bears_int fun _ _ h => ⟨h, rfl⟩) da db
/-- the divisor positive, below 2 ^ 30 -/
theorem de_fdiv (da : DE X a ta) (db : DE X b tb) : DE X (.BinOp a .FloorDiv b pos) (dOp (rInt (fun _ j => 0 < j ∧ j < 1073741824) fun i j => i / j) ta tb) := de_op op_fdiv (bears_int fun i j h => ⟨h, rfl⟩) da db
/-- one factor below 2 ^ 64 -/
def CM (i j : Int) : Prop := (-(2 ^ 64) < i ∧ i < 2 ^ 64) ∨ (-(2 ^ 64) < j ∧ j < 2 ^ 64)
theorem de_pow (da : DE X a ta) (db : DE X b tb) : DE X (.BinOp a .Pow b pos) (dOp (rInt (fun i j => 0 ≤ j ∧ j ≤ 1000000 ∧ i.natAbs < 2 ^ 64) fun i j => i ^ j.toNat) ta tb) := de_op op_pow (bears_int fun i j h => ⟨h, rfl⟩) da db
end
end DL
end
section
set_option Elab.async false
set_option linter.all false
set_option maxRecDepth 100000
set_option maxHeartbeats 1000000
/-! DL 3: comparisons, tests, subscripts, built-in functions -/
namespace DL
open PySem PySem.Spec PyProof.Rows L2 Evl

/-- an ordinary place: nothing is handled, room -/
structure Cm (X : Cx) : Prop where
  calm : X.calm = true
  un : X.A.units + 150 < cLine

section
variable {X : DX} {a b c e : Expr} {es : List Expr} {pos : Pos} {ta tb tc te : TX} {t u : TXa}

/-! ### * -/
def rMul : Rv → Rv → OW → QR → Prop
  | .d (.int i), .d (.int j), ow, Q => CM i j ∧ Q (.d (.int (i * j))) ow
  | .d (.list xs), .d (.int k), ow, Q => (-(2 ^ 63) ≤ k ∧ k < 2 ^ 63 ∧ xs.length * k.toNat ≤ sizeLine) ∧ Q (.d (.list (List.replicate k.toNat xs).flatten)) ow
  | .d (.tuple xs), .d (.int k), ow, Q => (xs ≠ [] ∧ 2 ≤ k ∧ k ≤ 1000 ∧ xs.length ≤ 1000) ∧ Q (.d (.tuple (List.replicate k.toNat xs).flatten)) ow
  | _, _, _, _ => False
abbrev rMulH (K : FG) : R2 := fun x y H Q => rI CMul (fun i j => .int (i * j)) x y H Q ∨ (rRep x y H Q ∨ rRepT K x y H Q)
theorem bears_mul : Bears X (rMulH X.K) rMul := fun F0 as0 F as ow H v w x y Q R k g S rx ry q => by
  unfold rMul at q
  split at q
  · cases rx; cases ry
    exact .inl ⟨_, _, rfl, rfl, q.1, k _ _ (post_d g S (.int _) q.2)⟩
  · cases rx with
    | lst h1 h2 =>
      cases ry
      exact .inr (.inl ⟨_, _, _, rfl, rfl, S.ex _ _ h1, q.1.1, q.1.2.1, by rw [h2.len]; exact q.1.2.2, fun p hp => k _ _ (post_lst g S hp (h2.rep _) q.2)⟩)
  · cases rx with
    | tup h1 h2 =>
      cases ry
      refine .inr (.inr ⟨_, _, _, rfl, rfl, ex_t S.ex h1, fun z => ?_, q.1.2.1, q.1.2.2.1, by rw [h2.len]; exact q.1.2.2.2, fun p hp => k _ _ (post_tup g S hp (h2.rep _) q.2)⟩)
      subst z
      cases h2
      exact q.1.1 rfl
  · exact q.elim
theorem de_mul (da : DE X a ta) (db : DE X b tb) : DE X (.BinOp a .Mult b pos) (dOp rMul ta tb) := de_op (OpR.or op_mul (OpR.or op_rep op_repT)) bears_mul da db

/-! ### -a -/
def dNeg (te : TX) : TX := fun sl ow Q => te sl ow fun x ow1 => match x with
  | .d (.int i) => Q (.d (.int (-i))) ow1
  | _ => False
theorem de_neg (h : DE X a ta) : DE X (.UnaryOp .USub a pos) (dNeg ta) := de_of (pe_un un_neg pe_w) fun F as ow σ sl H Q S L q =>
  (h.run F as ow σ sl H _ S L q).mono fun v H1 ⟨F1, as1, r, ow1, g1, S1, r1, q1⟩ => by
    cases r with
    | d x =>
      cases x with
      | int i =>
        cases r1
        exact ⟨_, rfl, post_d g1 S1 (.int _) q1⟩
      | _ => exact q1.elim
    | _ => exact q1.elim

/-! ### ==, != -/
/-- equal, as Python compares; what is asked of the two -/
def eqD : PyData → PyData → Bool
  | .int i, .int j => decide (i = j)
  | .str x, .str y => decide (x = y)
  | d, e => PyData.eqv d e
def eqOk : PyData → PyData → Prop
  | .int _, .int _ => True
  | .str _, .str _ => True
  | d, e => SeqAt.shaped d = true ∧ SeqAt.shaped e = true
def rEqR (neg : Bool) : Rv → Rv → OW → QR → Prop := fun x y ow Q => match dataOf x ow, dataOf y ow with
  | some d, some e => eqOk d e ∧ Q (.d (.bool (if neg then !eqD d e else eqD d e))) ow
  | _, _ => False
theorem bears_eq (neg : Bool) : Bears X (fun x y H Q => if neg then (rNe x y H Q ∨ rNeD X.K x y H Q) else (rEq x y H Q ∨ rEqD X.K x y H Q)) (rEqR neg) := fun F0 as0 F as ow H v w x y Q R k g S rx ry q => by
  unfold rEqR at q
  split at q
  · rename_i d e hd he
    have pd := data_ok S rx hd
    have pe := data_ok S ry he
    have key : SeqAt.shaped d = true ∧ SeqAt.shaped e = true → Q (.d (.bool (if neg then !PyData.eqv d e else PyData.eqv d e))) ow → (if neg then (rNe v w H R ∨ rNeD X.K v w H R) else (rEq v w H R ∨ rEqD X.K v w H R)) := fun kk q2 => by
      cases neg with
      | true =>
        rw [if_pos rfl] at q2 ⊢
        exact .inr ⟨d, e, pd, pe, kk.1, kk.2, k _ _ (post_d g S (.bl _) q2)⟩
      | false =>
        rw [if_neg Bool.false_ne_true] at q2 ⊢
        exact .inr ⟨d, e, pd, pe, kk.1, kk.2, k _ _ (post_d g S (.bl _) q2)⟩
    unfold eqD eqOk at q
    split at q
    · cases pd; cases pe
      cases neg with
      | true =>
        rw [if_pos rfl] at q ⊢
        refine .inl ⟨rfl, k _ _ (post_d g S (.bl _) ?_)⟩
        have q2 := q.2
        simp only [V.int.injEq]
        exact q2
      | false =>
        rw [if_neg Bool.false_ne_true] at q ⊢
        refine .inl ⟨rfl, k _ _ (post_d g S (.bl _) ?_)⟩
        have q2 := q.2
        simp only [V.int.injEq]
        exact q2
    · cases pd; cases pe
      cases neg with
      | true =>
        rw [if_pos rfl] at q ⊢
        refine .inl ⟨rfl, k _ _ (post_d g S (.bl _) ?_)⟩
        have q2 := q.2
        simp only [V.str.injEq]
        exact q2
      | false =>
        rw [if_neg Bool.false_ne_true] at q ⊢
        refine .inl ⟨rfl, k _ _ (post_d g S (.bl _) ?_)⟩
        have q2 := q.2
        simp only [V.str.injEq]
        exact q2
    · exact key q.1 q.2
  · exact q.elim
theorem opEqH (m : Cm X) : OpR X (compareOp .Eq) (fun x y H Q => if false = true then (rNe x y H Q ∨ rNeD X.K x y H Q) else (rEq x y H Q ∨ rEqD X.K x y H Q)) := fun pins s σ H x y v u Q I rx ry h => by
  have h : rEq x y H Q ∨ rEqD X.K x y H Q := h
  exact OpR.or op_eq (op_eqD (by have := m.un; omega)) pins s σ H x y v u Q I rx ry h
theorem opNeH (m : Cm X) : OpR X (compareOp .NotEq) (fun x y H Q => if true = true then (rNe x y H Q ∨ rNeD X.K x y H Q) else (rEq x y H Q ∨ rEqD X.K x y H Q)) := fun pins s σ H x y v u Q I rx ry h => by
  have h : rNe x y H Q ∨ rNeD X.K x y H Q := h
  exact OpR.or op_ne (op_neD (by have := m.un; omega)) pins s σ H x y v u Q I rx ry h
theorem de_eq (m : Cm X) (da : DE X a ta) (db : DE X b tb) : DE X (.Compare a [.Eq] [b] pos) (dOp (rEqR false) ta tb) := de_cmp (opEqH m) (bears_eq false) da db (nomark _)
theorem de_ne (m : Cm X) (da : DE X a ta) (db : DE X b tb) : DE X (.Compare a [.NotEq] [b] pos) (dOp (rEqR true) ta tb) := de_cmp (opNeH m) (bears_eq true) da db (nomark _)

/-! ### order of ints -/
def rCmpI (f : Int → Int → Bool) : Rv → Rv → OW → QR → Prop
  | .d (.int i), .d (.int j), ow, Q => Q (.d (.bool (f i j))) ow
  | _, _, _, _ => False
theorem bears_cmpI {f : Int → Int → Bool} : Bears X (rI0 fun i j => .bl (f i j)) (rCmpI f) := fun F0 as0 F as ow H v w x y Q R k gr S rx ry q => by
  unfold rCmpI at q
  split at q
  · cases rx; cases ry
    exact ⟨_, _, rfl, rfl, k _ _ (post_d gr S (.bl _) q)⟩
  · exact q.elim
theorem de_lt (da : DE X a ta) (db : DE X b tb) : DE X (.Compare a [.Lt] [b] pos) (dOp (rCmpI fun i j => decide (i < j)) ta tb) := de_cmp op_lt bears_cmpI da db (nomark _)
theorem de_le (da : DE X a ta) (db : DE X b tb) : DE X (.Compare a [.LtE] [b] pos) (dOp (rCmpI fun i j => decide (i ≤ j)) ta tb) := de_cmp op_le bears_cmpI da db (nomark _)
theorem de_gt (da : DE X a ta) (db : DE X b tb) : DE X (.Compare a [.Gt] [b] pos) (dOp (rCmpI fun i j => decide (j < i)) ta tb) := de_cmp op_gt bears_cmpI da db (nomark _)
theorem de_ge (da : DE X a ta) (db : DE X b tb) : DE X (.Compare a [.GtE] [b] pos) (dOp (rCmpI fun i j => decide (j ≤ i)) ta tb) := de_cmp op_ge bears_cmpI da db (nomark _)
/-- a ≤ b ≤ c and the like -/
def dChain (f g : Int → Int → Bool) (ta tb tc : TX) : TX := fun sl ow Q => ta sl ow fun x ow1 => tb sl ow1 fun y ow2 => match x, y with
  | .d (.int i), .d (.int j) => if f i j = true then tc sl ow2 fun z ow3 => (match z with
      | .d (.int k) => Q (.d (.bool (g j k))) ow3
      | _ => False) else Q (.d (.bool false)) ow2
  | _, _ => False
theorem de_chain {op op' : CmpOp} {f g : Int → Int → Bool} (ho : OpR X (compareOp op) (rI0 fun i j => .bl (f i j))) (ho' : OpR X (compareOp op') (rI0 fun i j => .bl (g i j))) (da : DE X a ta) (db : DE X b tb) (dc : DE X c tc)
    (hm : lastMarks [op, op'] [b, c] = false := by with_unfolding_all rfl) : DE X (.Compare a [op, op'] [b, c] pos) (dChain f g ta tb tc) :=
  de_of (pe_chain ho ho' pe_w pe_w pe_w hm) fun F as ow σ sl H Q S L q => (da.run F as ow σ sl H _ S L q).mono fun v H1 ⟨F1, as1, x, ow1, g1, S1, r1, q1⟩ => (db.run F1 as1 ow1 σ sl H1 _ S1 (L.mono g1) q1).mono fun w H2 ⟨F2, as2, y, ow2, g2, S2, r2, q2⟩ => by
    have r1' := r1.mono g2
    dsimp only at q2
    split at q2
    · cases r1'; cases r2
      refine ⟨_, _, rfl, rfl, _, rfl, ?_⟩
      split at q2
      · rename_i e
        rw [if_pos e]
        refine (dc.run F2 as2 ow2 σ sl H2 _ S2 (L.mono (g1.trans g2)) q2).mono fun z H3 ⟨F3, as3, y3, ow3, g3, S3, r3, q3⟩ => ?_
        dsimp only at q3
        split at q3
        · cases r3
          exact ⟨_, _, rfl, rfl, post_d ((g1.trans g2).trans g3) S3 (.bl _) q3⟩
        · exact q3.elim
      · rename_i e
        rw [if_neg e]
        exact post_d (g1.trans g2) S2 (.bl _) q2
    · exact q2.elim
theorem de_lele (da : DE X a ta) (db : DE X b tb) (dc : DE X c tc) (hm : lastMarks [.LtE, .LtE] [b, c] = false := by with_unfolding_all rfl) : DE X (.Compare a [.LtE, .LtE] [b, c] pos) (dChain (fun i j => decide (i ≤ j)) (fun i j => decide (i ≤ j)) ta tb tc) := de_chain op_le op_le da db dc hm

/-! ### is None -/
def isNone : Rv → Bool
  | .d .none => true
  | _ => false
def rIsN (neg : Bool) : Rv → Rv → OW → QR → Prop := fun x y ow Q => match x, y with
  | .d d, .d .none => Q (.d (.bool (if neg then !isNone (.d d) else isNone (.d d)))) ow
  | .o n, .d .none => Q (.d (.bool neg)) ow
  | _, _ => False
theorem none_dec {K : FG} {F : Hp} {v : V} {d : PyData} (h : Dd K F v d) : decide (v = .non) = isNone (.d d) := by
  cases h <;> first | rfl | exact decide_eq_false (by intro z; cases z)
theorem bears_isN : Bears X (fun x y H Q => y = .non ∧ Q (.bl (decide (x = .non))) H) (rIsN false) := fun F0 as0 F as ow H v w x y Q R k gr S rx ry q => by
  unfold rIsN at q
  split at q
  · cases ry
    exact ⟨rfl, by rw [none_dec rx]; exact k _ _ (post_d gr S (.bl _) q)⟩
  · cases ry
    obtain ⟨a, _, rfl⟩ := rx
    exact ⟨rfl, by rw [decide_eq_false (show ¬ V.ref a = .non from fun z => nomatch z)]; exact k _ _ (post_d gr S (.bl _) q)⟩
  · exact q.elim
theorem bears_notN : Bears X (fun x y H Q => y = .non ∧ Q (.bl (!decide (x = .non))) H) (rIsN true) := fun F0 as0 F as ow H v w x y Q R k gr S rx ry q => by
  unfold rIsN at q
  split at q
  · cases ry
    exact ⟨rfl, by rw [none_dec rx]; exact k _ _ (post_d gr S (.bl _) q)⟩
  · cases ry
    obtain ⟨a, _, rfl⟩ := rx
    exact ⟨rfl, by rw [decide_eq_false (show ¬ V.ref a = .non from fun z => nomatch z)]; exact k _ _ (post_d gr S (.bl _) q)⟩
  · exact q.elim
theorem de_isN (da : DE X a ta) (db : DE X b tb) : DE X (.Compare a [.Is] [b] pos) (dOp (rIsN false) ta tb) := de_cmp op_isN bears_isN da db (nomark _)
theorem de_notN (da : DE X a ta) (db : DE X b tb) : DE X (.Compare a [.IsNot] [b] pos) (dOp (rIsN true) ta tb) := de_cmp op_notN bears_notN da db (nomark _)

/-! ### in -/
def flatD : PyData → Bool
  | .none => true
  | .bool _ => true
  | .int _ => true
  | .str _ => true
  | _ => false
@[irreducible] def rInR (neg : Bool) : Rv → Rv → OW → QR → Prop := fun x y ow Q => match x, y with
  | .d (.str s), .d (.str z) => ∃ c : Nat, s = ⟨#[c]⟩ ∧ Q (.d (.bool (if neg then !decide (c ∈ z.cps.toList) else decide (c ∈ z.cps.toList)))) ow
  | .d d, y => ∃ rs ds, itemsOf y ow = some rs ∧ allD rs = some ds ∧ flatD d = true ∧ ds.all flatD = true ∧ Q (.d (.bool (if neg then !ds.any (fun z => PyData.eqv z d) else ds.any (fun z => PyData.eqv z d)))) ow
  | _, _ => False
theorem flat_V {K : FG} {F : Hp} {v : V} {d : PyData} (h : Dd K F v d) (f : flatD d = true) : flatV v = true := by
  cases h <;> first | rfl | (simp [flatD] at f)
theorem flat_eq {K : FG} {F F' : Hp} {v w : V} {d e : PyData} (h : Dd K F v d) (k : Dd K F' w e) (f : flatD d = true) (f' : flatD e = true) : eqV v w = PyData.eqv d e := by
  cases h <;> cases k <;> first | rfl | (simp [flatD] at f) | (simp [flatD] at f') | (simp [eqV, PyData.eqv])
theorem flat_any {K : FG} {F F' : Hp} {w : V} {e : PyData} (k : Dd K F' w e) (f' : flatD e = true) : ∀ {vs : List V} {ds : List PyData}, DdAll K F vs ds → ds.all flatD = true → vs.all flatV = true ∧ inV w vs = ds.any fun z => PyData.eqv z e
  | _, _, .nil, _ => ⟨rfl, rfl⟩
  | _, _, .cons r t, f => by
    rw [List.all_cons, Bool.and_eq_true] at f
    obtain ⟨h1, h2⟩ := flat_any k f' t f.2
    refine ⟨by rw [List.all_cons, flat_V r f.1, h1]; rfl, ?_⟩
    unfold inV at h2 ⊢
    rw [List.any_cons, List.any_cons, h2, flat_eq r k f.1 f']
theorem bears_in (neg : Bool) : Bears X (fun x y H Q => (∃ (c : Nat) (z : Str), x = .str ⟨#[c]⟩ ∧ y = .str z ∧ Q (.bl (if neg then !decide (c ∈ z.cps.toList) else decide (c ∈ z.cps.toList))) H) ∨ rIn X.K neg x y H Q) (rInR neg) := fun F0 as0 F as ow H v w x y Q R k gr S rx ry q => by
  unfold rInR at q
  split at q
  · obtain ⟨c, rfl, q⟩ := q
    cases rx; cases ry
    exact .inl ⟨c, _, rfl, rfl, k _ _ (post_d gr S (.bl _) q)⟩
  · obtain ⟨rs, ds, e1, e2, f1, f2, q⟩ := q
    obtain ⟨p, vs, rfl, hs, hv⟩ := items_ok S ry e1
    rw [of_allD e2] at hv
    obtain ⟨k1, k2⟩ := flat_any rx f1 (rvs_dd hv) f2
    exact .inr ⟨p, vs, rfl, hs, flat_V rx f1, k1, by rw [k2]; exact k _ _ (post_d gr S (.bl _) q)⟩
  · exact q.elim
theorem opInH : OpR X (compareOp .In) (fun x y H Q => (∃ (c : Nat) (z : Str), x = .str ⟨#[c]⟩ ∧ y = .str z ∧ Q (.bl (if false = true then !decide (c ∈ z.cps.toList) else decide (c ∈ z.cps.toList))) H) ∨ rIn X.K false x y H Q) := OpR.or op_in_sign op_in_seq
theorem opNotInH : OpR X (compareOp .NotIn) (fun x y H Q => (∃ (c : Nat) (z : Str), x = .str ⟨#[c]⟩ ∧ y = .str z ∧ Q (.bl (if true = true then !decide (c ∈ z.cps.toList) else decide (c ∈ z.cps.toList))) H) ∨ rIn X.K true x y H Q) := OpR.or op_notIn_sign op_notIn_seq
theorem de_in (da : DE X a ta) (db : DE X b tb) (hm : behindInMarks .In b = false := by rfl) : DE X (.Compare a [.In] [b] pos) (dOp (rInR false) ta tb) := de_cmp opInH (bears_in false) da db hm
theorem de_notIn (da : DE X a ta) (db : DE X b tb) (hm : behindInMarks .NotIn b = false := by rfl) : DE X (.Compare a [.NotIn] [b] pos) (dOp (rInR true) ta tb) := de_cmp opNotInH (bears_in true) da db hm

/-! ### tests -/
theorem dt_of {te' : TT} {t : TXb} (h : PT X e te') (k : ∀ (F : Hp) (as : AS) (ow : OW) (σ : L2.St) (sl : SL) (H : Hp) (Q : Bool → OW → Prop), Sat X.kb F as ow H → Sls X.K F as sl σ → t sl ow Q → te' σ H (PostB X.kb F as Q)) : DT X e t :=
  ⟨fun F as ow σ sl H Q S L q => of_pt h (k F as ow σ sl H Q S L q)⟩
/-- an expression whose value is True or False, as a test -/
def dB (te : TX) : TXb := fun sl ow Q => te sl ow fun x ow1 => match x with
  | .d (.bool k) => Q k ow1
  | _ => False
theorem dt_val (h : DE X e te) (he : ∀ whole, isTrue e X.env whole = (do let v ← whole; standAt e.pos; holding [v] (truthy v)) := by intro _; rfl) : DT X e (dB te) := dt_of (pt_val pe_w he) fun F as ow σ sl H Q S L q =>
  (h.run F as ow σ sl H _ S L q).mono fun v H1 ⟨F1, as1, r, ow1, g1, S1, r1, q1⟩ => by
    dsimp only at q1
    split at q1
    · cases r1
      exact ⟨_, rfl, F1, as1, ow1, g1, S1, q1⟩
    · exact q1.elim
/-- a comparison as a test -/
def kB (Q : Bool → OW → Prop) : QR := fun x ow => match x with
  | .d (.bool k) => Q k ow
  | _ => False
theorem of_kB {B : KB} {F F' H : Hp} {as as' : AS} {Q : Bool → OW → Prop} {z : V} (h : Post B F as (kB Q) z H) : ∃ k, z = .bl k ∧ PostB B F as Q k H := by
  obtain ⟨F3, as3, y3, ow3, g3, S3, r3, q3⟩ := h
  unfold kB at q3
  split at q3
  · cases r3
    exact ⟨_, rfl, F3, as3, ow3, g3, S3, q3⟩
  · exact q3.elim
theorem dt_cmp {op : CmpOp} {r : R2} {rd : Rv → Rv → OW → QR → Prop} (ho : OpR X (compareOp op) r) (hb : Bears X r rd) (da : DE X a ta) (db : DE X b tb) (hm : behindInMarks op b = false) : DT X (.Compare a [op] [b] pos) (dB (dOp rd ta tb)) := dt_of (pt_cmpR ho pe_w pe_w hm) fun F as ow σ sl H Q S L q =>
  (da.run F as ow σ sl H _ S L q).mono fun v H1 ⟨F1, as1, x, ow1, g1, S1, r1, q1⟩ => (db.run F1 as1 ow1 σ sl H1 _ S1 (L.mono g1) q1).mono fun w H2 ⟨F2, as2, y, ow2, g2, S2, r2, q2⟩ =>
    hb F as F2 as2 ow2 H2 v w x y (kB Q) _ (fun _ _ z => of_kB (F' := F) (as' := as) z) (g1.trans g2) S2 (r1.mono g2) r2 q2
theorem dt_eq (m : Cm X) (da : DE X a ta) (db : DE X b tb) : DT X (.Compare a [.Eq] [b] pos) (dB (dOp (rEqR false) ta tb)) := dt_cmp (opEqH m) (bears_eq false) da db (nomark _)
theorem dt_ne (m : Cm X) (da : DE X a ta) (db : DE X b tb) : DT X (.Compare a [.NotEq] [b] pos) (dB (dOp (rEqR true) ta tb)) := dt_cmp (opNeH m) (bears_eq true) da db (nomark _)
theorem dt_lt (da : DE X a ta) (db : DE X b tb) : DT X (.Compare a [.Lt] [b] pos) (dB (dOp (rCmpI fun i j => decide (i < j)) ta tb)) := dt_cmp op_lt bears_cmpI da db (nomark _)
theorem dt_le (da : DE X a ta) (db : DE X b tb) : DT X (.Compare a [.LtE] [b] pos) (dB (dOp (rCmpI fun i j => decide (i ≤ j)) ta tb)) := dt_cmp op_le bears_cmpI da db (nomark _)
theorem dt_gt (da : DE X a ta) (db : DE X b tb) : DT X (.Compare a [.Gt] [b] pos) (dB (dOp (rCmpI fun i j => decide (j < i)) ta tb)) := dt_cmp op_gt bears_cmpI da db (nomark _)
theorem dt_ge (da : DE X a ta) (db : DE X b tb) : DT X (.Compare a [.GtE] [b] pos) (dB (dOp (rCmpI fun i j => decide (j ≤ i)) ta tb)) := dt_cmp op_ge bears_cmpI da db (nomark _)
theorem dt_isN (da : DE X a ta) (db : DE X b tb) : DT X (.Compare a [.Is] [b] pos) (dB (dOp (rIsN false) ta tb)) := dt_cmp op_isN bears_isN da db (nomark _)
theorem dt_notN (da : DE X a ta) (db : DE X b tb) : DT X (.Compare a [.IsNot] [b] pos) (dB (dOp (rIsN true) ta tb)) := dt_cmp op_notN bears_notN da db (nomark _)
theorem dt_in (da : DE X a ta) (db : DE X b tb) (hm : behindInMarks .In b = false := by rfl) : DT X (.Compare a [.In] [b] pos) (dB (dOp (rInR false) ta tb)) := dt_cmp opInH (bears_in false) da db hm
theorem dt_notIn (da : DE X a ta) (db : DE X b tb) (hm : behindInMarks .NotIn b = false := by rfl) : DT X (.Compare a [.NotIn] [b] pos) (dB (dOp (rInR true) ta tb)) := dt_cmp opNotInH (bears_in true) da db hm
/-- a value's truth -/
def truD : Rv → OW → Option Bool
  | .d .none, _ => some false
  | .d (.bool k), _ => some k
  | .d (.int i), _ => some (i != 0)
  | .d (.list ds), _ => some (!ds.isEmpty)
  | .d (.tuple ds), _ => some (!ds.isEmpty)
  | .o n, ow => (lstAt ow n).map fun xs => !xs.isEmpty
  | _, _ => none
theorem isEmpty_len {α β : Type} {l : List α} {m : List β} (h : l.length = m.length) : l.isEmpty = m.isEmpty := by
  cases l <;> cases m <;> first | rfl | (simp at h)
theorem tru_okD {B : KB} {F H : Hp} {as : AS} {ow : OW} {v : V} {r : Rv} {k : Bool} (S : Sat B F as ow H) (h : RvOk B.K F as v r) (e : truD r ow = some k) : TruV B.K v H k := by
  unfold truD at e
  split at e
  · cases h; cases e; rfl
  · cases h; cases e; rfl
  · cases h; cases e; rfl
  · cases h with
    | lst h1 h2 =>
      cases e
      exact .inl ⟨_, sq_of (S.ex _ _ h1), by rw [isEmpty_len h2.len]⟩
  · cases h with
    | tup h1 h2 =>
      cases e
      exact .inr (.inl ⟨_, ex_t S.ex h1, by rw [isEmpty_len h2.len]⟩)
  · obtain ⟨a, h1, rfl⟩ := h
    obtain ⟨xs, e1, rfl⟩ := Option.map_eq_some_iff.mp e
    obtain ⟨_, vs, h2, h3⟩ := S.ob _ a _ h1 (of_lstAt e1)
    exact .inl ⟨_, sq_of h2, by rw [isEmpty_len (Paired.len2 h3)]⟩
  · cases e
def dTru (te : TX) : TXb := fun sl ow Q => te sl ow fun x ow1 => match truD x ow1 with
  | some k => Q k ow1
  | none => False
theorem dt_tru (h : DE X e te) (he : ∀ whole, isTrue e X.env whole = (do let v ← whole; standAt e.pos; holding [v] (truthy v)) := by intro _; rfl) : DT X e (dTru te) := dt_of (pt_truth pe_w he) fun F as ow σ sl H Q S L q =>
  (h.run F as ow σ sl H _ S L q).mono fun v H1 ⟨F1, as1, r, ow1, g1, S1, r1, q1⟩ => by
    dsimp only at q1
    split at q1
    · rename_i k hk
      exact ⟨k, tru_okD S1 r1 hk, F1, as1, ow1, g1, S1, q1⟩
    · exact q1.elim
/-! and, or, not as tests -/
variable {A B C D : TXb} {d : Expr}
def dAnd (t u : TXb) : TXb := fun sl ow Q => t sl ow fun k ow1 => if k = true then u sl ow1 Q else Q false ow1
def dOr (t u : TXb) : TXb := fun sl ow Q => t sl ow fun k ow1 => if k = true then Q true ow1 else u sl ow1 Q
def dNot (t : TXb) : TXb := fun sl ow Q => t sl ow fun k ow1 => Q (!k) ow1
/-- a chain of and, or whatever the whole is -/
structure DW (X : DX) (e : Expr) (t : TXb) : Prop where
  run : ∀ (F : Hp) (as : AS) (ow : OW) (σ : L2.St) (sl : SL) (H : Hp) (Q : Bool → OW → Prop), Sat X.kb F as ow H → Sls X.K F as sl σ → t sl ow Q →
    ∀ (whole : Sem Value) (pins : List (Addr × Obj)) (s : Shared), Inv X pins σ H s → wpAny (model X.prog X.w) X.A (isTrue e X.env whole) (TP X pins σ (PostB X.kb F as Q)) X.xe s
theorem DW.dt (h : DW X e A) : DT X e A := ⟨fun F as ow σ sl H Q S L q pins s I => h.run F as ow σ sl H Q S L q _ pins s I⟩
def wW (X : Cx) (e : Expr) : TT := fun σ H Q => ∀ (whole : Sem Value) (pins : List (Addr × Obj)) (s : Shared), Inv X pins σ H s → wpAny (model X.prog X.w) X.A (isTrue e X.env whole) (TP X pins σ Q) X.xe s
theorem pw_w : PW X e (wW X e) := ⟨fun whole pins s σ H Q I h => h whole pins s I⟩
theorem dw_of {te' : TT} {t : TXb} (h : PW X e te') (k : ∀ (F : Hp) (as : AS) (ow : OW) (σ : L2.St) (sl : SL) (H : Hp) (Q : Bool → OW → Prop), Sat X.kb F as ow H → Sls X.K F as sl σ → t sl ow Q → te' σ H (PostB X.kb F as Q)) : DW X e t :=
  ⟨fun F as ow σ sl H Q S L q whole pins s I => h.run whole pins s σ H _ I (k F as ow σ sl H Q S L q)⟩
theorem wW.mono {σ : L2.St} {H : Hp} {Q Q' : Bool → Hp → Prop} (h : wW X e σ H Q) (k : ∀ v H', Q v H' → Q' v H') : wW X e σ H Q' := fun whole pins s I => thn (h whole pins s I) fun u s' ⟨H', I', q⟩ => ⟨H', I', k u H' q⟩
theorem postB_trans {B : KB} {F F' H : Hp} {as as' : AS} {Q : Bool → OW → Prop} {k : Bool} (g : Grow F as F' as') (h : PostB B F' as' Q k H) : PostB B F as Q k H := by
  obtain ⟨F2, as2, ow2, g2, z⟩ := h
  exact ⟨F2, as2, ow2, g.trans g2, z⟩
theorem dw_and1 (ha : DT X a A) : DW X (.BoolOp .And [a] pos) A := dw_of (pw_and1 pt_w) fun F as ow σ sl H Q S L q => ha.run F as ow σ sl H Q S L q
theorem dw_or1 (ha : DT X a A) : DW X (.BoolOp .Or [a] pos) A := dw_of (pw_or1 pt_w) fun F as ow σ sl H Q S L q => ha.run F as ow σ sl H Q S L q
theorem dw_and {rest : List Expr} (ha : DT X a A) (hb : DW X (.BoolOp .And (b :: rest) pos) B) : DW X (.BoolOp .And (a :: b :: rest) pos) (dAnd A B) := dw_of (pw_and pt_w pw_w) fun F as ow σ sl H Q S L q =>
  (ha.run F as ow σ sl H _ S L q).mono fun k H1 ⟨F1, as1, ow1, g1, S1, q1⟩ => by
    cases k with
    | true =>
      rw [if_pos rfl] at q1 ⊢
      exact wW.mono (X := X) (fun whole pins s I => hb.run F1 as1 ow1 σ sl H1 Q S1 (L.mono g1) q1 whole pins s I) fun _ _ z => postB_trans g1 z
    | false =>
      rw [if_neg Bool.false_ne_true] at q1 ⊢
      exact ⟨F1, as1, ow1, g1, S1, q1⟩
theorem dw_or {rest : List Expr} (ha : DT X a A) (hb : DW X (.BoolOp .Or (b :: rest) pos) B) : DW X (.BoolOp .Or (a :: b :: rest) pos) (dOr A B) := dw_of (pw_or pt_w pw_w) fun F as ow σ sl H Q S L q =>
  (ha.run F as ow σ sl H _ S L q).mono fun k H1 ⟨F1, as1, ow1, g1, S1, q1⟩ => by
    cases k with
    | false =>
      rw [if_neg Bool.false_ne_true] at q1 ⊢
      exact wW.mono (X := X) (fun whole pins s I => hb.run F1 as1 ow1 σ sl H1 Q S1 (L.mono g1) q1 whole pins s I) fun _ _ z => postB_trans g1 z
    | true =>
      rw [if_pos rfl] at q1 ⊢
      exact ⟨F1, as1, ow1, g1, S1, q1⟩
theorem dt_not (ha : DT X a A) : DT X (.UnaryOp .Not a pos) (dNot A) := dt_of (pt_not pt_w) fun F as ow σ sl H Q S L q =>
  (ha.run F as ow σ sl H _ S L q).mono fun k H1 ⟨F1, as1, ow1, g1, S1, q1⟩ => ⟨F1, as1, ow1, g1, S1, q1⟩
/-! as values -/
def dAndV (ta tb : TX) : TX := fun sl ow Q => ta sl ow fun x ow1 => match x with
  | .d (.bool k) => if k = true then tb sl ow1 Q else Q (.d (.bool false)) ow1
  | _ => False
def dOrV (ta tb : TX) : TX := fun sl ow Q => ta sl ow fun x ow1 => match x with
  | .d (.bool k) => if k = true then Q (.d (.bool true)) ow1 else tb sl ow1 Q
  | _ => False
def dOrT (ta tb : TX) : TX := fun sl ow Q => ta sl ow fun x ow1 => match truD x ow1 with
  | some k => if k = true then Q x ow1 else tb sl ow1 Q
  | _ => False
def dNotV (te : TX) : TX := fun sl ow Q => te sl ow fun x ow1 => match x with
  | .d (.bool k) => Q (.d (.bool (!k))) ow1
  | _ => False
theorem de_one {op} (h : DE X a ta) : DE X (.BoolOp op [a] pos) ta := de_of (pe_one pe_w) fun F as ow σ sl H Q S L q => h.run F as ow σ sl H Q S L q
theorem de_and {rest : List Expr} (ha : DE X a ta) (hb : DE X (.BoolOp .And (b :: rest) pos) tb) : DE X (.BoolOp .And (a :: b :: rest) pos) (dAndV ta tb) := de_of (pe_and pe_w pe_w) fun F as ow σ sl H Q S L q =>
  (ha.run F as ow σ sl H _ S L q).mono fun v H1 ⟨F1, as1, r, ow1, g1, S1, r1, q1⟩ => by
    dsimp only at q1
    split at q1
    · rename_i k
      cases r1
      refine ⟨k, rfl, ?_⟩
      cases k with
      | true =>
        rw [if_pos rfl] at q1 ⊢
        exact (hb.run F1 as1 ow1 σ sl H1 Q S1 (L.mono g1) q1).mono fun _ _ z => z.trans g1
      | false =>
        rw [if_neg Bool.false_ne_true] at q1 ⊢
        exact post_d g1 S1 (.bl _) q1
    · exact q1.elim
theorem de_or {rest : List Expr} (ha : DE X a ta) (hb : DE X (.BoolOp .Or (b :: rest) pos) tb) : DE X (.BoolOp .Or (a :: b :: rest) pos) (dOrV ta tb) := de_of (pe_or pe_w pe_w) fun F as ow σ sl H Q S L q =>
  (ha.run F as ow σ sl H _ S L q).mono fun v H1 ⟨F1, as1, r, ow1, g1, S1, r1, q1⟩ => by
    dsimp only at q1
    split at q1
    · rename_i k
      cases r1
      refine ⟨k, rfl, ?_⟩
      cases k with
      | false =>
        rw [if_neg Bool.false_ne_true] at q1 ⊢
        exact (hb.run F1 as1 ow1 σ sl H1 Q S1 (L.mono g1) q1).mono fun _ _ z => z.trans g1
      | true =>
        rw [if_pos rfl] at q1 ⊢
        exact post_d g1 S1 (.bl _) q1
    · exact q1.elim
theorem de_orT {rest : List Expr} (ha : DE X a ta) (hb : DE X (.BoolOp .Or (b :: rest) pos) tb) : DE X (.BoolOp .Or (a :: b :: rest) pos) (dOrT ta tb) := de_of (pe_orT pe_w pe_w) fun F as ow σ sl H Q S L q =>
  (ha.run F as ow σ sl H _ S L q).mono fun v H1 ⟨F1, as1, r, ow1, g1, S1, r1, q1⟩ => by
    dsimp only at q1
    split at q1
    · rename_i k hk
      refine ⟨k, tru_okD S1 r1 hk, ?_⟩
      cases k with
      | false =>
        rw [if_neg Bool.false_ne_true] at q1 ⊢
        exact (hb.run F1 as1 ow1 σ sl H1 Q S1 (L.mono g1) q1).mono fun _ _ z => z.trans g1
      | true =>
        rw [if_pos rfl] at q1 ⊢
        exact post_r g1 S1 r1 q1
    · exact q1.elim
theorem de_not (ha : DE X a ta) : DE X (.UnaryOp .Not a pos) (dNotV ta) := de_of (pe_not pe_w) fun F as ow σ sl H Q S L q =>
  (ha.run F as ow σ sl H _ S L q).mono fun v H1 ⟨F1, as1, r, ow1, g1, S1, r1, q1⟩ => by
    dsimp only at q1
    split at q1
    · cases r1
      exact ⟨_, rfl, post_d g1 S1 (.bl _) q1⟩
    · exact q1.elim
/-! a if t else b -/
def dIte (t : TXb) (ta tb : TX) : TX := fun sl ow Q => t sl ow fun k ow1 => if k = true then ta sl ow1 Q else tb sl ow1 Q
theorem de_ite (hc : DT X c A) (ha : DE X a ta) (hb : DE X b tb) : DE X (.IfExp c a b pos) (dIte A ta tb) := de_of (pe_ifExp pt_w pe_w pe_w) fun F as ow σ sl H Q S L q =>
  (hc.run F as ow σ sl H _ S L q).mono fun k H1 ⟨F1, as1, ow1, g1, S1, q1⟩ => by
    cases k with
    | true =>
      rw [if_pos rfl] at q1 ⊢
      exact (ha.run F1 as1 ow1 σ sl H1 Q S1 (L.mono g1) q1).mono fun _ _ z => z.trans g1
    | false =>
      rw [if_neg Bool.false_ne_true] at q1 ⊢
      exact (hb.run F1 as1 ow1 σ sl H1 Q S1 (L.mono g1) q1).mono fun _ _ z => z.trans g1

/-! ### subscripts -/
def rIxR : Rv → Rv → OW → QR → Prop := fun x y ow Q => match x, y with
  | .d (.str s), .d (.int i) => ∃ c, s.length ≤ sizeLine ∧ atI s.cps.toList i = some c ∧ Q (.d (.str ⟨#[c]⟩)) ow
  | x, .d (.int i) => ∃ rs r, itemsOf x ow = some rs ∧ atI rs i = some r ∧ Q r ow
  | _, _ => False
theorem atI_rel {K : FG} {F : Hp} {as : AS} {vs : List V} {rs : List Rv} {i : Int} {r : Rv} (h : Paired (RvOk K F as) vs rs) (e : atI rs i = some r) : ∃ v, atI vs i = some v ∧ RvOk K F as v r := by
  unfold atI at e ⊢
  rw [Paired.len2 h]
  obtain ⟨j, e1, e2⟩ := Option.bind_eq_some_iff.mp e
  obtain ⟨v, h1, h2⟩ := Paired.get2 h e2
  exact ⟨v, by rw [e1]; exact h1, h2⟩
theorem bears_ix : Bears X (rIx X.K) rIxR := fun F0 as0 F as ow H v w x y Q R k gr S rx ry q => by
  unfold rIxR at q
  split at q
  · obtain ⟨c, h1, h2, q⟩ := q
    cases rx; cases ry
    exact .inr (.inr ⟨_, _, c, rfl, rfl, h1, h2, k _ _ (post_d gr S (.str _) q)⟩)
  · obtain ⟨rs, r, e1, e2, q⟩ := q
    obtain ⟨p, vs, rfl, hs, hv⟩ := items_ok S rx e1
    cases ry
    obtain ⟨u, h1, h2⟩ := atI_rel hv e2
    rcases hs with hs | hs
    · exact .inl ⟨p, vs, _, u, rfl, rfl, hs, h1, k _ _ (post_r gr S h2 q)⟩
    · exact .inr (.inl ⟨p, vs, _, u, rfl, rfl, hs, h1, k _ _ (post_r gr S h2 q)⟩)
  · exact q.elim
theorem de_ix (da : DE X a ta) (db : DE X b tb) (hs : PlainIx b := by intro _ _; rfl) : DE X (.Subscript a b pos) (dOp rIxR ta tb) := de_of (pe_ix ix_seq pe_w pe_w hs) fun F as ow σ sl H Q S L q => run2 bears_ix da db S L q

/-! ### slices -/
def cutL {α : Type} (xs : List α) (lo hi : Option Int) : List α := (xs.drop (HT.sIx xs.length 0 lo)).take (HT.sIx xs.length xs.length hi - HT.sIx xs.length 0 lo)
abbrev TXo := SL → OW → (Option Int → OW → Prop) → Prop
structure DO (X : DX) (e : Option Expr) (t : TXo) : Prop where
  run : ∃ t', PO X e t' ∧ ∀ (F : Hp) (as : AS) (ow : OW) (σ : L2.St) (sl : SL) (H : Hp) (Q : Option Int → OW → Prop), Sat X.kb F as ow H → Sls X.K F as sl σ → t sl ow Q →
    ∀ R : Option Int → Hp → Prop, (∀ i H' F' as' ow', Grow F as F' as' → Sat X.kb F' as' ow' H' → Q i ow' → R i H') → t' σ H R
def dON : TXo := fun _ ow Q => Q none ow
def dOS (te : TX) : TXo := fun sl ow Q => te sl ow fun x ow1 => match x with
  | .d (.int i) => Q (some i) ow1
  | _ => False
theorem do_none : DO X none dON := ⟨_, po_none, fun F as ow σ sl H Q S L q R k => k none H F as ow Grow.refl S q⟩
theorem do_some (h : DE X e te) : DO X (some e) (dOS te) := ⟨_, po_some pe_w, fun F as ow σ sl H Q S L q R k => (h.run F as ow σ sl H _ S L q).mono fun v H1 ⟨F1, as1, r, ow1, g1, S1, r1, q1⟩ => by
  dsimp only at q1
  split at q1
  · cases r1
    exact ⟨_, rfl, k _ _ F1 as1 ow1 g1 S1 q1⟩
  · exact q1.elim⟩
@[irreducible] def rSlR : Rv → Option Int → Option Int → OW → QR → Prop := fun x lo hi ow Q => match x with
  | .d (.str s) => s.length ≤ sizeLine ∧ Q (.d (.str (cutS s lo hi))) ow
  | .d (.tuple ds) => Q (.d (.tuple (cutL ds lo hi))) ow
  | .d (.list ds) => Q (.d (.list (cutL ds lo hi))) ow
  | .f ns => Q (.d (.list (cutL (ns.map PyData.int) lo hi))) ow
  | .o n => ∃ rs ds, lstAt ow n = some rs ∧ allD rs = some ds ∧ Q (.d (.list (cutL ds lo hi))) ow
  | _ => False
def dSl (te : TX) (tl th : TXo) : TX := fun sl ow Q => te sl ow fun x ow1 => tl sl ow1 fun lo ow2 => th sl ow2 fun hi ow3 => rSlR x lo hi ow3 Q
theorem cutL_dd {K : FG} {F : Hp} {vs : List V} {ds : List PyData} (h : DdAll K F vs ds) (lo hi : Option Int) : DdAll K F (cutV vs lo hi) (cutL ds lo hi) := by
  unfold cutV cutL
  rw [h.len]
  exact (h.drop _).take _
theorem sl_okD {F0 : Hp} {as0 : AS} {F H : Hp} {as : AS} {ow : OW} {v : V} {x : Rv} {lo hi : Option Int} {Q : QR} (g : Grow F0 as0 F as) (S : Sat X.kb F as ow H) (rx : RvOk X.K F as v x) (q : rSlR x lo hi ow Q) :
    (rSlS v lo hi H (Post X.kb F0 as0 Q) ∨ (rSlA X.K v lo hi H (Post X.kb F0 as0 Q) ∨ rSlL X.K v lo hi H (Post X.kb F0 as0 Q))) := by
  unfold rSlR at q
  split at q
  · cases rx
    exact .inl ⟨_, rfl, q.1, post_d g S (.str _) q.2⟩
  · cases rx with
    | tup h1 h2 =>
      refine .inr (.inl ⟨_, _, rfl, ex_t S.ex h1, fun e => ?_, fun _ p hp => post_tup g S hp (cutL_dd h2 lo hi) q⟩)
      refine post_d g S (.tup h1 h2) ?_
      have z : ∀ ds : List PyData, ds.length = ds.length → HT.sIx ds.length 0 lo = 0 ∧ HT.sIx ds.length ds.length hi = ds.length → cutL ds lo hi = ds := fun ds _ e => by
        unfold cutL
        rw [e.1, e.2, List.drop_zero, Nat.sub_zero, List.take_length]
      rw [h2.len] at e
      rw [z _ rfl e] at q
      exact q
  · cases rx with
    | lst h1 h2 => exact .inr (.inr ⟨_, _, rfl, sq_of (S.ex _ _ h1), fun p hp => post_lst g S hp (cutL_dd h2 lo hi) q⟩)
  · obtain ⟨a, rfl, h2⟩ := rx
    exact .inr (.inr ⟨_, _, rfl, ex_l S.ex h2, fun p hp => post_lst g S hp (cutL_dd (DdAll.ofInts _) lo hi) q⟩)
  · obtain ⟨rs, ds, e1, e2, q⟩ := q
    obtain ⟨a, h1, rfl⟩ := rx
    obtain ⟨_, vs, h2, h3⟩ := S.ob _ a _ h1 (of_lstAt e1)
    rw [of_allD e2] at h3
    exact .inr (.inr ⟨_, _, rfl, sq_of h2, fun p hp => post_lst g S hp (cutL_dd (rvs_dd h3) lo hi) q⟩)
  · exact q.elim
theorem de_slice {lo hi : Option Expr} {tl th : TXo} {p2 : Pos} (he : DE X e te) (hl : DO X lo tl) (hh : DO X hi th) : DE X (.Subscript e (.Slice lo hi none p2) pos) (dSl te tl th) := by
  obtain ⟨tl', pl, kl⟩ := hl.run
  obtain ⟨th', ph, kh⟩ := hh.run
  refine de_of (pe_slice (SlR.or sl_str (SlR.or sl_tupA sl_list)) pe_w pl ph) fun F as ow σ sl H Q S L q => ?_
  refine (he.run F as ow σ sl H _ S L q).mono fun v H1 ⟨F1, as1, x, ow1, g1, S1, r1, q1⟩ => ?_
  refine kl F1 as1 ow1 σ sl H1 _ S1 (L.mono g1) q1 _ fun i H2 F2 as2 ow2 g2 S2 q2 => ?_
  refine kh F2 as2 ow2 σ sl H2 _ S2 (L.mono (g1.trans g2)) q2 _ fun j H3 F3 as3 ow3 g3 S3 q3 => ?_
  exact sl_okD ((g1.trans g2).trans g3) S3 (r1.mono (g2.trans g3)) q3
def lstOf : Rv → OW → Option (List Rv)
  | .d (.list ds), _ => some (ds.map Rv.d)
  | .f ns, _ => some (ns.map fun i => Rv.d (.int i))
  | .o n, ow => lstAt ow n
  | _, _ => none
/-- xs[::-1] of a list: data -/
def dRev (te : TX) : TX := fun sl ow Q => te sl ow fun x ow1 => ∃ rs ds, lstOf x ow1 = some rs ∧ allD rs = some ds ∧ Q (.d (.list ds.reverse)) ow1
theorem lst_ok {B : KB} {F H : Hp} {as : AS} {ow : OW} {v : V} {x : Rv} {rs : List Rv} (S : Sat B F as ow H) (h : RvOk B.K F as v x) (e : lstOf x ow = some rs) : ∃ a vs, v = .ref a ∧ SqL B.K H a vs ∧ Paired (RvOk B.K F as) vs rs := by
  unfold lstOf at e
  split at e
  · cases h with
    | lst h1 h2 =>
      cases e
      exact ⟨_, _, rfl, sq_of (S.ex _ _ h1), dd_rvs h2⟩
  · cases e
    obtain ⟨a, h1, h2⟩ := h
    exact ⟨a, _, h1, ex_l S.ex h2, by rw [show ∀ ns : List Int, ns.map (fun i => Rv.d (.int i)) = (ns.map PyData.int).map Rv.d from fun ns => by rw [List.map_map]; rfl]; exact dd_rvs (DdAll.ofInts _)⟩
  · obtain ⟨a, h1, rfl⟩ := h
    obtain ⟨_, vs, h2, h3⟩ := S.ob _ a _ h1 (of_lstAt e)
    exact ⟨a, vs, rfl, sq_of h2, h3⟩
  · cases e
theorem de_revL {k : Nat} {p1 p2 p3 : Pos} (h : DE X e te) : DE X (.Subscript e (.Slice none none (some (.UnaryOp .USub (.Constant (.int 1) k p1) p2)) p3) pos) (dRev te) := de_of (pe_revL pe_w) fun F as ow σ sl H Q S L q =>
  (h.run F as ow σ sl H _ S L q).mono fun v H1 ⟨F1, as1, r, ow1, g1, S1, r1, rs, ds, e1, e2, q1⟩ => by
    obtain ⟨a, vs, rfl, hs, hv⟩ := lst_ok S1 r1 e1
    rw [of_allD e2] at hv
    exact ⟨a, vs, rfl, hs, fun p hp => post_lst g1 S1 hp (rvs_dd hv).rev q1⟩

/-- xs[::-1] of a list: owned -/
def dRevO (te : TX) : TX := fun sl ow Q => te sl ow fun x ow1 => ∃ rs, lstOf x ow1 = some rs ∧ Q (.o ow1.length) (ow1 ++ [.lst rs.reverse])
theorem Paired.rev2 {α β : Type} {P : α → β → Prop} : ∀ {l : List α} {m : List β}, Paired P l m → Paired P l.reverse m.reverse
  | _, _, .nil => .nil
  | _, _, .cons r t => by
    rw [List.reverse_cons, List.reverse_cons]
    exact Paired.app2 (Paired.rev2 t) (.cons r .nil)
theorem de_revLO {k : Nat} {p1 p2 p3 : Pos} (h : DE X e te) : DE X (.Subscript e (.Slice none none (some (.UnaryOp .USub (.Constant (.int 1) k p1) p2)) p3) pos) (dRevO te) := de_of (pe_revL pe_w) fun F as ow σ sl H Q S L q =>
  (h.run F as ow σ sl H _ S L q).mono fun v H1 ⟨F1, as1, r, ow1, g1, S1, r1, rs, e1, q1⟩ => by
    obtain ⟨a, vs, rfl, hs, hv⟩ := lst_ok S1 r1 e1
    exact ⟨a, vs, rfl, hs, fun p hp => post_ol g1 S1 hp (Paired.rev2 hv) q1⟩

/-! ### built-in functions by data -/
def BearsC (X : DX) (r : List V → Hp → VK → Prop) (rd : List Rv → OW → QR → Prop) : Prop := ∀ (F0 : Hp) (as0 : AS) (F : Hp) (as : AS) (ow : OW) (H : Hp) (vs : List V) (xs : List Rv) (Q : QR), Grow F0 as0 F as → Sat X.kb F as ow H → Paired (RvOk X.K F as) vs xs → rd xs ow Q → r vs H (Post X.kb F0 as0 Q)
def dCB (rd : List Rv → OW → QR → Prop) (t : TXa) : TX := fun sl ow Q => t sl ow fun rs ow1 => rd rs ow1 Q
theorem de_callB {id : String} {r : List V → Hp → VK → Prop} {rd : List Rv → OW → QR → Prop} {x : Str} {p : Pos} (hc : CallR X (.builtin id) r) (hb : BearsC X r rd) (hg : Gl X x) (hm : X.mg x = none) (hv : bootBuiltins x = some (.builtin id)) (ha : DA X (e :: es) t) (hn : x ≠ "__name__" := by decide) (hdb : (x == ("__debug__" : Str)) = false := by decide)
    (he : starEach (e :: es) X.env = (false, eval e X.env) :: starEach es X.env := by rfl) (hpl : (backTo pos (starEach es X.env)).any (·.1) = false := by rfl) : DE X (.Call (.Name x p) (e :: es) [] pos) (dCB rd t) := de_of (pe_callB hc hg hm hv pa_w hn hdb he hpl) fun F as ow σ sl H Q S L q =>
  (ha.run F as ow σ sl H _ S L q).mono fun vs H1 ⟨F1, as1, rs, ow1, g1, S1, r1, q1⟩ => hb F as F1 as1 ow1 H1 vs rs Q g1 S1 r1 q1
theorem de_callTy {T : String} {r : List V → Hp → VK → Prop} {rd : List Rv → OW → QR → Prop} {x : Str} {p : Pos} (hc : CallR X (.type T) r) (hb : BearsC X r rd) (hg : Gl X x) (hm : X.mg x = none) (hv : bootBuiltins x = some (.type T)) (ha : DA X (e :: es) t) (hn : x ≠ "__name__" := by decide) (hdb : (x == ("__debug__" : Str)) = false := by decide)
    (he : starEach (e :: es) X.env = (false, eval e X.env) :: starEach es X.env := by rfl) (hpl : (backTo pos (starEach es X.env)).any (·.1) = false := by rfl) : DE X (.Call (.Name x p) (e :: es) [] pos) (dCB rd t) := de_of (pe_callTy hc hg hm hv pa_w hn hdb he hpl) fun F as ow σ sl H Q S L q =>
  (ha.run F as ow σ sl H _ S L q).mono fun vs H1 ⟨F1, as1, rs, ow1, g1, S1, r1, q1⟩ => hb F as F1 as1 ow1 H1 vs rs Q g1 S1 r1 q1
theorem one_v {K : FG} {F : Hp} {as : AS} {vs : List V} {x : Rv} (h : Paired (RvOk K F as) vs [x]) : ∃ v, vs = [v] ∧ RvOk K F as v x := by
  cases h with
  | cons r t =>
    cases t
    exact ⟨_, rfl, r⟩
theorem two_v {K : FG} {F : Hp} {as : AS} {vs : List V} {x y : Rv} (h : Paired (RvOk K F as) vs [x, y]) : ∃ v w, vs = [v, w] ∧ RvOk K F as v x ∧ RvOk K F as w y := by
  cases h with
  | cons r t =>
    obtain ⟨w, rfl, r2⟩ := one_v t
    exact ⟨_, _, rfl, r, r2⟩
/-! len -/
def rLen : List Rv → OW → QR → Prop := fun xs ow Q => match xs with
  | [.d (.str s)] => s.length ≤ sizeLine ∧ Q (.d (.int (s.length : Int))) ow
  | [x] => ∃ rs, itemsOf x ow = some rs ∧ Q (.d (.int (rs.length : Int))) ow
  | _ => False
theorem bc_len : BearsC X (fun xs H Q => (∃ z : Str, xs = [.str z] ∧ z.length ≤ sizeLine ∧ Q (.int z.length) H) ∨ (∃ p ys, xs = [.ref p] ∧ (SqL X.K H p ys ∨ SqT X.K H p ys) ∧ Q (.int ys.length) H)) rLen := fun F0 as0 F as ow H vs xs Q g S hv q => by
  unfold rLen at q
  split at q
  · obtain ⟨v, rfl, r⟩ := one_v hv
    cases r
    exact .inl ⟨_, rfl, q.1, post_d g S (.int _) q.2⟩
  · obtain ⟨v, rfl, r⟩ := one_v hv
    obtain ⟨rs, e, q⟩ := q
    obtain ⟨a, ys, rfl, hs, hp⟩ := items_ok S r e
    exact .inr ⟨a, ys, rfl, hs, by rw [Paired.len2 hp]; exact post_d g S (.int _) q⟩
  · exact q.elim
theorem cr_len : CallR X (.builtin "len") (fun xs H Q => (∃ z : Str, xs = [.str z] ∧ z.length ≤ sizeLine ∧ Q (.int z.length) H) ∨ (∃ p ys, xs = [.ref p] ∧ (SqL X.K H p ys ∨ SqT X.K H p ys) ∧ Q (.int ys.length) H)) := CallR.or call_len_str call_len_seq
theorem de_len {p : Pos} (hg : Gl X "len") (hm : X.mg "len" = none) (ha : DA X [e] t) (he : starEach [e] X.env = (false, eval e X.env) :: starEach [] X.env := by rfl) (hpl : (backTo pos (starEach [] X.env)).any (·.1) = false := by rfl) : DE X (.Call (.Name "len" p) [e] [] pos) (dCB rLen t) := de_callB cr_len bc_len hg hm PySem.boot_len ha (he := he) (hpl := hpl)
/-! tuple, list: data -/
def rTupF : List Rv → OW → QR → Prop := fun xs ow Q => match xs with
  | [x] => ∃ rs ds, itemsOf x ow = some rs ∧ allD rs = some ds ∧ Q (.d (.tuple ds)) ow
  | _ => False
theorem bc_tup : BearsC X (fun xs H Q => ∃ p ys, xs = [.ref p] ∧ ((SqL X.K H p ys ∧ ∀ l, H l = none → Q (.ref l) (upd H l (.tup ys))) ∨ (SqT X.K H p ys ∧ Q (.ref p) H))) rTupF := fun F0 as0 F as ow H vs xs Q g S hv q => by
  unfold rTupF at q
  split at q
  · obtain ⟨v, rfl, r⟩ := one_v hv
    obtain ⟨rs, ds, e1, e2, q⟩ := q
    rename_i x
    by_cases hx : ∃ es, x = .d (.tuple es)
    · obtain ⟨es, rfl⟩ := hx
      cases e1
      rw [allD_map] at e2
      cases e2
      cases r with
      | tup h1 h2 => exact ⟨_, _, rfl, .inr ⟨ex_t S.ex h1, post_d g S (.tup h1 h2) q⟩⟩
    · have e3 : lstOf x ow = some rs := by
        unfold itemsOf at e1
        split at e1
        · exact e1
        · exact (hx ⟨_, rfl⟩).elim
        · exact e1
        · exact e1
        · cases e1
      obtain ⟨a, ys, rfl, hs, hp⟩ := lst_ok S r e3
      rw [of_allD e2] at hp
      exact ⟨a, ys, rfl, .inl ⟨hs, fun l hl => post_tup g S hl (rvs_dd hp) q⟩⟩
  · exact q.elim
theorem de_tupF {p : Pos} (hg : Gl X "tuple") (hm : X.mg "tuple" = none) (ha : DA X [e] t) (hv : bootBuiltins "tuple" = some (.type "tuple") := by decide +kernel) (he : starEach [e] X.env = (false, eval e X.env) :: starEach [] X.env := by rfl) (hpl : (backTo pos (starEach [] X.env)).any (·.1) = false := by rfl) : DE X (.Call (.Name "tuple" p) [e] [] pos) (dCB rTupF t) := de_callTy call_tuple_of bc_tup hg hm hv ha (he := he) (hpl := hpl)
def rLstF : List Rv → OW → QR → Prop := fun xs ow Q => match xs with
  | [x] => ∃ rs ds, itemsOf x ow = some rs ∧ allD rs = some ds ∧ Q (.d (.list ds)) ow
  | _ => False
def rLstO : List Rv → OW → QR → Prop := fun xs ow Q => match xs with
  | [x] => ∃ rs, itemsOf x ow = some rs ∧ Q (.o ow.length) (ow ++ [.lst rs])
  | _ => False
theorem bc_lst : BearsC X (fun xs H Q => ∃ p ys, xs = [.ref p] ∧ (SqL X.K H p ys ∨ SqT X.K H p ys) ∧ ∀ l, H l = none → Q (.ref l) (upd H l (.lst ys))) rLstF := fun F0 as0 F as ow H vs xs Q g S hv q => by
  unfold rLstF at q
  split at q
  · obtain ⟨v, rfl, r⟩ := one_v hv
    obtain ⟨rs, ds, e1, e2, q⟩ := q
    obtain ⟨a, ys, rfl, hs, hp⟩ := items_ok S r e1
    rw [of_allD e2] at hp
    exact ⟨a, ys, rfl, hs, fun l hl => post_lst g S hl (rvs_dd hp) q⟩
  · exact q.elim
theorem bc_lstO : BearsC X (fun xs H Q => ∃ p ys, xs = [.ref p] ∧ (SqL X.K H p ys ∨ SqT X.K H p ys) ∧ ∀ l, H l = none → Q (.ref l) (upd H l (.lst ys))) rLstO := fun F0 as0 F as ow H vs xs Q g S hv q => by
  unfold rLstO at q
  split at q
  · obtain ⟨v, rfl, r⟩ := one_v hv
    obtain ⟨rs, e1, q⟩ := q
    obtain ⟨a, ys, rfl, hs, hp⟩ := items_ok S r e1
    exact ⟨a, ys, rfl, hs, fun l hl => post_ol g S hl hp q⟩
  · exact q.elim
theorem de_lstF {p : Pos} (hg : Gl X "list") (hm : X.mg "list" = none) (ha : DA X [e] t) (hv : bootBuiltins "list" = some (.type "list") := by decide +kernel) (he : starEach [e] X.env = (false, eval e X.env) :: starEach [] X.env := by rfl) (hpl : (backTo pos (starEach [] X.env)).any (·.1) = false := by rfl) : DE X (.Call (.Name "list" p) [e] [] pos) (dCB rLstF t) := de_callTy call_list_of bc_lst hg hm hv ha (he := he) (hpl := hpl)
theorem de_lstFO {p : Pos} (hg : Gl X "list") (hm : X.mg "list" = none) (ha : DA X [e] t) (hv : bootBuiltins "list" = some (.type "list") := by decide +kernel) (he : starEach [e] X.env = (false, eval e X.env) :: starEach [] X.env := by rfl) (hpl : (backTo pos (starEach [] X.env)).any (·.1) = false := by rfl) : DE X (.Call (.Name "list" p) [e] [] pos) (dCB rLstO t) := de_callTy call_list_of bc_lstO hg hm hv ha (he := he) (hpl := hpl)
/-! abs, min, max, int, str, all -/
def rAbs : List Rv → OW → QR → Prop := fun xs ow Q => match xs with
  | [.d (.int i)] => Q (.d (.int (if i < 0 then -i else i))) ow
  | _ => False
theorem bc_abs : BearsC X (fun xs H Q => ∃ i, xs = [.int i] ∧ Q (.int (if i < 0 then -i else i)) H) rAbs := fun F0 as0 F as ow H vs xs Q g S hv q => by
  unfold rAbs at q
  split at q
  · obtain ⟨v, rfl, r⟩ := one_v hv
    cases r
    exact ⟨_, rfl, post_d g S (.int _) q⟩
  · exact q.elim
theorem de_abs {p : Pos} (hg : Gl X "abs") (hm : X.mg "abs" = none) (ha : DA X [e] t) (hv : bootBuiltins "abs" = some (.builtin "abs") := by decide +kernel) (he : starEach [e] X.env = (false, eval e X.env) :: starEach [] X.env := by rfl) (hpl : (backTo pos (starEach [] X.env)).any (·.1) = false := by rfl) : DE X (.Call (.Name "abs" p) [e] [] pos) (dCB rAbs t) := de_callB call_abs bc_abs hg hm hv ha (he := he) (hpl := hpl)
def rII (f : Int → Int → Int) : List Rv → OW → QR → Prop := fun xs ow Q => match xs with
  | [.d (.int i), .d (.int j)] => Q (.d (.int (f i j))) ow
  | _ => False
theorem bc_II (f : Int → Int → Int) : BearsC X (fun xs H Q => ∃ i j, xs = [.int i, .int j] ∧ Q (.int (f i j)) H) (rII f) := fun F0 as0 F as ow H vs xs Q g S hv q => by
  unfold rII at q
  split at q
  · obtain ⟨v, w, rfl, r1, r2⟩ := two_v hv
    cases r1; cases r2
    exact ⟨_, _, rfl, post_d g S (.int _) q⟩
  · exact q.elim
theorem de_min2 {p : Pos} {b : Expr} (m : Cm X) (hg : Gl X "min") (hm : X.mg "min" = none) (ha : DA X [e, b] t) (hv : bootBuiltins "min" = some (.builtin "min") := by decide +kernel) (he : starEach [e, b] X.env = (false, eval e X.env) :: starEach [b] X.env := by rfl) (hpl : (backTo pos (starEach [b] X.env)).any (·.1) = false := by rfl) : DE X (.Call (.Name "min" p) [e, b] [] pos) (dCB (rII fun i j => if j < i then j else i) t) := de_callB (call_min2 m.calm) (bc_II _) hg hm hv ha (he := he) (hpl := hpl)
theorem de_max2 {p : Pos} {b : Expr} (m : Cm X) (hg : Gl X "max") (hm : X.mg "max" = none) (ha : DA X [e, b] t) (hv : bootBuiltins "max" = some (.builtin "max") := by decide +kernel) (he : starEach [e, b] X.env = (false, eval e X.env) :: starEach [b] X.env := by rfl) (hpl : (backTo pos (starEach [b] X.env)).any (·.1) = false := by rfl) : DE X (.Call (.Name "max" p) [e, b] [] pos) (dCB (rII fun i j => if j > i then j else i) t) := de_callB (call_max2 m.calm) (bc_II _) hg hm hv ha (he := he) (hpl := hpl)
def rIntF : List Rv → OW → QR → Prop := fun xs ow Q => match xs with
  | [.d (.int i)] => Q (.d (.int i)) ow
  | [.d (.bool k)] => Q (.d (.int (if k then 1 else 0))) ow
  | [.d (.str s)] => ∃ n, PySem.intText? s = some n ∧ s.length ≤ 640 ∧ Q (.d (.int n)) ow
  | _ => False
theorem bc_int : BearsC X (fun xs H Q => ((∃ i, xs = [.int i] ∧ Q (.int i) H) ∨ ∃ k, xs = [.bl k] ∧ Q (.int (if k then 1 else 0)) H) ∨ (∃ a n, xs = [.str a] ∧ PySem.intText? a = some n ∧ a.length ≤ 640 ∧ Q (.int n) H)) rIntF := fun F0 as0 F as ow H vs xs Q g S hv q => by
  unfold rIntF at q
  split at q
  · obtain ⟨v, rfl, r⟩ := one_v hv
    cases r
    exact .inl (.inl ⟨_, rfl, post_d g S (.int _) q⟩)
  · obtain ⟨v, rfl, r⟩ := one_v hv
    cases r
    exact .inl (.inr ⟨_, rfl, post_d g S (.int _) q⟩)
  · obtain ⟨v, rfl, r⟩ := one_v hv
    cases r
    obtain ⟨n, h1, h2, q⟩ := q
    exact .inr ⟨_, n, rfl, h1, h2, post_d g S (.int _) q⟩
  · exact q.elim
theorem cr_int : CallR X (.type "int") (fun xs H Q => ((∃ i, xs = [.int i] ∧ Q (.int i) H) ∨ ∃ k, xs = [.bl k] ∧ Q (.int (if k then 1 else 0)) H) ∨ (∃ a n, xs = [.str a] ∧ PySem.intText? a = some n ∧ a.length ≤ 640 ∧ Q (.int n) H)) := CallR.or call_int1 call_int_str
theorem de_intF {p : Pos} (hg : Gl X "int") (hm : X.mg "int" = none) (ha : DA X [e] t) (hv : bootBuiltins "int" = some (.type "int") := by decide +kernel) (he : starEach [e] X.env = (false, eval e X.env) :: starEach [] X.env := by rfl) (hpl : (backTo pos (starEach [] X.env)).any (·.1) = false := by rfl) : DE X (.Call (.Name "int" p) [e] [] pos) (dCB rIntF t) := de_callTy cr_int bc_int hg hm hv ha (he := he) (hpl := hpl)
def rStrF : List Rv → OW → QR → Prop := fun xs ow Q => match xs with
  | [.d (.int i)] => i.natAbs.log2 < 1920 ∧ Q (.d (.str (toString i))) ow
  | [.d (.str s)] => Q (.d (.str s)) ow
  | _ => False
theorem bc_str : BearsC X (fun xs H Q => (∃ i, xs = [.int i] ∧ i.natAbs.log2 < 1920 ∧ Q (.str (toString i)) H) ∨ (∃ a, xs = [.str a] ∧ Q (.str a) H)) rStrF := fun F0 as0 F as ow H vs xs Q g S hv q => by
  unfold rStrF at q
  split at q
  · obtain ⟨v, rfl, r⟩ := one_v hv
    cases r
    exact .inl ⟨_, rfl, q.1, post_d g S (.str _) q.2⟩
  · obtain ⟨v, rfl, r⟩ := one_v hv
    cases r
    exact .inr ⟨_, rfl, post_d g S (.str _) q⟩
  · exact q.elim
theorem cr_str : CallR X (.type "str") (fun xs H Q => (∃ i, xs = [.int i] ∧ i.natAbs.log2 < 1920 ∧ Q (.str (toString i)) H) ∨ (∃ a, xs = [.str a] ∧ Q (.str a) H)) := CallR.or call_str_int SkE.call_str_str
theorem de_strF {p : Pos} (hg : Gl X "str") (hm : X.mg "str" = none) (ha : DA X [e] t) (hv : bootBuiltins "str" = some (.type "str") := by decide +kernel) (he : starEach [e] X.env = (false, eval e X.env) :: starEach [] X.env := by rfl) (hpl : (backTo pos (starEach [] X.env)).any (·.1) = false := by rfl) : DE X (.Call (.Name "str" p) [e] [] pos) (dCB rStrF t) := de_callTy cr_str bc_str hg hm hv ha (he := he) (hpl := hpl)
def rAllF : List Rv → OW → QR → Prop := fun xs ow Q => match xs with
  | [x] => ∃ bs : List Bool, lstOf x ow = some (bs.map fun k => Rv.d (.bool k)) ∧ Q (.d (.bool (bs.all id))) ow
  | _ => False
theorem bc_all : BearsC X (rAll X.K) rAllF := fun F0 as0 F as ow H vs xs Q g S hv q => by
  unfold rAllF at q
  split at q
  · obtain ⟨v, rfl, r⟩ := one_v hv
    obtain ⟨bs, e1, q⟩ := q
    obtain ⟨a, ys, rfl, hs, hp⟩ := lst_ok S r e1
    have e2 : (bs.map fun k => Rv.d (.bool k)) = (bs.map PyData.bool).map Rv.d := by rw [List.map_map]; rfl
    rw [e2] at hp
    rw [(rvs_dd hp).bools] at hs
    exact ⟨a, bs, rfl, hs, post_d g S (.bl _) q⟩
  · exact q.elim
theorem de_all {p : Pos} (m : Cm X) (hg : Gl X "all") (hm : X.mg "all" = none) (ha : DA X [e] t) (hv : bootBuiltins "all" = some (.builtin "all") := by decide +kernel) (he : starEach [e] X.env = (false, eval e X.env) :: starEach [] X.env := by rfl) (hpl : (backTo pos (starEach [] X.env)).any (·.1) = false := by rfl) : DE X (.Call (.Name "all" p) [e] [] pos) (dCB rAllF t) := de_callB (cr_all m.calm) bc_all hg hm hv ha (he := he) (hpl := hpl)
end
end DL
end
section
set_option Elab.async false
set_option linter.all false
set_option maxRecDepth 100000
set_option maxHeartbeats 1000000
/-! DL 4: statements, targets, loops, comprehensions, methods of owned objects -/
namespace DL
open PySem PySem.Spec PyProof.Rows L2 Evl
section
variable {X : DX} {a b c e tg iter elt : Expr} {es : List Expr} {st : Stmt} {rest sts body : List Stmt} {pos : Pos} {ta tb tc te : TX} {ts tr : TM} {t : TXa} {A : TXb} {g : TGd}

theorem ds_of {t' : TS} {t : TM} (h : PS X st t') (k : ∀ (F : Hp) (as : AS) (ow : OW) (σ : L2.St) (sl : SL) (H : Hp) (D : DEnds), Sat X.kb F as ow H → Sls X.K F as sl σ → t D sl ow → t' (D.to X.kb F as) σ H) : DS X st t :=
  ⟨fun F as ow σ sl H D S L q => of_ps h (k F as ow σ sl H D S L q)⟩
theorem db_of {t' : TS} {t : TM} (h : PSs X sts t') (k : ∀ (F : Hp) (as : AS) (ow : OW) (σ : L2.St) (sl : SL) (H : Hp) (D : DEnds), Sat X.kb F as ow H → Sls X.K F as sl σ → t D sl ow → t' (D.to X.kb F as) σ H) : DB X sts t :=
  ⟨fun F as ow σ sl H D S L q => of_pss h (k F as ow σ sl H D S L q)⟩
/-- behind: the wishes seen from an earlier state -/
theorem wB_grow {F F' : Hp} {as as' : AS} {D : DEnds} {σ : L2.St} {H : Hp} (gr : Grow F as F' as') (h : wB X sts (D.to X.kb F' as') σ H) : wB X sts (D.to X.kb F as) σ H := by
  obtain ⟨h1, h2, h3, h4⟩ := DEnds.to_grow (B := X.kb) gr D
  exact h.mono h1 h2 h3 h4
theorem wS_grow {F F' : Hp} {as as' : AS} {D : DEnds} {σ : L2.St} {H : Hp} (gr : Grow F as F' as') (h : wS X st (D.to X.kb F' as') σ H) : wS X st (D.to X.kb F as) σ H := by
  obtain ⟨h1, h2, h3, h4⟩ := DEnds.to_grow (B := X.kb) gr D
  exact h.mono h1 h2 h3 h4

/-! ### blocks -/
def dNext : TM := fun D sl ow => D.nx sl ow
def dSeq (t u : TM) : TM := fun D sl ow => t { D with nx := u D } sl ow
theorem db_nil : DB X [] dNext := db_of pss_nil fun F as ow σ sl H D S L q => ⟨F, as, sl, ow, Grow.refl, S, L, q⟩
theorem db_cons (h1 : DS X st ts) (h2 : DB X rest tr) : DB X (st :: rest) (dSeq ts tr) := db_of (pss_cons ps_w pss_w) fun F as ow σ sl H D S L q => by
  have z := h1.run F as ow σ sl H { D with nx := tr D } S L q
  exact z.mono (fun σ' H' ⟨F', as', sl', ow', g', S', L', q'⟩ => wB_grow g' (h2.run F' as' ow' σ' sl' H' D S' L' q')) (fun _ _ z => z) (fun _ _ z => z) (fun _ _ z => z)
theorem db_one (h : DS X st ts) : DB X [st] ts := db_of (pss_one ps_w) fun F as ow σ sl H D S L q => h.run F as ow σ sl H D S L q
/-- a statement, a word between, the rest -/
def dCut (t u : TM) : TM := fun D sl ow => ∃ M : SL → OW → Prop, t { D with nx := M } sl ow ∧ ∀ sl' ow', M sl' ow' → u D sl' ow'
theorem db_cut (h1 : DS X st ts) (h2 : DB X rest tr) : DB X (st :: rest) (dCut ts tr) := db_of (pss_cons ps_w pss_w) fun F as ow σ sl H D S L ⟨M, q, k⟩ => by
  have z := h1.run F as ow σ sl H { D with nx := M } S L q
  exact z.mono (fun σ' H' ⟨F', as', sl', ow', g', S', L', q'⟩ => wB_grow g' (h2.run F' as' ow' σ' sl' H' D S' L' (k _ _ q'))) (fun _ _ z => z) (fun _ _ z => z) (fun _ _ z => z)
def dBrk : TM := fun D sl ow => D.bk sl ow
def dCont : TM := fun D sl ow => D.ct sl ow
theorem ds_pass : DS X (.Pass pos) dNext := ds_of ps_pass fun F as ow σ sl H D S L q => ⟨F, as, sl, ow, Grow.refl, S, L, q⟩
theorem ds_break : DS X (.Break pos) dBrk := ds_of ps_break fun F as ow σ sl H D S L q => ⟨F, as, sl, ow, Grow.refl, S, L, q⟩
theorem ds_continue : DS X (.Continue pos) dCont := ds_of ps_continue fun F as ow σ sl H D S L q => ⟨F, as, sl, ow, Grow.refl, S, L, q⟩
def dNever : TM := fun _ _ _ => False
theorem ds_never : DS X st dNever := ⟨fun F as ow σ sl H D S L q => q.elim⟩
theorem db_never : DB X sts dNever := ⟨fun F as ow σ sl H D S L q => q.elim⟩
def dDrop (te : TX) : TM := fun D sl ow => te sl ow fun _ ow1 => D.nx sl ow1
theorem ds_expr (h : DE X e te) (hs : swapsWith e none pos.line X.env = pure false := by rfl) : DS X (.Expr e pos) (dDrop te) := ds_of (ps_expr pe_w hs) fun F as ow σ sl H D S L q =>
  (h.run F as ow σ sl H _ S L q).mono fun v H1 ⟨F1, as1, r, ow1, g1, S1, r1, q1⟩ => ⟨F1, as1, sl, ow1, g1, S1, L.mono g1, q1⟩
def dRet (te : TX) : TM := fun D sl ow => te sl ow D.rt
theorem ds_ret (h : DE X e te) : DS X (.Return (some e) pos) (dRet te) := ds_of (ps_ret pe_w) fun F as ow σ sl H D S L q => h.run F as ow σ sl H D.rt S L q
/-- an owned list handed back as data -/
def dRetF (te : TX) : TM := fun D sl ow => te sl ow fun r ow1 => match r with
  | .o n => ∃ rs ds, lstAt ow1 n = some rs ∧ allD rs = some ds ∧ D.rt (.d (.list ds)) (ow1.set n .gone)
  | _ => False
theorem ds_retF (h : DE X e te) : DS X (.Return (some e) pos) (dRetF te) := ds_of (ps_ret pe_w) fun F as ow σ sl H D S L q =>
  (h.run F as ow σ sl H _ S L q).mono fun v H1 ⟨F1, as1, r, ow1, g1, S1, r1, q1⟩ => by
    dsimp only at q1
    split at q1
    · obtain ⟨rs, ds, e1, e2, q1⟩ := q1
      obtain ⟨a, h1, rfl⟩ := r1
      have e3 := of_lstAt e1
      rw [of_allD e2] at e3
      obtain ⟨F2, g2, S2, d2⟩ := S1.freeze h1 e3
      exact post_d (g1.trans g2) S2 d2 q1
    · exact q1.elim
def dRetN : TM := fun D _ ow => D.rt (.d .none) ow
theorem ds_retN : DS X (.Return none pos) dRetN := ds_of ps_retN fun F as ow σ sl H D S L q => post_d Grow.refl S .non q
def dIf (t : TXb) (u v : TM) : TM := fun D sl ow => t sl ow fun k ow1 => if k = true then u D sl ow1 else v D sl ow1
theorem ds_if (hc : DT X c A) (h1 : DB X sts ts) (h2 : DB X rest tr) : DS X (.If c sts rest pos) (dIf A ts tr) := ds_of (ps_if pt_w pss_w pss_w) fun F as ow σ sl H D S L q =>
  (hc.run F as ow σ sl H _ S L q).mono fun k H1 ⟨F1, as1, ow1, g1, S1, q1⟩ => by
    cases k with
    | true =>
      rw [if_pos rfl] at q1 ⊢
      exact wB_grow g1 (h1.run F1 as1 ow1 σ sl H1 D S1 (L.mono g1) q1)
    | false =>
      rw [if_neg Bool.false_ne_true] at q1 ⊢
      exact wB_grow g1 (h2.run F1 as1 ow1 σ sl H1 D S1 (L.mono g1) q1)

/-! ### targets -/
theorem dg_of {t' : TG} {t : TGd} (h : PG X tg t') (k : ∀ (F : Hp) (as : AS) (ow : OW) (σ : L2.St) (sl : SL) (H : Hp) (v : V) (r : Rv) (Q : SL → OW → Prop), Sat X.kb F as ow H → Sls X.K F as sl σ → RvOk X.K F as v r → t r sl ow Q → t' v σ H (PostS X.kb F as Q)) : DG X tg t :=
  ⟨fun F as ow σ sl H v r Q S L rv q => of_pg h (k F as ow σ sl H v r Q S L rv q)⟩
def dgName (i : Nat) : TGd := fun r sl ow Q => Q (sl.set i (some r)) ow
theorem dg_name {i : Nat} {x : Str} (hN : X.N.Nodup) (hi : X.N[i]? = some x) (hx : Loc X.env.scope x) (hf : X.fn x = true ∨ X.env.scope.names.lookup x = some .local := by first | exact .inl rfl | exact .inr rfl | assumption) : DG X (.Name x pos) (dgName i) :=
  dg_of (pg_name hN hi hx hf) fun F as ow σ sl H v r Q S L rv q => ⟨F, as, _, ow, Grow.refl, S, L.set rv i, q⟩
abbrev TGsd := List Rv → SL → OW → (SL → OW → Prop) → Prop
structure DGs (X : DX) (ts : List Expr) (t : TGsd) : Prop where
  run : ∃ t', PGs X ts t' ∧ ∀ (F : Hp) (as : AS) (ow : OW) (σ : L2.St) (sl : SL) (H : Hp) (vs : List V) (rs : List Rv) (Q : SL → OW → Prop), Sat X.kb F as ow H → Sls X.K F as sl σ → Paired (RvOk X.K F as) vs rs → t rs sl ow Q → ∀ R : L2.St → Hp → Prop, (∀ σ' H', PostS X.kb F as Q σ' H' → R σ' H') → t' vs σ H R
def dgNil : TGsd := fun rs sl ow Q => rs = [] ∧ Q sl ow
def dgCons (t : TGd) (u : TGsd) : TGsd := fun rs sl ow Q => match rs with
  | r :: rr => t r sl ow fun sl' ow' => u rr sl' ow' Q
  | [] => False
theorem dgs_nil : DGs X [] dgNil := ⟨_, pgs_nil, fun F as ow σ sl H vs rs Q S L hv ⟨e, q⟩ R k => by
  subst e
  cases hv
  exact ⟨rfl, k _ _ ⟨F, as, sl, ow, Grow.refl, S, L, q⟩⟩⟩
theorem dgs_cons {t : TGd} {u : TGsd} (h1 : DG X e t) (h2 : DGs X es u) (hs : (assignEach (e :: es) X.env).map (·.2) = assign e X.env :: (assignEach es X.env).map (·.2) := by rfl) : DGs X (e :: es) (dgCons t u) := by
  obtain ⟨u', pu, ku⟩ := h2.run
  refine ⟨_, pgs_cons pg_w pu hs, fun F as ow σ sl H vs rs Q S L hv q R k => ?_⟩
  cases hv with
  | nil => exact q.elim
  | cons r1 rr =>
    refine ⟨_, _, rfl, (h1.run F as ow σ sl H _ _ _ S L r1 q).mono fun σ1 H1 ⟨F1, as1, sl1, ow1, g1, S1, L1, q1⟩ => ?_⟩
    refine ku F1 as1 ow1 σ1 sl1 H1 _ _ Q S1 L1 (Paired.monoP (fun _ _ z => z.mono g1) rr) q1 R fun σ2 H2 ⟨F2, as2, sl2, ow2, g2, z⟩ => k _ _ ⟨F2, as2, sl2, ow2, g1.trans g2, z⟩
/-- a, b = a tuple of data -/
def dgTup (n : Nat) (t : TGsd) : TGd := fun r sl ow Q => match r with
  | .d (.tuple ds) => ds.length = n ∧ t (ds.map Rv.d) sl ow Q
  | _ => False
theorem dg_tup {k : Nat} {t : TGsd} {n : Nat} (hc : X.calm = true) (h : DGs X es t) (hn : (assignEach es X.env).length = n := by rfl) (hst : (assignEach es X.env).findIdx? (·.1) = none := by rfl) : DG X (.Tuple es k pos) (dgTup n t) := by
  obtain ⟨t', pt, kt⟩ := h.run
  refine dg_of (pg_tup hc pt hn hst) fun F as ow σ sl H v r Q S L rv q => ?_
  unfold dgTup at q
  split at q
  · cases rv with
    | tup h1 h2 => exact ⟨_, _, rfl, ex_t S.ex h1, by rw [h2.len]; exact q.1, kt F as ow σ sl H _ _ Q S L (dd_rvs h2) q.2 _ fun _ _ z => z⟩
  · exact q.elim
def dAsg (te : TX) (g : TGd) : TM := fun D sl ow => te sl ow fun r ow1 => g r sl ow1 D.nx
theorem ds_asg (h : DE X e te) (hg : DG X tg g) (hs : swapsWithSole [tg] e pos.line X.env = pure false := by rfl) (hw : swappedStores [tg] e X.env = pure none := by rfl)
    (h1 : (assignEach [tg] X.env).map (·.2) = [assign tg X.env] := by rfl) : DS X (.Assign [tg] e pos) (dAsg te g) := ds_of (ps_asg pe_w pg_w hs hw h1) fun F as ow σ sl H D S L q =>
  (h.run F as ow σ sl H _ S L q).mono fun v H1 ⟨F1, as1, r, ow1, g1, S1, r1, q1⟩ => (hg.run F1 as1 ow1 σ sl H1 v r _ S1 (L.mono g1) r1 q1).mono fun σ2 H2 ⟨F2, as2, sl2, ow2, g2, z⟩ => ⟨F2, as2, sl2, ow2, g1.trans g2, z⟩
/-- name = value -/
def dSet (i : Nat) (te : TX) : TM := fun D sl ow => te sl ow fun r ow1 => D.nx (sl.set i (some r)) ow1
theorem ds_set {i : Nat} {x : Str} {pos' : Pos} (hN : X.N.Nodup) (hi : X.N[i]? = some x) (hx : Loc X.env.scope x) (h : DE X e te) (hs : swapsWith e (some (.Name x pos')) pos.line X.env = pure false := by rfl) (hf : X.fn x = true ∨ X.env.scope.names.lookup x = some .local := by first | exact .inl rfl | exact .inr rfl | assumption) :
    DS X (.Assign [.Name x pos'] e pos) (dSet i te) := ds_of (ps_set hN hi hx pe_w hs hf) fun F as ow σ sl H D S L q =>
  (h.run F as ow σ sl H _ S L q).mono fun v H1 ⟨F1, as1, r, ow1, g1, S1, r1, q1⟩ => ⟨F1, as1, _, ow1, g1, S1, (L.mono g1).set r1 i, q1⟩
/-- a, b = x, y -/
def dPar (i j : Nat) (t : TXa) : TM := fun D sl ow => t sl ow fun rs ow1 => match rs with
  | [x, y] => D.nx ((sl.set i (some x)).set j (some y)) ow1
  | _ => False
theorem ds_par {i j : Nat} {x y : Str} {px py pt : Pos} {kt k2 pt2} (hc : X.calm = true) (hN : X.N.Nodup) (hi : X.N[i]? = some x) (hj : X.N[j]? = some y) (hij : i ≠ j)
    (hx : X.env.scope.names.lookup x = some .local) (hy : X.env.scope.names.lookup y = some .local) (ha : DA X [a, b] t)
    (hw : swappedStores [.Tuple [.Name x px, .Name y py] kt pt] (.Tuple [a, b] k2 pt2) X.env = pure (some [x, y]))
    (hs : swapsWithSole [.Tuple [.Name x px, .Name y py] kt pt] (.Tuple [a, b] k2 pt2) pos.line X.env = pure false := by rfl) :
    DS X (.Assign [.Tuple [.Name x px, .Name y py] kt pt] (.Tuple [a, b] k2 pt2) pos) (dPar i j t) := ds_of (ps_par hc hN hi hj hij hx hy pa_w hw hs) fun F as ow σ sl H D S L q =>
  (ha.run F as ow σ sl H _ S L q).mono fun vs H1 ⟨F1, as1, rs, ow1, g1, S1, r1, q1⟩ => by
    dsimp only at q1
    split at q1
    · obtain ⟨v, w, rfl, k1, k2⟩ := two_v r1
      exact ⟨v, w, rfl, F1, as1, _, ow1, g1, S1, ((L.mono g1).set k1 i).set k2 j, q1⟩
    · exact q1.elim
/-- xs[i] = value, of an owned list -/
def dSetIx (te to ti : TX) : TM := fun D sl ow => te sl ow fun r ow1 => to sl ow1 fun x ow2 => ti sl ow2 fun y ow3 => match x, y with
  | .o n, .d (.int k) => ∃ xs j, lstAt ow3 n = some xs ∧ ixN xs.length k = some j ∧ D.nx sl (ow3.set n (.lst (xs.set j r)))
  | _, _ => False
theorem ds_setIx {o i : Expr} {to ti : TX} {pos' : Pos} (h : DE X e te) (ho : DE X o to) (hi : DE X i ti) (ha : ∀ v, assign (.Subscript o i pos') X.env v = (do
      let ov ← holding [v] (eval o X.env)
      let iv ← holding [v, ov] (eval i X.env)
      standAt pos'
      holding [v, ov, iv] (setItem ov iv v)
      release [v, ov, iv] []) := by intro _; rfl) (hs : swapsWithSole [.Subscript o i pos'] e pos.line X.env = pure false := by rfl) (hw : swappedStores [.Subscript o i pos'] e X.env = pure none := by rfl)
    (h1 : (assignEach [.Subscript o i pos'] X.env).map (·.2) = [assign (.Subscript o i pos') X.env] := by rfl) : DS X (.Assign [.Subscript o i pos'] e pos) (dSetIx te to ti) :=
  ds_of (ps_asg pe_w (pg_sub pe_w pe_w set_list ha) hs hw h1) fun F as ow σ sl H D S L q =>
  (h.run F as ow σ sl H _ S L q).mono fun v H1 ⟨F1, as1, r, ow1, g1, S1, r1, q1⟩ => (ho.run F1 as1 ow1 σ sl H1 _ S1 (L.mono g1) q1).mono fun vo H2 ⟨F2, as2, x, ow2, g2, S2, r2, q2⟩ =>
    (hi.run F2 as2 ow2 σ sl H2 _ S2 (L.mono (g1.trans g2)) q2).mono fun vi H3 ⟨F3, as3, y, ow3, g3, S3, r3, q3⟩ => by
      have r2' := r2.mono g3
      have r1' := r1.mono (g2.trans g3)
      dsimp only at q3
      split at q3
      · obtain ⟨xs, j, e1, e2, q3⟩ := q3
        obtain ⟨a, h1, rfl⟩ := r2'
        obtain ⟨fa, vs, h2, h3⟩ := S3.ob _ a _ h1 (of_lstAt e1)
        cases r3
        refine ⟨a, vs, _, j, rfl, rfl, h2, by rw [Paired.len2 h3]; exact e2, F3, as3, sl, _, (g1.trans g2).trans g3, S3.wr (x := .lst _) h1 fa ⟨fa, _, upd_same, ?_⟩, L.mono ((g1.trans g2).trans g3), q3⟩
        exact Paired.set2 r1' j h3
      · exact q3.elim

/-! ### methods of owned lists -/
def dApp (to te : TX) : TX := fun sl ow Q => to sl ow fun x ow1 => te sl ow1 fun r ow2 => match x with
  | .o n => ∃ xs, lstAt ow2 n = some xs ∧ xs.length < sizeLine ∧ Q (.d .none) (ow2.set n (.lst (xs ++ [r])))
  | _ => False
/-- the owner's kind must be known ahead of the arguments -/
def isL (x : Rv) (ow : OW) : Prop := ∃ xs, lstOf x ow = some xs
theorem isL_ty {B : KB} {F H : Hp} {as : AS} {ow : OW} {v : V} {x : Rv} (S : Sat B F as ow H) (h : RvOk B.K F as v x) (k : isL x ow) : tyV B.K "list" v H := by
  obtain ⟨xs, e⟩ := k
  obtain ⟨a, vs, rfl, hs, _⟩ := lst_ok S h e
  exact .inl ⟨rfl, vs, hs⟩
def dMeth (kind : Rv → OW → Prop) (rd : Rv → List Rv → OW → QR → Prop) (to : TX) (t : TXa) : TX := fun sl ow Q => to sl ow fun x ow1 => kind x ow1 ∧ t sl ow1 fun rs ow2 => rd x rs ow2 Q
def BearsM (X : DX) (r : V → List V → Hp → VK → Prop) (rd : Rv → List Rv → OW → QR → Prop) : Prop := ∀ (F0 : Hp) (as0 : AS) (F : Hp) (as : AS) (ow : OW) (H : Hp) (v : V) (x : Rv) (vs : List V) (xs : List Rv) (Q : QR), Grow F0 as0 F as → Sat X.kb F as ow H → RvOk X.K F as v x → Paired (RvOk X.K F as) vs xs → rd x xs ow Q → r v vs H (Post X.kb F0 as0 Q)
theorem de_meth {T id : String} {r : V → List V → Hp → VK → Prop} {rd : Rv → List Rv → OW → QR → Prop} {o : Expr} {to : TX} {name : Str} {apos cpos : Pos} {kind : Rv → OW → Prop} (pa : PlainAttrs T) (slot : Slot T name id) (hty : typeOf (.builtin id) = pure (.type "method_descriptor")) (hm : MtR X id r) (hb : BearsM X r rd) (hk : ∀ (F : Hp) (as : AS) (ow : OW) (H : Hp) (v : V) (x : Rv), Sat X.kb F as ow H → RvOk X.K F as v x → kind x ow → tyV X.K T v H)
    (ho : DE X o to) (ha : DA X (e :: es) t) (hbase : attributeBase o name X.env (eval o X.env) = eval o X.env := by rfl)
    (hfew : ((backTo cpos (starEach (e :: es) X.env)).all (fun x => !x.1) && (backToKw cpos (keywordEach [] X.env)).all (fun x => x.1.isSome)
      && decide ((e :: es).length + ([] : List Keyword).length + (if ([] : List Keyword).isEmpty then 0 else 1) < 30)) = true := by rfl)
    (hline : (apos.endLine == cpos.line) = true := by rfl) (hs : starEach (e :: es) X.env = (false, eval e X.env) :: starEach es X.env := by rfl) (hplain : (backTo cpos (starEach es X.env)).any (·.1) = false := by rfl) :
    DE X (.Call (.Attribute o name apos) (e :: es) [] cpos) (dMeth kind rd to t) := de_of (pe_bm pa slot hty hm pe_w pa_w hbase hfew hline hs hplain) fun F as ow σ sl H Q S L q =>
  (ho.run F as ow σ sl H _ S L q).mono fun v H1 ⟨F1, as1, x, ow1, g1, S1, r1, k1, q1⟩ => ⟨hk F1 as1 ow1 H1 v x S1 r1 k1, (ha.run F1 as1 ow1 σ sl H1 _ S1 (L.mono g1) q1).mono fun vs H2 ⟨F2, as2, rs, ow2, g2, S2, r2, q2⟩ =>
    hb F as F2 as2 ow2 H2 v x vs rs Q (g1.trans g2) S2 (r1.mono g2) r2 q2⟩
theorem de_meth0 {T id : String} {r : V → List V → Hp → VK → Prop} {rd : Rv → List Rv → OW → QR → Prop} {o : Expr} {to : TX} {name : Str} {apos cpos : Pos} {kind : Rv → OW → Prop} (pa : PlainAttrs T) (slot : Slot T name id) (hty : typeOf (.builtin id) = pure (.type "method_descriptor")) (hm : MtR X id r) (hb : BearsM X r rd) (hk : ∀ (F : Hp) (as : AS) (ow : OW) (H : Hp) (v : V) (x : Rv), Sat X.kb F as ow H → RvOk X.K F as v x → kind x ow → tyV X.K T v H)
    (ho : DE X o to) (hbase : attributeBase o name X.env (eval o X.env) = eval o X.env := by rfl) (hline : (apos.endLine == cpos.line) = true := by rfl) :
    DE X (.Call (.Attribute o name apos) [] [] cpos) (dMeth kind rd to dNil) := de_of (pe_bm0 pa slot hty hm pe_w hbase hline) fun F as ow σ sl H Q S L q =>
  (ho.run F as ow σ sl H _ S L q).mono fun v H1 ⟨F1, as1, x, ow1, g1, S1, r1, k1, q1⟩ => ⟨hk F1 as1 ow1 H1 v x S1 r1 k1, hb F as F1 as1 ow1 H1 v x [] [] Q g1 S1 r1 .nil q1⟩
def rAppD : Rv → List Rv → OW → QR → Prop := fun x rs ow Q => match x, rs with
  | .o n, [r] => ∃ xs, lstAt ow n = some xs ∧ xs.length < sizeLine ∧ Q (.d .none) (ow.set n (.lst (xs ++ [r])))
  | _, _ => False
theorem bm_app : BearsM X rAppend rAppD := fun F0 as0 F as ow H v x vs xs Q g S rx hv q => by
  unfold rAppD at q
  split at q
  · obtain ⟨ys, e1, e2, q⟩ := q
    obtain ⟨a, h1, rfl⟩ := rx
    obtain ⟨w, rfl, rw'⟩ := one_v hv
    obtain ⟨fa, us, h2, h3⟩ := S.ob _ a _ h1 (of_lstAt e1)
    exact ⟨a, us, w, rfl, rfl, h2, by rw [Paired.len2 h3]; exact e2, post_d g (S.wr (x := .lst _) h1 fa ⟨fa, _, upd_same, Paired.app2 h3 (.cons rw' .nil)⟩) .non q⟩
  · exact q.elim
theorem de_app {o : Expr} {to : TX} {apos cpos : Pos} (ho : DE X o to) (ha : DA X [e] t) (hbase : attributeBase o "append" X.env (eval o X.env) = eval o X.env := by rfl)
    (hfew : ((backTo cpos (starEach [e] X.env)).all (fun x => !x.1) && (backToKw cpos (keywordEach [] X.env)).all (fun x => x.1.isSome)
      && decide (([e] : List Expr).length + ([] : List Keyword).length + (if ([] : List Keyword).isEmpty then 0 else 1) < 30)) = true := by rfl)
    (hline : (apos.endLine == cpos.line) = true := by rfl) (hs : starEach [e] X.env = (false, eval e X.env) :: starEach [] X.env := by rfl) (hplain : (backTo cpos (starEach [] X.env)).any (·.1) = false := by rfl) :
    DE X (.Call (.Attribute o "append" apos) [e] [] cpos) (dMeth isL rAppD to t) := de_meth PySem.F.plainAttrs_list PySem.F.slot_list_append PySem.F.type_list_append mt_append bm_app (fun F as ow H v x S r k => isL_ty S r k) ho ha hbase hfew hline hs hplain
def lstP : Rv → OW → Option (List Rv)
  | .d (.list ds), _ => some (ds.map Rv.d)
  | .o n, ow => lstAt ow n
  | _, _ => none
def rExtD : Rv → List Rv → OW → QR → Prop := fun x rs ow Q => match x, rs with
  | .o n, [r] => ∃ xs ys, lstAt ow n = some xs ∧ lstP r ow = some ys ∧ xs.length + ys.length ≤ sizeLine ∧ Q (.d .none) (ow.set n (.lst (xs ++ ys)))
  | _, _ => False
/-- the list at a is tracked as a plain list -/
theorem lst_tr {B : KB} {F H : Hp} {as : AS} {ow : OW} {v : V} {x : Rv} {rs : List Rv} (S : Sat B F as ow H) (h : RvOk B.K F as v x) (e : lstP x ow = some rs) : ∃ a vs, v = .ref a ∧ H a = some (.lst vs) ∧ Paired (RvOk B.K F as) vs rs := by
  unfold lstP at e
  split at e
  · cases h with
    | lst h1 h2 =>
      cases e
      exact ⟨_, _, rfl, S.ex _ _ h1, dd_rvs h2⟩
  · obtain ⟨a, h1, rfl⟩ := h
    obtain ⟨_, vs, h2, h3⟩ := S.ob _ a _ h1 (of_lstAt e)
    exact ⟨a, vs, rfl, h2, h3⟩
  · cases e
theorem bm_ext : BearsM X rExtend rExtD := fun F0 as0 F as ow H v x vs xs Q g S rx hv q => by
  unfold rExtD at q
  split at q
  · obtain ⟨ys, zs, e1, e2, e3, q⟩ := q
    obtain ⟨a, h1, rfl⟩ := rx
    obtain ⟨w, rfl, rw'⟩ := one_v hv
    obtain ⟨b, ws, rfl, hb, hp⟩ := lst_tr S rw' e2
    obtain ⟨fa, us, h2, h3⟩ := S.ob _ a _ h1 (of_lstAt e1)
    exact ⟨a, b, us, ws, rfl, rfl, h2, hb, by rw [Paired.len2 h3, Paired.len2 hp]; exact e3, post_d g (S.wr (x := .lst _) h1 fa ⟨fa, _, upd_same, Paired.app2 h3 hp⟩) .non q⟩
  · exact q.elim
theorem de_ext {o : Expr} {to : TX} {apos cpos : Pos} (ho : DE X o to) (ha : DA X [e] t) (hbase : attributeBase o "extend" X.env (eval o X.env) = eval o X.env := by rfl)
    (hfew : ((backTo cpos (starEach [e] X.env)).all (fun x => !x.1) && (backToKw cpos (keywordEach [] X.env)).all (fun x => x.1.isSome)
      && decide (([e] : List Expr).length + ([] : List Keyword).length + (if ([] : List Keyword).isEmpty then 0 else 1) < 30)) = true := by rfl)
    (hline : (apos.endLine == cpos.line) = true := by rfl) (hs : starEach [e] X.env = (false, eval e X.env) :: starEach [] X.env := by rfl) (hplain : (backTo cpos (starEach [] X.env)).any (·.1) = false := by rfl) :
    DE X (.Call (.Attribute o "extend" apos) [e] [] cpos) (dMeth isL rExtD to t) := de_meth PySem.F.plainAttrs_list PySem.F.slot_list_extend PySem.F.type_list_extend mt_extend bm_ext (fun F as ow H v x S r k => isL_ty S r k) ho ha hbase hfew hline hs hplain
/-! texts' methods -/
def isStr (x : Rv) (_ : OW) : Prop := ∃ s, x = .d (.str s)
theorem isStr_ty {K : FG} {F H : Hp} {as : AS} {ow : OW} {v : V} {x : Rv} (h : RvOk K F as v x) (k : isStr x ow) : tyV K "str" v H := by
  obtain ⟨s, rfl⟩ := k
  cases h
  rfl
def rJoinD : Rv → List Rv → OW → QR → Prop := fun x rs ow Q => match x, rs with
  | .d (.str s), [r] => ∃ ys : List Str, itemsOf r ow = some (ys.map fun y => Rv.d (.str y)) ∧ (ys.map (·.length)).sum + ys.length * s.length ≤ 16777216 ∧ Q (.d (.str (Txt.join s ys))) ow
  | _, _ => False
theorem bm_join : BearsM X (fun x xs H Q => ∃ a p, ∃ ys : List Str, x = .str a ∧ xs = [.ref p] ∧ (SqL X.K H p (ys.map V.str) ∨ SqT X.K H p (ys.map V.str)) ∧ (ys.map (·.length)).sum + ys.length * a.length ≤ 16777216 ∧ Q (.str (Txt.join a ys)) H) rJoinD := fun F0 as0 F as ow H v x vs xs Q g S rx hv q => by
  unfold rJoinD at q
  split at q
  · obtain ⟨ys, e1, e2, q⟩ := q
    cases rx
    obtain ⟨w, rfl, rw'⟩ := one_v hv
    obtain ⟨p, us, rfl, hs, hp⟩ := items_ok S rw' e1
    have e3 : (ys.map fun y => Rv.d (.str y)) = (ys.map PyData.str).map Rv.d := by rw [List.map_map]; rfl
    rw [e3] at hp
    rw [(rvs_dd hp).strs] at hs
    exact ⟨_, p, ys, rfl, rfl, hs, e2, post_d g S (.str _) q⟩
  · exact q.elim
theorem de_join {o : Expr} {to : TX} {apos cpos : Pos} (ho : DE X o to) (ha : DA X [e] t) (hbase : attributeBase o "join" X.env (eval o X.env) = eval o X.env := by rfl)
    (hfew : ((backTo cpos (starEach [e] X.env)).all (fun x => !x.1) && (backToKw cpos (keywordEach [] X.env)).all (fun x => x.1.isSome)
      && decide (([e] : List Expr).length + ([] : List Keyword).length + (if ([] : List Keyword).isEmpty then 0 else 1) < 30)) = true := by rfl)
    (hline : (apos.endLine == cpos.line) = true := by rfl) (hs : starEach [e] X.env = (false, eval e X.env) :: starEach [] X.env := by rfl) (hplain : (backTo cpos (starEach [] X.env)).any (·.1) = false := by rfl) :
    DE X (.Call (.Attribute o "join" apos) [e] [] cpos) (dMeth isStr rJoinD to t) := de_meth PySem.F.plainAttrs_str PySem.F.slot_str_join PySem.F.type_str_join mt_join bm_join (fun F as ow H v x S r k => isStr_ty r k) ho ha hbase hfew hline hs hplain

/-! ### what a loop walks -/
/-- the walk J yields the items, while ok holds -/
def Walked (B : KB) (F1 : Hp) (as1 : AS) (J : It) (items : List Rv) (ok : OW → Prop) : Prop := ∀ (F : Hp) (as : AS) (ow : OW) (H : Hp), GrowW F1 as1 F as → Sat B F as ow H → ok ow →
  (∀ i r, items[i]? = some r → J.go i H ∧ ∀ x H', J.yld i H x H' → ∃ F', Grow F as F' as ∧ Sat B F' as ow H' ∧ RvOk B.K F' as x r) ∧ J.stop items.length H
abbrev TId := SL → OW → (List Rv → (OW → Prop) → OW → Prop) → Prop
structure DI (X : DX) (tg iter : Expr) (t : TId) : Prop where
  run : ∃ wi, PI X tg iter wi ∧ ∀ (F : Hp) (as : AS) (ow : OW) (σ : L2.St) (sl : SL) (H : Hp) (R : List Rv → (OW → Prop) → OW → Prop), Sat X.kb F as ow H → Sls X.K F as sl σ → t sl ow R →
    ∀ W : It → Hp → Prop, (∀ J H1 F1 as1 ow1 items ok, Grow F as F1 as1 → Sat X.kb F1 as1 ow1 H1 → Walked X.kb F1 as1 J items ok → R items ok ow1 → W J H1) → wi σ H W
def iaTru : OW → Prop := fun _ => True
/-- a tuple -/
def diTup (te : TX) : TId := fun sl ow R => te sl ow fun r ow1 => match r with
  | .d (.tuple ds) => R (ds.map Rv.d) iaTru ow1
  | _ => False
theorem walked_tup {B : KB} {F : Hp} {as : AS} {a : Addr} {vs : List V} {ds : List PyData} (h1 : SqT B.K F a vs) (h2 : DdAll B.K F vs ds) : Walked B F as (Itt B.K a) (ds.map Rv.d) iaTru := fun F' as' ow H g S _ => by
  have hs : SqT B.K H a vs := ex_t S.ex (ex_t g.ex h1)
  refine ⟨fun i r hi => ?_, ⟨vs, hs, by rw [h2.len, List.length_map]; exact Nat.le_refl _⟩⟩
  rw [List.getElem?_map] at hi
  obtain ⟨d, hd, rfl⟩ := Option.map_eq_some_iff.mp hi
  obtain ⟨v, hv, rv⟩ := h2.get hd
  exact ⟨⟨vs, v, hs, hv⟩, fun x H' ⟨e, y⟩ => by
    subst e
    have := y vs hs
    rw [hv] at this
    cases this
    exact ⟨F', Grow.refl, S, Dd.mono g.ex _ _ rv⟩⟩
theorem di_tup (h : DE X e te) : DI X tg e (diTup te) := ⟨_, pi_tup pe_w, fun F as ow σ sl H R S L q W k => (h.run F as ow σ sl H _ S L q).mono fun v H1 ⟨F1, as1, r, ow1, g1, S1, r1, q1⟩ => by
  dsimp only at q1
  split at q1
  · cases r1 with
    | tup h1 h2 => exact ⟨_, rfl, ⟨_, ex_t S1.ex h1⟩, k _ _ F1 as1 ow1 _ _ g1 S1 (walked_tup h1 h2) q1⟩
  · exact q1.elim⟩
/-- a list of data, an owned list -/
def diLst (te : TX) : TId := fun sl ow R => te sl ow fun r ow1 => match r with
  | .d (.list ds) => R (ds.map Rv.d) iaTru ow1
  | .f ns => R (ns.map fun i => Rv.d (.int i)) iaTru ow1
  | .o n => ∃ xs, lstAt ow1 n = some xs ∧ R xs (fun ow2 => lstAt ow2 n = some xs) ow1
  | _ => False
theorem walked_sql {B : KB} {F : Hp} {as : AS} {a : Addr} {items : List Rv} {ok : OW → Prop} (h : ∀ (F' : Hp) (as' : AS) (ow : OW) (H : Hp), GrowW F as F' as' → Sat B F' as' ow H → ok ow → ∃ vs, SqL B.K H a vs ∧ Paired (RvOk B.K F' as') vs items) : Walked B F as (Itl B.K a) items ok := fun F' as' ow H g S ho => by
  obtain ⟨vs, hs, hp⟩ := h F' as' ow H g S ho
  refine ⟨fun i r hi => ?_, ⟨vs, hs, by rw [Paired.len2 hp]; exact Nat.le_refl _⟩⟩
  obtain ⟨v, hv, rv⟩ := Paired.get2 hp hi
  exact ⟨⟨vs, v, hs, hv⟩, fun x H' ⟨e, y⟩ => by
    subst e
    have := y vs hs
    rw [hv] at this
    cases this
    exact ⟨F', Grow.refl, S, rv⟩⟩
theorem walked_o {B : KB} {F : Hp} {as : AS} {a : Addr} {n : Nat} {xs : List Rv} (h1 : as.l[n]? = some a) : Walked B F as (Itl B.K a) xs (fun ow2 => lstAt ow2 n = some xs) := walked_sql fun F' as' ow H g S ho => by
  obtain ⟨_, vs, h2, h3⟩ := S.ob n a _ (g.get h1) (of_lstAt ho)
  exact ⟨vs, sq_of h2, h3⟩
theorem walked_l {B : KB} {F : Hp} {as : AS} {a : Addr} {vs : List V} {ds : List PyData} (h1 : F a = some (.lst vs)) (h2 : DdAll B.K F vs ds) : Walked B F as (Itl B.K a) (ds.map Rv.d) iaTru := walked_sql fun F' as' ow H g S _ =>
  ⟨vs, sq_of (S.ex _ _ (g.ex _ _ h1)), dd_rvs (DdAll.mono g.ex _ _ h2)⟩
theorem walked_f {B : KB} {F : Hp} {as : AS} {a : Addr} {ns : List Int} (h1 : SqL B.K F a (ns.map V.int)) : Walked B F as (Itl B.K a) (ns.map fun i => Rv.d (.int i)) iaTru := walked_sql fun F' as' ow H g S _ =>
  ⟨_, ex_l S.ex (ex_l g.ex h1), by rw [show ns.map (fun i => Rv.d (.int i)) = (ns.map PyData.int).map Rv.d by rw [List.map_map]; rfl]; exact dd_rvs (DdAll.ofInts _)⟩
theorem di_lst (h : DE X e te) : DI X tg e (diLst te) := ⟨_, pi_list pe_w, fun F as ow σ sl H R S L q W k => (h.run F as ow σ sl H _ S L q).mono fun v H1 ⟨F1, as1, r, ow1, g1, S1, r1, q1⟩ => by
  dsimp only at q1
  split at q1
  · cases r1 with
    | lst h1 h2 => exact ⟨_, rfl, ⟨_, sq_of (S1.ex _ _ h1)⟩, k _ _ F1 as1 ow1 _ _ g1 S1 (walked_l h1 h2) q1⟩
  · obtain ⟨a, rfl, h2⟩ := r1
    exact ⟨_, rfl, ⟨_, ex_l S1.ex h2⟩, k _ _ F1 as1 ow1 _ _ g1 S1 (walked_f h2) q1⟩
  · obtain ⟨xs, e1, q1⟩ := q1
    obtain ⟨a, h1, rfl⟩ := r1
    obtain ⟨_, vs, h2, h3⟩ := S1.ob _ a _ h1 (of_lstAt e1)
    exact ⟨a, rfl, ⟨_, sq_of h2⟩, k _ _ F1 as1 ow1 _ _ g1 S1 (walked_o h1) q1⟩
  · exact q1.elim⟩
/-- range(n), range(a, b) -/
def rangeR (lo : Int) (n : Nat) : List Rv := (List.range n).map fun (i : Nat) => Rv.d (.int (lo + (i : Int)))
theorem walked_rng {B : KB} {F : Hp} {as : AS} {lo : Int} {n : Nat} : Walked B F as (Itr lo n) (rangeR lo n) iaTru := fun F' as' ow H g S _ => by
  refine ⟨fun i r hi => ?_, by unfold rangeR; rw [List.length_map, List.length_range]; exact Nat.le_refl n⟩
  unfold rangeR at hi
  rw [List.getElem?_map] at hi
  obtain ⟨j, hj, rfl⟩ := Option.map_eq_some_iff.mp hi
  obtain ⟨hlt, e⟩ := List.getElem?_eq_some_iff.mp hj
  rw [List.getElem_range] at e
  subst e
  rw [List.length_range] at hlt
  exact ⟨hlt, fun x H' ⟨e1, e2⟩ => by
    subst e1 e2
    exact ⟨F', Grow.refl, S, .int _⟩⟩
def diRng1 (t : TXa) : TId := fun sl ow R => t sl ow fun rs ow1 => match rs with
  | [.d (.int n)] => -(2 ^ 62) ≤ n ∧ n < 2 ^ 62 ∧ R (rangeR 0 n.toNat) iaTru ow1
  | _ => False
theorem di_rng1 {p : Pos} (hg : Gl X "range") (hm : X.mg "range" = none) (ha : DA X [a] t) (hs : starEach [a] X.env = [(false, eval a X.env)] := by rfl) : DI X tg (.Call (.Name "range" p) [a] [] pos) (diRng1 t) := ⟨_, pi_range1 hg hm pa_w hs, fun F as ow σ sl H R S L q W k => (ha.run F as ow σ sl H _ S L q).mono fun vs H1 ⟨F1, as1, rs, ow1, g1, S1, r1, q1⟩ => by
  dsimp only at q1
  split at q1
  · obtain ⟨v, rfl, r⟩ := one_v r1
    cases r
    exact ⟨_, rfl, q1.1, q1.2.1, k _ _ F1 as1 ow1 _ _ g1 S1 walked_rng q1.2.2⟩
  · exact q1.elim⟩
def diRng2 (t : TXa) : TId := fun sl ow R => t sl ow fun rs ow1 => match rs with
  | [.d (.int lo), .d (.int n)] => (-(2 ^ 62) ≤ lo ∧ lo < 2 ^ 62 ∧ -(2 ^ 62) ≤ n ∧ n < 2 ^ 62) ∧ R (rangeR lo (n - lo).toNat) iaTru ow1
  | _ => False
theorem di_rng2 {p : Pos} (hg : Gl X "range") (hm : X.mg "range" = none) (ha : DA X [a, b] t) (hs : starEach [a, b] X.env = [(false, eval a X.env), (false, eval b X.env)] := by rfl) (hs2 : starEach [b] X.env = [(false, eval b X.env)] := by rfl) : DI X tg (.Call (.Name "range" p) [a, b] [] pos) (diRng2 t) := ⟨_, pi_range2 hg hm pa_w hs hs2, fun F as ow σ sl H R S L q W k => (ha.run F as ow σ sl H _ S L q).mono fun vs H1 ⟨F1, as1, rs, ow1, g1, S1, r1, q1⟩ => by
  dsimp only at q1
  split at q1
  · obtain ⟨v, w, rfl, r, r'⟩ := two_v r1
    cases r; cases r'
    exact ⟨_, _, rfl, q1.1, k _ _ F1 as1 ow1 _ _ g1 S1 walked_rng q1.2⟩
  · exact q1.elim⟩
/-- the signs of a text -/
def diStr (te : TX) : TId := fun sl ow R => te sl ow fun r ow1 => match r with
  | .d (.str s) => R (s.cps.toList.map fun c => Rv.d (.str ⟨#[c]⟩)) iaTru ow1
  | _ => False
theorem walked_str {B : KB} {F : Hp} {as : AS} {s : Str} : Walked B F as (Its s) (s.cps.toList.map fun c => Rv.d (.str ⟨#[c]⟩)) iaTru := fun F' as' ow H g S _ => by
  refine ⟨fun i r hi => ?_, by show s.cps.size ≤ _; rw [List.length_map, Array.length_toList]; exact Nat.le_refl _⟩
  rw [List.getElem?_map] at hi
  obtain ⟨c, hc, rfl⟩ := Option.map_eq_some_iff.mp hi
  have hlt : i < s.cps.size := by
    have := (List.getElem?_eq_some_iff.mp hc).1
    rwa [Array.length_toList] at this
  refine ⟨hlt, fun x H' ⟨e, c', hc', ex⟩ => ?_⟩
  subst e ex
  rw [Array.getElem?_toList] at hc
  rw [hc] at hc'
  cases hc'
  exact ⟨F', Grow.refl, S, .str _⟩
theorem di_str (h : DE X e te) : DI X tg e (diStr te) := ⟨_, pi_str pe_w, fun F as ow σ sl H R S L q W k => (h.run F as ow σ sl H _ S L q).mono fun v H1 ⟨F1, as1, r, ow1, g1, S1, r1, q1⟩ => by
  dsimp only at q1
  split at q1
  · cases r1
    exact ⟨_, rfl, k _ _ F1 as1 ow1 _ _ g1 S1 walked_str q1⟩
  · exact q1.elim⟩

/-! ### for -/
def dFor (ti : TId) (g : TGd) (tb : TM) : TM := fun D sl ow => ti sl ow fun items ok ow1 => ∃ I : Nat → SL → OW → Prop, I 0 sl ow1 ∧ (∀ i sl' ow', I i sl' ow' → ok ow') ∧
  (∀ i r sl' ow', items[i]? = some r → I i sl' ow' → g r sl' ow' fun sl2 ow2 => tb { D with nx := I (i + 1), ct := I (i + 1), bk := D.nx } sl2 ow2) ∧ ∀ sl' ow', I items.length sl' ow' → D.nx sl' ow'
theorem ds_for {ti : TId} {tb : TM} (hp : PassesOwn (model X.prog X.w) X.A X.env X.xe) (hc : X.calm = true) (hi : DI X tg iter ti) (hg : DG X tg g) (hb : DB X body tb) (hs : ∀ x, foldedSetIterable iter X.env x = pure x := by intro _; rfl) : DS X (.For tg iter body [] pos) (dFor ti g tb) := by
  obtain ⟨wi, pi, ki⟩ := hi.run
  refine ds_of (ps_for hp hc pi pg_w pss_w hs) fun F as ow σ sl H D S L q => ?_
  refine ki F as ow σ sl H _ S L q _ fun J H1 F1 as1 ow1 items ok g1 S1 wk ⟨I, i0, iok, istep, iend⟩ => ?_
  refine ⟨fun i m σ' H' => m = items.length - i ∧ i ≤ items.length ∧ ∃ F' as' sl' ow', Grow F1 as1 F' as' ∧ Sat X.kb F' as' ow' H' ∧ Sls X.K F' as' sl' σ' ∧ I i sl' ow', ⟨_, rfl, Nat.zero_le _, F1, as1, sl, ow1, Grow.refl, S1, L.mono g1, i0⟩, ?_⟩
  rintro i m σ' H' ⟨rfl, hle, F', as', sl', ow', g', S', L', hI⟩
  obtain ⟨w1, w2⟩ := wk F' as' ow' H' g'.gw S' (iok i sl' ow' hI)
  by_cases hlt : i < items.length
  · obtain ⟨hgo, hy⟩ := w1 i items[i] (List.getElem?_eq_getElem hlt)
    refine .inr ⟨hgo, PostS X.kb F1 as1 (I (i + 1)), fun σ2 H2 ⟨F2, as2, sl2, ow2, g2, S2, L2, q2⟩ => ⟨items.length - (i + 1), by omega, rfl, hlt, F2, as2, sl2, ow2, g2, S2, L2, q2⟩, fun x H2 y => ?_⟩
    obtain ⟨F2, g2, S2, r2⟩ := hy x H2 y
    refine (hg.run F2 as' ow' σ' sl' H2 x _ _ S2 (L'.mono g2) r2 (istep i _ sl' ow' (List.getElem?_eq_getElem hlt) hI)).mono fun σ3 H3 ⟨F3, as3, sl3, ow3, g3, S3, L3, q3⟩ => ?_
    have z := hb.run F3 as3 ow3 σ3 sl3 H3 _ S3 L3 q3
    have gg : Grow F1 as1 F3 as3 := (g'.trans g2).trans g3
    have gf : Grow F as F3 as3 := g1.trans gg
    refine z.mono (fun σ4 H4 ⟨F4, as4, sl4, ow4, g4, w⟩ => ⟨F4, as4, sl4, ow4, gg.trans g4, w⟩) (fun v H4 w => Post.trans gf w) (fun σ4 H4 ⟨F4, as4, sl4, ow4, g4, w⟩ => ⟨F4, as4, sl4, ow4, gf.trans g4, w⟩) (fun σ4 H4 ⟨F4, as4, sl4, ow4, g4, w⟩ => ⟨F4, as4, sl4, ow4, gg.trans g4, w⟩)
  · have e : i = items.length := by omega
    subst e
    exact .inl ⟨w2, F', as', sl', ow', g1.trans g', S', L', iend _ _ hI⟩
/-! ### while -/
def dWhile (t : TXb) (tb : TM) : TM := fun D sl ow => ∃ I : Nat → SL → OW → Prop, (∃ m, I m sl ow) ∧ ∀ m sl' ow', I m sl' ow' → t sl' ow' fun k ow1 => if k = true then ∃ N : SL → OW → Prop, (∀ sl2 ow2, N sl2 ow2 → ∃ m', m' < m ∧ I m' sl2 ow2) ∧ tb { D with nx := N, ct := N, bk := D.nx } sl' ow1 else D.nx sl' ow1
theorem ds_while {tb : TM} (hp : PassesOwn (model X.prog X.w) X.A X.env X.xe) (hc : DT X c A) (hb : DB X body tb) : DS X (.While c body [] pos) (dWhile A tb) := ds_of (ps_while hp pt_w pss_w) fun F as ow σ sl H D S L ⟨I, ⟨m0, i0⟩, st⟩ => by
  refine ⟨fun m σ' H' => PostS X.kb F as (I m) σ' H', ⟨m0, F, as, sl, ow, Grow.refl, S, L, i0⟩, fun m σ' H' ⟨F', as', sl', ow', g', S', L', hI⟩ => ?_⟩
  refine (hc.run F' as' ow' σ' sl' H' _ S' L' (st m sl' ow' hI)).mono fun k H1 ⟨F1, as1, ow1, g1, S1, q1⟩ => ?_
  have gg := g'.trans g1
  cases k with
  | true =>
    rw [if_pos rfl] at q1 ⊢
    obtain ⟨N, hN, q1⟩ := q1
    refine ⟨PostS X.kb F as N, fun σ2 H2 ⟨F2, as2, sl2, ow2, g2, S2, L2, q2⟩ => let ⟨m', hm, hI'⟩ := hN _ _ q2; ⟨m', hm, F2, as2, sl2, ow2, g2, S2, L2, hI'⟩, ?_⟩
    have z := hb.run F1 as1 ow1 σ' sl' H1 _ S1 (L'.mono g1) q1
    exact z.mono (fun σ4 H4 ⟨F4, as4, sl4, ow4, g4, w⟩ => ⟨F4, as4, sl4, ow4, gg.trans g4, w⟩) (fun v H4 w => Post.trans gg w) (fun σ4 H4 ⟨F4, as4, sl4, ow4, g4, w⟩ => ⟨F4, as4, sl4, ow4, gg.trans g4, w⟩) (fun σ4 H4 ⟨F4, as4, sl4, ow4, g4, w⟩ => ⟨F4, as4, sl4, ow4, gg.trans g4, w⟩)
  | false =>
    rw [if_neg Bool.false_ne_true] at q1 ⊢
    exact ⟨F1, as1, sl', ow1, gg, S1, L'.mono g1, q1⟩

/-! ### [e for x in xs if c] -/
def wipeD (sl : SL) : List Nat → SL
  | [] => sl
  | v :: vs => (wipeD sl vs).set v none
theorem wipe_sls {K : FG} {F : Hp} {as : AS} {sl : SL} {σ : L2.St} (L : Sls K F as sl σ) : ∀ vs : List Nat, Sls K F as (wipeD sl vs) (wipe σ vs)
  | [] => L
  | v :: vs => by
    have ih := wipe_sls L vs
    refine ⟨by unfold wipeD wipe; rw [List.length_set, List.length_set]; exact ih.ln, fun i r e => ?_⟩
    unfold wipeD at e
    unfold wipe
    by_cases hv : v = i
    · subst hv
      have hl := (List.getElem?_eq_some_iff.mp e).1
      rw [List.length_set] at hl
      rw [List.getElem?_set_self hl] at e
      cases e
    · rw [List.getElem?_set_ne hv] at e ⊢
      exact ih.at_ i r e
/-- the tests of a comprehension -/
def dYes : TXb := fun _ ow Q => Q true ow
inductive DTs (X : DX) (scope : Scope) : List Expr → TXb → Prop where
  | nil : DTs X scope [] dYes
  | one {c : Expr} {t : TXb} (h : ∀ (s : Shared) (H : Hp) (C : Addr) (cl : List (Str × Addr)) (fp : List Addr), DT (X.blk s H scope (compEnvC scope cl C X.env) fp) c t) : DTs X scope [c] t
/-- the readings of a comprehension's parts, in every block -/
def bT (X : DX) (scope : Scope) (e : Expr) : TT := fun σ H Q => ∀ (s : Shared) (H0 : Hp) (C : Addr) (cl : List (Str × Addr)) (fp : List Addr), wT (X.blk s H0 scope (compEnvC scope cl C X.env) fp) e σ H Q
def bE (X : DX) (scope : Scope) (e : Expr) : TE := fun σ H Q => ∀ (s : Shared) (H0 : Hp) (C : Addr) (cl : List (Str × Addr)) (fp : List Addr), wE (X.blk s H0 scope (compEnvC scope cl C X.env) fp) e σ H Q
theorem wipe_in {α : Type} : ∀ {vs : List Nat} {l : List (Option α)} {j : Nat} {x : Option α}, j ∈ vs → (vs.foldr (fun v l => l.set v none) (l.set j x)) = vs.foldr (fun v l => l.set v none) l
  | [], _, _, _, h => by simp at h
  | v :: vs, l, j, x, h => by
    rw [List.foldr_cons, List.foldr_cons]
    by_cases hj : j ∈ vs
    · rw [wipe_in hj]
    · have e : j = v := by
        rcases List.mem_cons.mp h with z | z
        · exact z
        · exact absurd z hj
      subst e
      refine List.ext_getElem? fun i => ?_
      by_cases hi : j = i
      · subst hi
        have ln : ∀ (vs : List Nat) (l : List (Option α)), (vs.foldr (fun v l => l.set v none) l).length = l.length := fun vs l => by
          induction vs with
          | nil => rfl
          | cons v vs ih => rw [List.foldr_cons, List.length_set, ih]
        by_cases hl : j < l.length
        · rw [List.getElem?_set_self (by rw [ln, List.length_set]; exact hl), List.getElem?_set_self (by rw [ln]; exact hl)]
        · rw [List.getElem?_eq_none (by rw [List.length_set, ln, List.length_set]; omega), List.getElem?_eq_none (by rw [List.length_set, ln]; omega)]
      · rw [List.getElem?_set_ne hi, List.getElem?_set_ne hi]
        clear h
        induction vs with
        | nil => rw [List.foldr_nil, List.foldr_nil, List.getElem?_set_ne hi]
        | cons w ws ih =>
          rw [List.foldr_cons, List.foldr_cons]
          have hw : j ≠ w := fun z => hj (by rw [z]; exact List.mem_cons_self)
          by_cases hi2 : w = i
          · subst hi2
            have ln : ∀ (vs : List Nat) (l : List (Option α)), (vs.foldr (fun v l => l.set v none) l).length = l.length := fun vs l => by
              induction vs with
              | nil => rfl
              | cons v vs ih => rw [List.foldr_cons, List.length_set, ih]
            by_cases hl : w < l.length
            · rw [List.getElem?_set_self (by rw [ln, List.length_set]; exact hl), List.getElem?_set_self (by rw [ln]; exact hl)]
            · rw [List.getElem?_eq_none (by rw [List.length_set, ln, List.length_set]; omega), List.getElem?_eq_none (by rw [List.length_set, ln]; omega)]
          · rw [List.getElem?_set_ne hi2, List.getElem?_set_ne hi2]
            exact ih fun z => hj (List.mem_cons_of_mem _ z)
theorem wipe_fold (σ : L2.St) : ∀ vs : List Nat, wipe σ vs = vs.foldr (fun v l => l.set v none) σ
  | [] => rfl
  | v :: vs => by
    unfold wipe
    rw [wipe_fold σ vs]
    rfl
theorem wipe_idem {α : Type} : ∀ (vs : List Nat) (l : List (Option α)), vs.foldr (fun v l => l.set v none) (vs.foldr (fun v l => l.set v none) l) = vs.foldr (fun v l => l.set v none) l := by
  have one : ∀ (us vs : List Nat) (l : List (Option α)), (∀ u ∈ us, u ∈ vs) → vs.foldr (fun v l => l.set v none) (us.foldr (fun v l => l.set v none) l) = vs.foldr (fun v l => l.set v none) l := by
    intro us
    induction us with
    | nil => intro vs l _; rfl
    | cons u us ih =>
      intro vs l h
      rw [List.foldr_cons, wipe_in (h u List.mem_cons_self)]
      exact ih vs l fun w hw => h w (List.mem_cons_of_mem _ hw)
  exact fun vs l => one vs vs l fun _ h => h
theorem wipe_set {σ : L2.St} {vs : List Nat} {j : Nat} {x : Option V} (h : j ∈ vs) : wipe ((wipe σ vs).set j x) vs = wipe σ vs := by
  rw [wipe_fold _ vs, wipe_in h, wipe_fold σ vs, wipe_idem]
def dLc (ti : TId) (j : Nat) (tt : TXb) (te : TX) (vs : List Nat) : TX := fun sl ow Q => ti sl ow fun items ok ow1 => ∃ I : Nat → List PyData → OW → Prop, I 0 [] ow1 ∧ (∀ i acc ow', I i acc ow' → ok ow' ∧ acc.length < sizeLine) ∧
  (∀ i r acc ow', items[i]? = some r → I i acc ow' → tt ((wipeD sl vs).set j (some r)) ow' fun k ow2 => if k = true then te ((wipeD sl vs).set j (some r)) ow2 fun y ow3 => (match y with
    | .d d => I (i + 1) (acc ++ [d]) ow3
    | _ => False) else I (i + 1) acc ow2) ∧ ∀ acc ow', I items.length acc ow' → Q (.d (.list acc)) ow'
def tTs (X : DX) (scope : Scope) : List Expr → TT
  | [] => tYes
  | c :: _ => bT X scope c
/-- one turn of a comprehension -/
theorem lc_run {scope : Scope} {ifs : List Expr} {ti : TId} {j : Nat} {tt : TXb} {te : TX} {vs : List Nat} {wi : TI} (hj : j ∈ vs)
    (ki : ∀ (F : Hp) (as : AS) (ow : OW) (σ : L2.St) (sl : SL) (H : Hp) (R : List Rv → (OW → Prop) → OW → Prop), Sat X.kb F as ow H → Sls X.K F as sl σ → ti sl ow R →
      ∀ W : It → Hp → Prop, (∀ J H1 F1 as1 ow1 items ok, Grow F as F1 as1 → Sat X.kb F1 as1 ow1 H1 → Walked X.kb F1 as1 J items ok → R items ok ow1 → W J H1) → wi σ H W)
    (ht : DTs X scope ifs tt)
    (he : ∀ (s : Shared) (H : Hp) (C : Addr) (cl : List (Str × Addr)) (fp : List Addr), DE (X.blk s H scope (compEnvC scope cl C X.env) fp) elt te)
    {F : Hp} {as : AS} {ow : OW} {σ : L2.St} {sl : SL} {H : Hp} {Q : QR} (S : Sat X.kb F as ow H) (L : Sls X.K F as sl σ) (q : dLc ti j tt te vs sl ow Q) {R : VK} (kR : ∀ v H', Post X.kb F as Q v H' → R v H') :
    tLc wi (gName j) (tTs X scope ifs) (bE X scope elt) vs σ H R := by
  refine ki F as ow σ sl H _ S L q _ fun J H1 F1 as1 ow1 items ok g1 S1 wk ⟨I, i0, iok, istep, iend⟩ => ?_
  intro D hD
  have rD : as1.R D = none := by
    cases e : as1.R D with
    | none => rfl
    | some o =>
      have := (S1.rr D o e).1
      rw [hD] at this
      cases this
  have rB : X.kb.A.R D = none := by
    cases e : X.kb.A.R D with
    | none => rfl
    | some o =>
      have := S1.gw.rr D o e
      rw [rD] at this
      cases this
  refine ⟨fun i m H' => m = items.length - i ∧ i ≤ items.length ∧ ∃ F' as' acc us ow', GrowW F1 as1 F' as' ∧ as' = as'.side (upd as1.R D (.lst us)) ∧ Sat X.kb F' as' ow' H' ∧ DdAll X.K F' us acc ∧ I i acc ow', ⟨_, rfl, Nat.zero_le _, F1, _, [], [], ow1, side_w, rfl, S1.aside hD, .nil, i0⟩, ?_⟩
  rintro i m H' ⟨rfl, hle, F', as', acc, us, ow', g', eas, S', dd, hI⟩
  obtain ⟨w1, w2⟩ := wk F' as' ow' H' g' S' (iok i acc ow' hI).1
  by_cases hlt : i < items.length
  · obtain ⟨hgo, hy⟩ := w1 i items[i] (List.getElem?_eq_getElem hlt)
    refine .inr ⟨hgo, fun H2 => ∃ F' as' acc us ow', GrowW F1 as1 F' as' ∧ as' = as'.side (upd as1.R D (.lst us)) ∧ Sat X.kb F' as' ow' H2 ∧ DdAll X.K F' us acc ∧ I (i + 1) acc ow', fun H2 z => ⟨items.length - (i + 1), by omega, rfl, hlt, z⟩, fun x H2 y => ?_⟩
    obtain ⟨F2, g2, S2, r2⟩ := hy x H2 y
    have L2' : Sls X.K F2 as' ((wipeD sl vs).set j (some items[i])) ((wipe σ vs).set j (some x)) := ((wipe_sls (L.monoW (g1.gw.trans g')) vs).mono g2).set r2 j
    refine ⟨wipe_set hj, ?_⟩
    have st := istep i _ acc ow' (List.getElem?_eq_getElem hlt) hI
    -- the element, where the test has said yes
    have elt' : ∀ (F3 : Hp) (as3 : AS) (ow3 : OW) (H3 : Hp), Grow F2 as' F3 as3 → Sat X.kb F3 as3 ow3 H3 → (te ((wipeD sl vs).set j (some items[i])) ow3 fun y ow4 => (match y with
        | .d d => I (i + 1) (acc ++ [d]) ow4
        | _ => False)) → bE X scope elt ((wipe σ vs).set j (some x)) H3 fun y H4 => ∃ acc', H4 D = some (.lst acc') ∧ acc'.length < sizeLine ∧ ∃ F' as' acc us ow', GrowW F1 as1 F' as' ∧ as' = as'.side (upd as1.R D (.lst us)) ∧ Sat X.kb F' as' ow' (upd H4 D (.lst (acc' ++ [y]))) ∧ DdAll X.K F' us acc ∧ I (i + 1) acc ow' := fun F3 as3 ow3 H3 g3 S3 q3 s0 H0 C cl fp => by
      refine wE.mono ((he s0 H0 C cl fp).run F3 as3 ow3 _ _ H3 _ S3 (L2'.mono g3) q3) fun v H4 ⟨F4, as4, r, ow4, g4, S4, r4, q4⟩ => ?_
      dsimp only at q4
      split at q4
      · rename_i d
        have eR : Ex (upd as1.R D (.lst us)) as4.R := by
          have z := g2.rr.trans (g3.rr.trans g4.rr)
          rw [eas] at z
          exact z
        have hD4 : H4 D = some (.lst us) := (S4.rr D _ (eR D _ upd_same)).1
        have gg : GrowW F1 as1 F4 as4 := g'.trans ((g2.trans g3).trans g4).gw
        have S4' : Sat X.kb F4 (as4.side (upd as1.R D (.lst us))) ow4 H4 := S4.dropR eR (S1.gw.rr.trans (Ex.new rD))
        refine ⟨us, hD4, by rw [dd.len]; exact (iok i acc ow' hI).2, F4, as4.side (upd as1.R D (.lst (us ++ [v]))), acc ++ [d], us ++ [v], ow4, gg.trans side_w, rfl, S4'.asideW rB, (DdAll.mono ((g2.trans g3).trans g4).ex _ _ dd).snoc r4, q4⟩
      · exact q4.elim
    have no : ∀ (F3 : Hp) (as3 : AS) (ow3 : OW) (H3 : Hp), Grow F2 as' F3 as3 → Sat X.kb F3 as3 ow3 H3 → I (i + 1) acc ow3 → ∃ F' as' acc us ow', GrowW F1 as1 F' as' ∧ as' = as'.side (upd as1.R D (.lst us)) ∧ Sat X.kb F' as' ow' H3 ∧ DdAll X.K F' us acc ∧ I (i + 1) acc ow' := fun F3 as3 ow3 H3 g3 S3 q3 => by
      have eR : Ex (upd as1.R D (.lst us)) as3.R := by
        have z := g2.rr.trans g3.rr
        rw [eas] at z
        exact z
      exact ⟨F3, as3.side (upd as1.R D (.lst us)), acc, us, ow3, (g'.trans (g2.trans g3).gw).trans side_w, rfl, S3.dropR eR (S1.gw.rr.trans (Ex.new rD)), DdAll.mono (g2.trans g3).ex _ _ dd, q3⟩
    cases ht with
    | nil =>
      unfold tTs tYes
      dsimp only
      rw [if_pos rfl]
      unfold dYes at st
      dsimp only at st
      rw [if_pos rfl] at st
      exact elt' F2 as' ow' H2 Grow.refl S2 st
    | one hc =>
      intro s0 H0 C cl fp
      refine wT.mono ((hc s0 H0 C cl fp).run F2 as' ow' _ _ H2 _ S2 L2' st) fun k H3 ⟨F3, as3, ow3, g3, S3, q3⟩ => ?_
      cases k with
      | true =>
        rw [if_pos rfl] at q3 ⊢
        exact elt' F3 as3 ow3 H3 g3 S3 q3
      | false =>
        rw [if_neg Bool.false_ne_true] at q3 ⊢
        exact no F3 as3 ow3 H3 g3 S3 q3
  · have e : i = items.length := by omega
    subst e
    refine .inl ⟨w2, ?_⟩
    have S4' : Sat X.kb F' (as'.side (upd as1.R D (.lst us))) ow' H' := by rw [← eas]; exact S'
    have S5 := S4'.unside rB rD
    have fD : F' D = none := (S4'.rr D _ upd_same).2.1
    have gr : Grow F1 as1 (upd F' D (.lst us)) (as'.side as1.R) := ⟨g'.ex.trans (Ex.new fD), g'.ap, Ex.refl _⟩
    exact kR _ _ ⟨_, _, .d (.list acc), ow', g1.trans gr, S5, .lst upd_same (DdAll.mono (Ex.new fD) _ _ dd), iend _ _ hI⟩
theorem pts_b {scope : Scope} {c : Expr} (s : Shared) (H : Hp) (C : Addr) (cl : List (Str × Addr)) (fp : List Addr) : PTs (X.blk s H scope (compEnvC scope cl C X.env) fp) [c] (tTs X scope [c]) :=
  pts_one ⟨fun pins s' σ H' Q I h => h s H C cl fp pins s' I⟩
theorem pts_b0 {scope : Scope} (s : Shared) (H : Hp) (C : Addr) (cl : List (Str × Addr)) (fp : List Addr) : PTs (X.blk s H scope (compEnvC scope cl C X.env) fp) [] (tTs X scope []) := pts_nil
/-- [e for x in xs if c]; i: x's slot -/
theorem de_lc {x : Str} {px : Pos} {ifs : List Expr} {scope : Scope} {own : List (Str × Nat)} {ti : TId} {i : Nat} {tt : TXb} (m : Cm X) (hN : X.N.Nodup) (ok : BlkOk X.N X.env.scope scope own) (hin : i ∈ own.map (·.2)) (hi : DI X (.Name x px) iter ti)
    (hg : ∀ (s : Shared) (H : Hp) (C : Addr) (cl : List (Str × Addr)) (fp : List Addr), PG (X.blk s H scope (compEnvC scope cl C X.env) fp) (.Name x px) (gName i))
    (ht : DTs X scope ifs tt)
    (he : ∀ (s : Shared) (H : Hp) (C : Addr) (cl : List (Str × Addr)) (fp : List Addr), DE (X.blk s H scope (compEnvC scope cl C X.env) fp) elt te) (hs : ∀ x, foldedSetIterable iter X.env x = pure x := by intro _; rfl) :
    DE X (.ListComp elt [⟨.Name x px, iter, ifs, 0⟩] scope pos) (dLc ti i tt te (own.map (·.2))) := by
  obtain ⟨wi, pi, ki⟩ := hi.run
  refine de_of (te' := tLc wi (gName i) (tTs X scope ifs) (bE X scope elt) (own.map (·.2))) (pe_lc m.calm hN pi ok hg (fun s H C cl fp => ?_) (fun s H C cl fp => ⟨fun pins s' σ H' Q I h => h s H C cl fp pins s' I⟩) hs) fun F as ow σ sl H Q S L q => lc_run hin ki ht he S L q fun _ _ z => z
  cases ht with
  | nil => exact pts_b0 s H C cl fp
  | one _ => exact pts_b s H C cl fp
/-- y = [..] on one line -/
theorem ds_lc {k : Nat} {y : Str} {py spos : Pos} {x : Str} {px : Pos} {ifs : List Expr} {scope : Scope} {own : List (Str × Nat)} {ti : TId} {i : Nat} {tt : TXb} (m : Cm X) (hN : X.N.Nodup) (hy : X.N[k]? = some y) (hyl : X.env.scope.names.lookup y = some .local)
    (hsw : swapsWith (.ListComp elt [⟨.Name x px, iter, ifs, 0⟩] scope pos) (some (.Name y py)) spos.line X.env = pure true) (ok : BlkOk X.N X.env.scope scope own) (hin : i ∈ own.map (·.2)) (hi : DI X (.Name x px) iter ti)
    (hg : ∀ (s : Shared) (H : Hp) (C : Addr) (cl : List (Str × Addr)) (fp : List Addr), PG (X.blk s H scope (compEnvC scope cl C X.env) fp) (.Name x px) (gName i))
    (ht : DTs X scope ifs tt)
    (he : ∀ (s : Shared) (H : Hp) (C : Addr) (cl : List (Str × Addr)) (fp : List Addr), DE (X.blk s H scope (compEnvC scope cl C X.env) fp) elt te) (hs : ∀ x, foldedSetIterable iter X.env x = pure x := by intro _; rfl) :
    DS X (.Assign [.Name y py] (.ListComp elt [⟨.Name x px, iter, ifs, 0⟩] scope pos) spos) (dSet k (dLc ti i tt te (own.map (·.2)))) := by
  obtain ⟨wi, pi, ki⟩ := hi.run
  refine ds_of (t' := tAsg (tLc wi (gName i) (tTs X scope ifs) (bE X scope elt) (own.map (·.2))) (gName k)) (ps_setLc m.calm hN hy hyl hsw pi ok hg (fun s H C cl fp => ?_) (fun s H C cl fp => ⟨fun pins s' σ H' Q I h => h s H C cl fp pins s' I⟩) hs) fun F as ow σ sl H D S L q => ?_
  · cases ht with
    | nil => exact pts_b0 s H C cl fp
    | one _ => exact pts_b s H C cl fp
  · exact (lc_run hin ki ht he S L q fun v H1 ⟨F1, as1, r, ow1, g1, S1, r1, q1⟩ => ⟨F1, as1, _, ow1, g1, S1, (L.mono g1).set r1 k, q1⟩)
end
end DL
end
section
set_option Elab.async false
set_option linter.all false
set_option maxRecDepth 100000
set_option maxHeartbeats 1000000
/-! DL 5: t[::-1] of a tuple; repr -/
namespace HT
open PySem PySem.Spec PyProof.Rows L2
section
variable {prog : Program} {w : World} {A : Around} {E : Value → Shared → Prop} {s : Shared}
theorem sliceApplied_rev {sl : Addr} {vs : Value} {n : Nat} {Q : Int × Int × Nat → Shared → Prop} (hs : s.heap.IsSliceOf sl .none .none vs) (ps : IsPart vs (some (-1)))
    (h : Q ((n : Int) - 1, -1, n) s) : wpAny (model prog w) A (Builtin.Slice.sliceApplied (.ref sl) (pure (n : Int))) Q E s := by
  obtain ⟨os, hos, hcs, hds⟩ := id hs
  unfold Builtin.Slice.sliceApplied Builtin.Slice.sliceFields
  refine wpAny_bind (wpAny_bind (wpAny_field hos hds (x := .none) rfl (wpAny_bind (wpAny_field hos hds (x := .none) rfl (wpAny_bind (wpAny_field hos hds (x := vs) rfl (wpAny_pure ?_)))))))
  refine wpAny_bind (slicePart_ ps ?_)
  show wpAny _ _ (if ((-1 : Int) == 0) = true then _ else _) _ _ s
  rw [if_neg (by decide)]
  refine wpAny_bind (slicePart_none (wpAny_bind (slicePart_none (wpAny_bind (wpAny_pure ?_)))))
  show wpAny _ _ (pure ((n : Int) - 1, (-1 : Int), Builtin.Slice.slicePlaces ((n : Int) - 1) (-1) (-1))) _ _ s
  have e : Builtin.Slice.slicePlaces ((n : Int) - 1) (-1) (-1) = n := by
    unfold Builtin.Slice.slicePlaces
    rw [if_neg (by decide)]
    by_cases hn : n = 0
    · subst hn
      rw [if_neg (by omega)]
      rfl
    · rw [if_pos (by omega)]
      have : ((n : Int) - 1 - -1 - 1) / (- -1) + 1 = n := by
        rw [show (- -1 : Int) = 1 from rfl, Int.ediv_one]
        omega
      rw [this]
      exact Int.toNat_natCast n
  rw [e]
  exact wpAny_pure h
theorem pick_rev (xs : Array Value) : ((List.range xs.size).filterMap fun (k : Nat) => xs[((xs.size : Int) - 1 + (k : Int) * -1).toNat]?) = xs.toList.reverse := by
  have key : ∀ (m : Nat) (f : Nat → Option Value) (l : List Value), l.length = m → (∀ k, k < m → f k = l[k]?) → (List.range m).filterMap f = l := by
    intro m f l hl hf
    have e1 : (List.range m).map f = l.map some := by
      refine List.ext_getElem? fun i => ?_
      rw [List.getElem?_map, List.getElem?_map]
      by_cases hi : i < m
      · rw [List.getElem?_range hi, Option.map_some, hf i hi, List.getElem?_eq_getElem (by omega)]
        rfl
      · rw [List.getElem?_eq_none (by rw [List.length_range]; omega), List.getElem?_eq_none (by omega)]
        rfl
    have e2 : (List.range m).filterMap f = ((List.range m).map f).filterMap id := by rw [List.filterMap_map]; rfl
    rw [e2, e1, List.filterMap_map]
    exact List.filterMap_some
  refine key _ _ _ (by simp) fun k hk => ?_
  have e : ((xs.size : Int) - 1 + (k : Int) * -1).toNat = xs.size - 1 - k := by omega
  rw [e, List.getElem?_reverse (by simpa using hk), Array.length_toList, Array.getElem?_toList]
theorem getItem_tuple_rev {t sl : Addr} {items : Array Value} {vs : Value} {Q : Value → Shared → Prop} (ht : IsTup s.heap t items) (hs : s.heap.IsSliceOf sl .none .none vs) (ps : IsPart vs (some (-1)))
    (h : Q (.ref s.heap.objs.size) { s with heap := s.heap.push { cls := .type "tuple", data := .seq items.toList.reverse.toArray } })
    (hsz : items.size ≤ sizeLine) : wpAny (model prog w) A (getItem (.ref t) (.ref sl)) Q E s := by
  have htake : sizeOk (.seq items.toList.reverse.toArray) := by
    show items.toList.reverse.toArray.size ≤ sizeLine
    rw [List.size_toArray, List.length_reverse, Array.length_toList]
    exact hsz
  obtain ⟨os, hos, hcs, hds⟩ := id hs
  have hTs : s.TypeIs (.ref sl) "slice" := ⟨os, hos, hcs⟩
  unfold getItem
  try with_reducible refine wpAny_holding ?_
  first | refine wpAny_bind (wpAny_pure ?_) | skip
  refine wpAny_bind (wpAny_sequenceKey ht.typeIs (by decide) ?_)
  refine wpAny_bind (wpAny_callSpecial?_slot (name := Str.ofString "__getitem__") ht.typeIs PyProof.Rows.slot_tuple_getitem
    (wpAny_call_entry PyProof.Rows.slot_tuple_getitem ht.typeIs entry_tuple_getitem ?_ (args_tuple_getitem _ _)))
  show wpAny _ _ (Builtin.Tuple.tupleItemsOf (.ref t) >>= _) _ _ s
  refine wpAny_bind (tupleItemsOf_ ht ?_)
  refine wpAny_bind (wpAny_typeOf hTs ?_)
  rw [if_pos (by decide)]
  refine wpAny_bind (sliceApplied_rev hs ps ?_)
  have hno : ¬ ((((items.size : Int) - 1) == 0 && (-1 : Int) == 1 && items.size == items.size) = true) := by
    intro q
    rw [Bool.and_eq_true, Bool.and_eq_true] at q
    exact absurd q.1.2 (by decide)
  show wpAny _ _ (if (((items.size : Int) - 1) == 0 && (-1 : Int) == 1 && items.size == items.size) = true then _ else _) _ _ s
  rw [if_neg hno, pick_rev]
  first
    | exact wpAny_bind (m := Builtin.Tuple.tupleExact _) (wpAny_newObj_type (wpAny_pure ⟨_, rfl, wpAny_pure h⟩) htake)
    | exact wpAny_bind (m := Builtin.Tuple.tupleExact _) (wpAny_newObj_type (wpAny_bind (wpAny_pure (wpAny_pure ⟨_, rfl, wpAny_pure h⟩))) htake)
    | exact wpAny_bind (wpAny_bind (m := Builtin.Tuple.tupleExact _) (wpAny_newObj_type (wpAny_pure (wpAny_pure ⟨_, rfl, wpAny_pure h⟩)) htake))
    | exact wpAny_bind (wpAny_bind (m := Builtin.Tuple.tupleExact _) (wpAny_newObj_type (wpAny_pure ⟨_, rfl, wpAny_pure h⟩) htake))
end
end HT
namespace DL
open PySem PySem.Spec PyProof.Rows L2 Evl
/-- t[::-1] of a tuple -/
def tRevA (K : FG) (te : TE) : TE := fun σ H Q => te σ H fun x H1 => ∃ a xs, x = .ref a ∧ SqT K H1 a xs ∧ ∀ p, H1 p = none → Q (.ref p) (upd H1 p (.tup xs.reverse))
theorem pe_revA {X : Cx} {e : Expr} {te : TE} {k : Nat} {p1 p2 p3 pos : Pos} (he : PE X e te) : PE X (.Subscript e (.Slice none none (some (.UnaryOp .USub (.Constant (.int 1) k p1) p2)) p3) pos) (tRevA X.K te) := by
  refine ⟨fun pins s σ H Q I h => ?_⟩
  refine Subscript_ (thn (he.run pins s σ H _ I h) fun v s1 ⟨x, H1, I1, r1, q1⟩ => ?_)
  obtain ⟨a, xs, ex, hx, q⟩ := q1
  subst ex
  cases r1
  have hst : PO X (some (.UnaryOp .USub (.Constant (.int 1) k p1) p2)) (tPart (tUn (rU fun i => .int (-i)) (tC (.int 1)))) := po_some (pe_un un_neg pe_int)
  refine wpAny_Slice (thn (po_none.run pins s1 σ H1 (fun o H2 => o = none ∧ H2 = H1) I1 ⟨rfl, rfl⟩) fun vl s2 ⟨l, H2, I2, pl, el, e2⟩ => ?_)
  subst el e2
  refine thn (po_none.run pins s2 σ H2 (fun o H3 => o = none ∧ H3 = H2) I2 ⟨rfl, rfl⟩) fun vu s3 ⟨u, H3, I3, pu, eu, e3⟩ => ?_
  subst eu e3
  refine thn (hst.run pins s3 σ H3 (fun o H4 => o = some (-1) ∧ H4 = H3) I3 ⟨1, rfl, -1, rfl, rfl, rfl⟩) fun vs s4 ⟨o, H4, I4, ps, eo, e4⟩ => ?_
  subst eo e4
  have I5 : Inv X pins σ H4 { s4 with heap := s4.heap.push { cls := .type "slice", data := .fields #[vl, vu, vs] } } := I4.kept (t' := s4.toks) fun b ob q => Heap.get?_push_of_some _ q
  obtain ⟨its, r, ht, hz⟩ := I5.tuple hx
  have hlen := r.length
  cases pl
  cases pu
  show wpAny (model X.prog X.w) X.A (subscriptTail e (.Slice none none (some (.UnaryOp .USub (.Constant (.int 1) k p1) p2)) p3) (.ref a) (.ref s4.heap.objs.size)) (EP X pins σ Q) X.xe { s4 with heap := s4.heap.push { cls := .type "slice", data := .fields #[.none, .none, vs] } }
  refine tail_any (ops := [.ref a, .ref s4.heap.objs.size]) ht.typeIs (PyProof.Rows.slot_tuple_getitem.lookup) ?_ (by with_unfolding_all rfl)
  refine HT.getItem_tuple_rev ht (Heap.IsSliceOf.new _ .none .none vs) ps ?_ (by rw [List.size_toArray]; omega)
  refine ⟨.ref _, _, I5.laid (t' := s4.toks) (o := .tup xs.reverse) (fun b ob q => Heap.get?_push_of_some _ q) (Nat.le_refl _) ?_, rfl, q _ (I5.hok.fresh (Nat.le_refl _))⟩
  exact ⟨by rw [List.length_reverse]; exact hz, its.reverse, r.reverse, _, Heap.get?_push_size _ rfl, rfl, 0, rfl⟩
section
variable {X : DX} {e : Expr} {te : TX} {pos : Pos}
def dRevA (te : TX) : TX := fun sl ow Q => te sl ow fun x ow1 => match x with
  | .d (.tuple ds) => Q (.d (.tuple ds.reverse)) ow1
  | _ => False
theorem de_revA {k : Nat} {p1 p2 p3 : Pos} (h : DE X e te) : DE X (.Subscript e (.Slice none none (some (.UnaryOp .USub (.Constant (.int 1) k p1) p2)) p3) pos) (dRevA te) := de_of (pe_revA pe_w) fun F as ow σ sl H Q S L q =>
  (h.run F as ow σ sl H _ S L q).mono fun v H1 ⟨F1, as1, r, ow1, g1, S1, r1, q1⟩ => by
    dsimp only at q1
    split at q1
    · cases r1 with
      | tup h1 h2 => exact ⟨_, _, rfl, ex_t S1.ex h1, fun p hp => post_tup g1 S1 hp h2.rev q1⟩
    · exact q1.elim

/-! ### repr -/
def refD : PyData → Bool
  | .list _ => true
  | .tuple _ => true
  | _ => false
@[irreducible] def rReprF : List Rv → OW → QR → Prop := fun xs ow Q => match xs with
  | [x] => ∃ d, dataOf x ow = some d ∧ refD d = true ∧ d.showable = true ∧ d.hasDict = false ∧ d.shown.length ≤ sizeLine ∧ d.depth < 100 ∧ Q (.d (.str d.shown)) ow
  | _ => False
theorem cr_repr {X : Cx} (m : Cm X) (gd : X.A.guards = some []) : CallR X (.builtin "repr") (fun xs H Q => ∃ v d, xs = [v] ∧ Dp X.K H v d ∧ (∃ a, v = .ref a) ∧ d.showable = true ∧ d.hasDict = false ∧ d.shown.length ≤ sizeLine ∧ d.depth < 100 ∧ Q (.str d.shown) H) := by
  intro pins s σ H xs us Q I r h
  obtain ⟨v, d, rfl, hd, ⟨a, rfl⟩, h1, h2, h3, h4, q⟩ := h
  rw [Vals.ref1 r]
  obtain ⟨as, hr⟩ := Dp.reads I d _ _ hd (show RelV (.ref a) (.ref a) from rfl)
  exact repr_of_reads' (h₀ := s.heap) hr h1 (fun z => by rw [h2] at z; cases z) gd (by have := m.un; omega) (fun _ _ e => e) (fun h' u tk hk => ⟨.str d.shown, H, I.kept hk, ⟨_, rfl⟩, q⟩) h3
theorem bc_repr : BearsC X (fun xs H Q => ∃ v d, xs = [v] ∧ Dp X.K H v d ∧ (∃ a, v = .ref a) ∧ d.showable = true ∧ d.hasDict = false ∧ d.shown.length ≤ sizeLine ∧ d.depth < 100 ∧ Q (.str d.shown) H) rReprF := fun F0 as0 F as ow H vs xs Q g S hv q => by
  unfold rReprF at q
  split at q
  · obtain ⟨v, rfl, r⟩ := one_v hv
    obtain ⟨d, e1, e2, h1, h2, h3, h4, q⟩ := q
    have hd := data_ok S r e1
    refine ⟨v, d, rfl, hd, ?_, h1, h2, h3, h4, post_d g S (.str _) q⟩
    cases hd <;> first | exact ⟨_, rfl⟩ | (simp [refD] at e2)
  · exact q.elim
theorem de_repr {p : Pos} {t : TXa} (m : Cm X) (gd : X.A.guards = some []) (hg : Gl X "repr") (hm : X.mg "repr" = none) (ha : DA X [e] t) (hv : bootBuiltins "repr" = some (.builtin "repr") := by decide +kernel) (he : starEach [e] X.env = (false, eval e X.env) :: starEach [] X.env := by rfl) (hpl : (backTo pos (starEach [] X.env)).any (·.1) = false := by rfl) : DE X (.Call (.Name "repr" p) [e] [] pos) (dCB rReprF t) := de_callB (cr_repr m gd) bc_repr hg hm hv ha (he := he) (hpl := hpl)
end
end DL
end
section
set_option Elab.async false
set_option linter.all false
set_option maxRecDepth 100000
set_option maxHeartbeats 1600000
/-! DL 6: sets of texts: set(xs), len, sorted -/
namespace TX
open PySem PySem.Spec PyProof.Rows L2
def keyS (e : Int × Value) : Str := match e.2 with | .str x _ => x | _ => Str.empty
def GoodS (w : World) (e : Int × Value) : Prop := ∃ x tk, e.2 = Value.str x tk ∧ e.1 = hashStr w x
/-- the set of texts at a: S its members, n their number -/
def SetX (w : World) (h : Heap) (a : Addr) (S : Str → Bool) (n : Nat) : Prop :=
  ∃ o es ep t, h.get? a = some o ∧ o.ExactSet ∧ o.data = .set es ep t ∧ (∀ e ∈ es.toList, GoodS w e) ∧ (es.toList.map keyS).Nodup ∧ (∀ k, S k = true ↔ k ∈ es.toList.map keyS) ∧
    es.size < scanBound ∧ t.fits es.size = true ∧ es.size = n ∧ Ris t.place.toList ∧ (w.params.followText "set-order" = true ∨ t.led = true)
section
variable {P : Program} {w : World} {h h' : Heap} {a : Addr} {S : Str → Bool} {n : Nat}
theorem SetX.at (R : SetX w h a S n) (k : ∀ o, h.get? a = some o → h'.get? a = some o) : SetX w h' a S n := by
  obtain ⟨o, es, ep, t, ho, r⟩ := R
  exact ⟨o, es, ep, t, k o ho, r⟩
theorem SetX.congr {S' : Str → Bool} {n' : Nat} (R : SetX w h a S n) (e : ∀ k, S' k = S k) (en : n' = n) : SetX w h a S' n' := by
  have q : S' = S := funext e
  rw [q, en]; exact R
theorem good_elems {l : List (Int × Value)} (g : ∀ e ∈ l, GoodS w e) : ElemsOf (strKind P w) l := fun e he => by
  obtain ⟨k, tk, h1, h2⟩ := g e he
  exact ⟨⟨k, by rw [h1]; exact strKind_is P w k tk, h2⟩, by rw [h1] <;> rfl⟩
theorem good_is {e : Int × Value} (g : GoodS w e) (k : Str) : (strKind P w).is k e.2 = true ↔ keyS e = k := by
  obtain ⟨k0, tk, h1, _⟩ := g
  unfold keyS
  rw [h1]
  show (Value.isStrOf k (.str k0 tk) = true) ↔ k0 = k
  simp [Value.isStrOf]
theorem good_mem {l : List (Int × Value)} (g : ∀ e ∈ l, GoodS w e) (k : Str) : k ∈ l.map keyS ↔ ∃ e ∈ l, (strKind P w).is k e.2 = true := by
  rw [List.mem_map]
  constructor
  · rintro ⟨e, he, q⟩
    exact ⟨e, he, (good_is (g e he) k).2 q⟩
  · rintro ⟨e, he, q⟩
    exact ⟨e, he, (good_is (g e he) k).1 q⟩
theorem SetX.setOf (R : SetX w h a S n) : h.SetOf (strKind P w) a S n := by
  obtain ⟨o, es, ep, t, ho, hx, hd, g, nd, hm, hb, hf, hn, _⟩ := R
  exact ⟨o, es, ep, t, ho, hx, hd, good_elems g, fun k => (hm k).trans (good_mem g k), hb, hf, hn⟩
end
section
variable {P : Program} {w : World} {A : Around} {E : Value → Shared → Prop} {s : Shared} {a : Addr} {S : Str → Bool} {n : Nat}
theorem add_tail {g : Bool → Sem Unit} (hg : ∀ (b : Bool) (s₁ : Shared) (Q' : Unit → Shared → Prop), Q' () s₁ → wpAny (model P w) A (g b) Q' E s₁)
    {o : Obj} {es : Array (Int × Value)} {ep : Nat} {t : SetTable} (ho : s.heap.get? a = some o) (hex : o.ExactSet) (hd : o.data = .set es ep t)
    {es1 : Array (Int × Value)} {t2 : SetTable} {S' : Str → Bool} (g1 : ∀ e ∈ es1.toList, GoodS w e) (nd1 : (es1.toList.map keyS).Nodup) (m1 : ∀ k, S' k = true ↔ k ∈ es1.toList.map keyS)
    (hb1 : es1.size < scanBound) (hf2 : t2.fits es1.size = true) (hr : Ris t2.place.toList) (hl : w.params.followText "set-order" = true ∨ t2.led = true) {wasDummy : Bool} {R : Option Bool → Shared → Prop}
    (hR : ∀ h', Heap.SameBut a s.heap h' → SetX w h' a S' es1.size → R (some true) { s with heap := h' }) :
    wpAny (model P w) A (do
        storeSet a es1 t2
        if (!wasDummy && t2.tooFull) = true then do
            g (relayAll t2 es1 (SetTable.grown es1.size)).2.2
            storeSet a (relayAll t2 es1 (SetTable.grown es1.size)).1 (relayAll t2 es1 (SetTable.grown es1.size)).2.1
            pure (some true)
          else pure (some true)) R E s := by
  refine wpAny_bind (wpAny_storeSet_of ho hd ?_ (fits_of_scanBound hb1))
  have ho1 := store_at (es' := es1) (t' := t2) ho hd
  have sb1 := Heap.SameBut.update s.heap a (Obj.putSet es1 t2)
  split
  · have pm := relayAll_perm t2 es1 (SetTable.grown es1.size)
    have hf3 := relayAll_fits t2 es1 (SetTable.grown es1.size)
    have hr3 := relayAll_ris t2 es1 (SetTable.grown es1.size)
    have hl3 := relayAll_led t2 es1 (SetTable.grown es1.size)
    generalize relayAll t2 es1 (SetTable.grown es1.size) = Z at pm hf3 hr3 hl3 ⊢
    obtain ⟨es2, t3, gave⟩ := Z
    dsimp only at pm hf3 hr3 hl3 ⊢
    have hsz : es2.size = es1.size := by rw [← Array.length_toList, pm.length_eq, Array.length_toList]
    have hb2 : es2.size < scanBound := by rw [hsz]; exact hb1
    refine wpAny_bind (hg _ _ _ ?_)
    refine wpAny_bind (wpAny_storeSet_of ho1 rfl ?_ (fits_of_scanBound hb2))
    have ho2 := store_at (es' := es2) (t' := t3) ho1 rfl
    refine wpAny_pure (hR _ (sb1.trans (Heap.SameBut.update _ a _)) ?_)
    exact ⟨_, es2, _, t3, ho2, hex, rfl, fun e he => g1 e (pm.mem_iff.mp he), (pm.map keyS).nodup_iff.mpr nd1, fun k => (m1 k).trans (pm.map keyS).mem_iff.symm, hb2, hf3, hsz, hr3,
      hl.imp id fun z => by rw [hl3]; exact z⟩
  · exact wpAny_pure (hR _ sb1 ⟨_, es1, _, t2, ho1, hex, rfl, g1, nd1, m1, hb1, hf2, rfl, hr, hl⟩)
theorem add_hashed {k : Str} {tk : Tok} {Q : Bool → Shared → Prop} (R : SetX w s.heap a S n) (room : n + 1 < scanBound)
    (hQ : ∀ h', Heap.SameBut a s.heap h' → SetX w h' a (fun j => S j || decide (j = k)) (if S k = true then n else n + 1) → Q (!S k) { s with heap := h' }) :
    wpAny (model P w) A (setAddHashed a (.str k tk) ((strKind P w).hash k)) Q E s := by
  obtain ⟨o, es, ep, t, ho, hex, hd, g, nd, hm, hb, hf, hn, hr, hl⟩ := R
  have hkey : (strKind P w).is k (.str k tk) = true := strKind_is P w k tk
  have hsc : (Value.str k tk).scannable = true := rfl
  have hel : ElemsOf (strKind P w) es.toList := good_elems g
  unfold setAddHashed setAddHashedIn
  refine wpAny_holding (wpAny_bind (wpAny_setState_of ho hd hf ?_))
  dsimp only
  rw [byScan_of hsc hb hel]
  simp only [↓reduceIte]
  unfold setAddByScan
  refine wpAny_bind ?_
  refine wpAny_bind (wpAny_rule ?_)
  refine wpAny_bind (wpAny_setScan_of hkey ho hd hf hel ?_)
  cases hfi : List.findIdx? (fun e => (strKind P w).is k e.2) es.toList with
  | some j =>
    dsimp only
    obtain ⟨hj, pj, _⟩ := List.findIdx?_eq_some_iff_getElem.mp hfi
    have hSk : S k = true := (hm k).2 ((good_mem (P := P) (w := w) g k).2 ⟨es.toList[j], List.getElem_mem hj, pj⟩)
    refine wpAny_pure (wpAny_pure ?_)
    have q := hQ s.heap (Heap.SameBut.refl a s.heap) ⟨o, es, ep, t, ho, hex, hd, g, nd, fun i => by
      rw [Bool.or_eq_true, decide_eq_true_eq, ← hm i]
      exact ⟨fun z => z.elim id (fun e => e ▸ hSk), .inl⟩, hb, hf, by rw [if_pos hSk]; exact hn, hr, hl⟩
    rw [hSk] at q
    exact q
  | none =>
    dsimp only
    have hnk : k ∉ es.toList.map keyS := fun z => by
      obtain ⟨e, he, q⟩ := (good_mem (P := P) (w := w) g k).1 z
      have c := List.findIdx?_eq_none_iff.mp hfi e he
      rw [q] at c
      cases c
    have hSk : S k = false := by
      cases q : S k with
      | false => rfl
      | true => exact absurd ((hm k).1 q) hnk
    have hgw : ∀ (b : Bool) {s₁ : Shared} {Q' : Unit → Shared → Prop}, Q' () s₁ → wpAny (model P w) A (match b with | true => rule "set.scan.the-table-gave-way" | false => pure ()) Q' E s₁ :=
      fun b s₁ Q' q => by cases b <;> first | exact wpAny_pure q | exact wpAny_rule q
    have pm := layNew_perm t es ((strKind P w).hash k) (.str k tk)
    have hf1 := layNew_fits t es ((strKind P w).hash k) (.str k tk)
    have hr1 := layNew_ris t es ((strKind P w).hash k) (.str k tk) hr
    have hl1 := layNew_led t es ((strKind P w).hash k) (.str k tk)
    generalize layNew t es ((strKind P w).hash k) (.str k tk) = Z at pm hf1 hr1 hl1 ⊢
    obtain ⟨es1, t1, wasDummy, gave⟩ := Z
    dsimp only at pm hf1 hr1 hl1 ⊢
    rw [Array.toList_push] at pm
    have pc : es1.toList.Perm (((strKind P w).hash k, Value.str k tk) :: es.toList) := pm.trans (List.perm_append_singleton _ _)
    have pk : (es1.toList.map keyS).Perm (k :: es.toList.map keyS) := pc.map keyS
    have g1 : ∀ e ∈ es1.toList, GoodS w e := fun e he => by
      rcases List.mem_cons.mp (pc.mem_iff.mp he) with z | z
      · rw [z]; exact ⟨k, tk, rfl, rfl⟩
      · exact g e z
    have nd1 : (es1.toList.map keyS).Nodup := pk.nodup_iff.mpr (List.nodup_cons.mpr ⟨hnk, nd⟩)
    have m1 : ∀ i, (S i || decide (i = k)) = true ↔ i ∈ es1.toList.map keyS := fun i => by
      rw [Bool.or_eq_true, decide_eq_true_eq, hm i, pk.mem_iff, List.mem_cons]
      exact Or.comm
    have hsz : es1.size = n + 1 := by rw [← Array.length_toList, pc.length_eq, List.length_cons, Array.length_toList, hn]
    have hb1 : es1.size < scanBound := by rw [hsz]; exact room
    have hled : w.params.followText "set-order" = true ∨ t1.led = true := hl.imp id fun z => by rw [hl1]; exact z
    have fin : ∀ h', Heap.SameBut a s.heap h' → SetX w h' a (fun j => S j || decide (j = k)) es1.size → Q true { s with heap := h' } := fun h' sb r => by
      have q := hQ h' sb
      rw [hSk] at q
      rw [hsz] at r
      exact q r
    refine wpAny_bind (hgw _ ?_)
    split
    · refine wpAny_bind ?_
      rw [hashByValue_scannable 8 hsc]
      refine wpAny_pure ?_
      refine add_tail ?_ ho hex hd g1 nd1 m1 hb1 ?_ ?_ ?_ ?_
      · intro b s₁ Q' q; cases b <;> first | exact wpAny_pure q | exact wpAny_rule q
      · first | (split <;> first | exact hf1 | exact SetTable.fits_plain_off hf1) | exact hf1
      · first | (split <;> exact hr1) | exact hr1
      · first | (split <;> exact hled) | exact hled
      · intro h' sb r; dsimp only; exact wpAny_pure (fin h' sb r)
    · refine wpAny_bind (wpAny_pure ?_)
      simp only [↓reduceIte]
      refine add_tail ?_ ho hex hd g1 nd1 m1 hb1 hf1 hr1 hled ?_
      · intro b s₁ Q' q; cases b <;> first | exact wpAny_pure q | exact wpAny_rule q
      · intro h' sb r; dsimp only; exact wpAny_pure (fin h' sb r)
end

/-! ### set(xs) of a list or a tuple of texts -/
def stepS (l : List Str) (x : Str) : List Str := if x ∈ l then l else l ++ [x]
def dedS (l : List Str) : List Str := l.foldl stepS []
theorem dedS_take {xs : List Str} {i : Nat} {x : Str} (h : xs[i]? = some x) : dedS (xs.take (i + 1)) = stepS (dedS (xs.take i)) x := by
  have e : xs.take (i + 1) = xs.take i ++ [x] := by
    rw [List.take_add_one, h]
    rfl
  rw [e]
  unfold dedS
  rw [List.foldl_append]
  rfl
theorem mem_stepS {l : List Str} {x k : Str} : k ∈ stepS l x ↔ k ∈ l ∨ k = x := by
  unfold stepS
  by_cases h : x ∈ l
  · rw [if_pos h]
    exact ⟨.inl, fun z => z.elim id fun e => e ▸ h⟩
  · rw [if_neg h]
    simp
theorem nodup_stepS {l : List Str} {x : Str} (h : l.Nodup) : (stepS l x).Nodup := by
  unfold stepS
  by_cases hx : x ∈ l
  · rw [if_pos hx]; exact h
  · rw [if_neg hx, List.nodup_append]
    refine ⟨h, by simp, fun a ha b hb e => ?_⟩
    have : b = x := by simpa using hb
    rw [e, this] at ha
    exact hx ha
theorem fold_dedS : ∀ (xs l : List Str), (∀ k, k ∈ xs.foldl stepS l ↔ k ∈ l ∨ k ∈ xs) ∧ (l.Nodup → (xs.foldl stepS l).Nodup) ∧ (xs.foldl stepS l).length ≤ l.length + xs.length
  | [], l => by simp
  | x :: xs, l => by
    obtain ⟨h1, h2, h3⟩ := fold_dedS xs (stepS l x)
    refine ⟨fun k => ?_, fun h => h2 (nodup_stepS h), ?_⟩
    · rw [List.foldl_cons, h1 k, mem_stepS, List.mem_cons]
      constructor
      · rintro ((a | a) | a)
        · exact .inl a
        · exact .inr (.inl a)
        · exact .inr (.inr a)
      · rintro (a | a | a)
        · exact .inl (.inl a)
        · exact .inl (.inr a)
        · exact .inr a
    · rw [List.foldl_cons]
      refine Nat.le_trans h3 ?_
      have : (stepS l x).length ≤ l.length + 1 := by
        unfold stepS
        split <;> simp
      rw [List.length_cons]
      omega
theorem mem_dedS {xs : List Str} {k : Str} : k ∈ dedS xs ↔ k ∈ xs := by
  have := (fold_dedS xs []).1 k
  unfold dedS
  simpa using this
theorem nodup_dedS (xs : List Str) : (dedS xs).Nodup := (fold_dedS xs []).2.1 List.nodup_nil
theorem length_dedS (xs : List Str) : (dedS xs).length ≤ xs.length := by
  have := (fold_dedS xs []).2.2
  unfold dedS
  simpa using this
theorem moved_at {G : Array GenState → Array GenState → Prop} {wr : List Addr} {s s' : Shared} {w : World} {a : Addr} {S : Str → Bool} {n : Nat} (hm : Moved wr G s s') (ha : a ∉ wr) (R : SetX w s.heap a S n) : SetX w s'.heap a S n := R.at fun o e => hm.heap a o ha e
section
variable {prog : Program} {w : World} {A : Around} {R : Result → Shared → Prop} {I : Addr} {fp wr : List Addr} {G : Array GenState → Array GenState → Prop} {n : Nat} {P : Nat → Value → Prop} {St : Nat → Shared → Prop}
theorem loopX (W : WalksS prog w A.in1 I fp wr G n P St) (S : Addr) (hSf : S ∉ fp) (xs : List Str) (hsz : xs.length = n) (hn : n + 1 < scanBound)
    (hval : ∀ i v, P i v → ∃ x t, xs[i]? = some x ∧ v = .str x t) :
    ∀ (k i : Nat) (s : Shared), n - i = k → i ≤ n → St i s →
      SetX w s.heap S (fun k' => decide (k' ∈ dedS (xs.take i))) (dedS (xs.take i)).length →
      (∀ s', Moved (S :: wr) G s s' → SetX w s'.heap S (fun k' => decide (k' ∈ dedS xs)) (dedS xs).length → R (.ok (.ret .none)) s') →
      codeAny (model prog w) A (.builtin "set.update.loop" ⟨[.ref S, .ref I], []⟩) R s := by
  have hSw : S ∉ wr := fun h => hSf (W.sub _ h)
  have hsub : ∀ b ∈ wr, b ∈ S :: wr := fun b hb => List.mem_cons_of_mem _ hb
  intro k
  induction k with
  | zero =>
    intro i s hk hi hst hS hR
    have hin : i = n := by omega
    subst hin
    refine codeAny_builtin PyProof.Rows.F.entry_set_update_loop ?_
    rw [Around.under_plainId PyProof.Rows.F.plain_set_update_loop _]
    show wpAny _ A.in1 (pyNext (.ref I) >>= _) _ _ s
    refine wpAny_bind (W.done s _ _ hst fun s' hm => ?_)
    show wpAny _ A.in1 (ret Value.none) _ _ s'
    refine wpAny_pure (hR s' (hm.mono hsub) ?_)
    rw [← hsz, List.take_length] at hS
    exact moved_at hm hSw hS
  | succ k ih =>
    intro i s hk hi hst hS hR
    have hlt : i < n := by omega
    refine codeAny_builtin PyProof.Rows.F.entry_set_update_loop ?_
    rw [Around.under_plainId PyProof.Rows.F.plain_set_update_loop _]
    show wpAny _ A.in1 (pyNext (.ref I) >>= _) _ _ s
    refine wpAny_bind (W.item i s _ _ hlt hst fun v s' hP hst' hm => ?_)
    obtain ⟨x, t, hx, rfl⟩ := hval i v hP
    have hS' := moved_at hm hSw hS
    show wpAny _ A.in1 (holding [Value.str x t] (setAdd S (.str x t)) >>= _) _ _ s'
    refine wpAny_bind (wpAny_holding ?_)
    unfold setAdd
    refine wpAny_holding ?_
    refine wpAny_bind ((PySem.strKind prog w).pyHash (k := x) (strKind_is _ _ _ _) ?_)
    have hroom : (dedS (xs.take i)).length + 1 < scanBound := by
      have := length_dedS (xs.take i)
      rw [List.length_take] at this
      omega
    refine add_hashed (s := { s' with toks := s'.toks + 1 }) hS' hroom fun h' hsb hS2 => ?_
    have hSi : SetX w h' S (fun k' => decide (k' ∈ dedS (xs.take (i + 1)))) (dedS (xs.take (i + 1))).length := by
      rw [dedS_take hx]
      refine hS2.congr (fun k' => ?_) ?_
      · by_cases h1 : k' ∈ dedS (xs.take i)
        · rw [decide_eq_true h1, decide_eq_true (mem_stepS.mpr (.inl h1)), Bool.true_or]
        · by_cases h2 : k' = x
          · rw [decide_eq_true h2, decide_eq_true (mem_stepS.mpr (.inr h2)), Bool.or_true]
          · rw [decide_eq_false h1, decide_eq_false h2, decide_eq_false fun z => (mem_stepS.mp z).elim h1 h2]
            rfl
      · unfold stepS
        by_cases h1 : x ∈ dedS (xs.take i)
        · rw [if_pos h1, if_pos (decide_eq_true h1)]
        · rw [if_neg h1, if_neg (by rw [decide_eq_false h1]; exact Bool.false_ne_true), List.length_append]
          rfl
    refine wpAny_pure ⟨plainId_quiet PyProof.Rows.F.plain_set_update_loop _, ih (i + 1) _ (by omega) hlt (W.frame _ s' _ _ hst' (Nat.le_succ _) fun b hb o e => ?_) hSi fun s'' hm'' hS'' => ?_⟩
    · rw [hsb.2 b (fun h : b = S => hSf (by rw [← h]; exact hb))]; exact e
    · refine hR s'' (Moved.trans W.gtrans ((hm.mono hsub).then_heap (Nat.le_succ _) fun b o hb e => ?_) hm'') hS''
      rw [hsb.2 b (fun h : b = S => hb (by rw [h]; exact List.mem_cons_self))]; exact e
end
section
variable {prog : Program} {w : World} {A : Around} {E : Value → Shared → Prop} {s : Shared}
theorem code_new1 (a : Value) {Q₁ : Value → Shared → Prop}
    (h : Q₁ (.ref s.heap.objs.size) { s with heap := s.heap.push { cls := .type "set", dict := none, data := .set #[] 0 (.fresh 0 0 (!w.params.followText "set-order")) } }) :
    codeAny (model prog w) A (.call (.builtin "set.__new__") ⟨[.type "set", a], []⟩) (wants Q₁ E) s := by
  refine codeAny_of_tree ?_
  show wpAny _ A.in1 (do checkBuiltinCall "set.__new__" ⟨[.type "set", a], []⟩; again (.builtin "set.__new__" ⟨[.type "set", a], []⟩)) _ _ s
  refine wpAny_bind (wpAny_of_eq (F.newCall_set_1 a) (wpAny_pure ⟨plainId_quiet F.plain_set_new _, codeAny_builtin F.entry_set_new ?_⟩))
  rw [Around.under_plainId F.plain_set_new _]
  unfold Builtin.«set.__new__» Builtin.Frozenset.newClass
  have hsub := sub_set_self
  obtain ⟨hp, g, d, tk, os⟩ := s
  dsimp only
  wp_walk
  refine wpAny_askSetting (wpAny_pure ?_)
  dsimp only
  simp only [newObj]
  refine wpAny_bind (wpAny_alloc (wpAny_pure ?_))
  exact wpAny_pure h
theorem fresh_x {h : Heap} (w : World) : SetX w (h.push { cls := .type "set", dict := none, data := .set #[] 0 (.fresh 0 0 (!w.params.followText "set-order")) }) h.objs.size (fun _ => false) 0 :=
  ⟨_, #[], 0, _, Heap.get?_push_size _ rfl, ⟨rfl, rfl, rfl⟩, rfl, (fun e he => by simp at he), (by simp), (fun k => by simp), (by decide), (by rfl), rfl, List.Pairwise.nil, by
    show _ ∨ (!w.params.followText "set-order") = true
    cases w.params.followText "set-order"
    · exact .inr rfl
    · exact .inl rfl⟩
theorem strs_get : ∀ {us : List Value} {xs : List Str}, StrsAre us xs → ∀ (i : Nat) (v : Value), us[i]? = some v → ∃ x t, xs[i]? = some x ∧ v = .str x t
  | _, _, .nil, i, v, h => by simp at h
  | _, _, .cons n t hr, 0, v, h => by simp at h; exact ⟨n, t, rfl, h.symm⟩
  | _, _, .cons n t hr, i + 1, v, h => by
    simp only [List.getElem?_cons_succ] at h ⊢
    exact strs_get hr i v h
set_option maxHeartbeats 3200000 in
theorem call_set {l : Addr} {items : Array Value} {xs : List Str} {Q : Value → Shared → Prop} {T : String} (hT : T = "list" ∨ T = "tuple")
    (hh : A.handled = none) (hl : (T = "list" → s.heap.IsList l items) ∧ (T = "tuple" → s.heap.IsTuple l items)) (hi : PyProof.Rows.StrsAre items.toList xs) (hn1 : xs.length + 1 < scanBound)
    (h : ∀ (h' : Heap) (tk : Nat), SetX w h' s.heap.objs.size (fun k' => decide (k' ∈ dedS xs)) (dedS xs).length →
      (∀ b o, b < s.heap.objs.size → s.heap.get? b = some o → h'.get? b = some o) → Q (.ref s.heap.objs.size) { s with heap := h', toks := tk }) :
    wpAny (model prog w) A (call (.type "set") [.ref l]) Q E s := by
  obtain ⟨c, tl, hmro⟩ := PySem.F.called_set.mro
  have hmade := PySem.F.called_set.made
  have hsub := PySem.F.called_set.sub
  refine wpAny_call (codeAny_of_tree ?_)
  show wpAny _ _ (callAny (.type "set") _) _ _ _
  refine wpAny_pure ⟨Code.quiet_builtin _ (by decide +kernel), codeAny_builtin PySem.F.entry_type_call ?_⟩
  rw [Around.under_plain (weight_type_call_type "set" [.ref l] []) rfl]
  have h1 := PySem.F.called_set.notType
  have h2 := PySem.F.called_set.canCreate
  have hct := PySem.F.typeCall_set_1 (.ref l)
  repeat (any_goals (first | assumption | wp_step))
  generalize hled : (!w.params.followText "set-order") = led
  have hfr := fresh_x (h := s.heap) w
  rw [hled] at hfr
  refine codeAny_mono (code_new1 (.ref l) (E := E) (Q₁ := fun obj s₁ => obj = .ref s.heap.objs.size ∧ s₁ = { s with heap := s.heap.push { cls := .type "set", dict := none, data := .set #[] 0 (.fresh 0 0 led) } }) (by rw [hled]; exact ⟨rfl, rfl⟩)) fun r s₁ hr => ?_
  cases r with
  | error e => exact hr
  | ok fl =>
    cases fl with
    | ret obj =>
      obtain ⟨rfl, rfl⟩ := hr
      have hS : (s.heap.push { cls := .type "set", dict := none, data := .set #[] 0 (.fresh 0 0 led) }).get? s.heap.objs.size = some { cls := .type "set", dict := none, data := .set #[] 0 (.fresh 0 0 led) } := Heap.get?_push_size _ rfl
      have hT1 : Shared.TypeIs { s with heap := s.heap.push { cls := .type "set", dict := none, data := .set #[] 0 (.fresh 0 0 led) } } (.ref s.heap.objs.size) "set" := ⟨_, hS, rfl⟩
      have hli := PySem.F.called_set.init.lookup
      have hbi := PySem.F.called_set.init.bind (.ref s.heap.objs.size)
      repeat (any_goals (first | assumption | wp_step))
      refine codeAny_mono (codeAny_call_builtin (R := wants (fun r s₂ => r = .none ∧ ∃ h' tk, s₂ = { s with heap := h', toks := tk } ∧
          SetX w h' s.heap.objs.size (fun k' => decide (k' ∈ dedS xs)) (dedS xs).length ∧
          (∀ b o, b < s.heap.objs.size → s.heap.get? b = some o → h'.get? b = some o)) E) PySem.F.called_set.init.plain PySem.F.entry_set_init (check_set_init_1 hT1 ?_)) fun r₂ s₂ hr₂ => ?_
      · have hsz : xs.length = items.size := by rw [← StrsAre.len_eq hi, Array.length_toList]
        have hval : ∀ (i : Nat) (v : Value), items[i]? = some v → ∃ x t, xs[i]? = some x ∧ v = .str x t := fun i v hv => strs_get hi i v (by rw [Array.getElem?_toList]; exact hv)
        have hh3 : A.in1.in1.in1.handled = none := by simp [hh]
        have fin : ∀ (I : Addr) (s' : Shared) (hp : Heap) (G : Array GenState → Array GenState → Prop), True := fun _ _ _ _ => trivial
        rcases hT with hT | hT
        · subst hT
          have hl := hl.1 rfl
          obtain ⟨ol, hol, hcl, nl, hdl⟩ := hl
          obtain ⟨ocls, odict, odata, oslots⟩ := ol
          simp only at hcl hdl
          subst hcl; subst hdl
          have hol' : (s.heap.push { cls := .type "set", dict := none, data := .set #[] 0 (.fresh 0 0 led) }).get? l = some { cls := .type "list", dict := odict, data := .seq items nl, slots := oslots } := Heap.get?_push_of_some _ hol
          have hsls := PySem.F.sub_list_set
          have hslf := PySem.F.sub_list_frozenset
          have hne : (Value.type "list" == Value.type "dict") = false := by decide
          have hl1 : (s.heap.push { cls := .type "set", dict := none, data := .set #[] 0 (.fresh 0 0 led) }).IsList l items := ⟨_, hol', rfl, nl, rfl⟩
          unfold Builtin.«set.__init__» noKeywords Builtin.Frozenset.updateFrom
          generalize hPI : pyIter = PI
          wp_walk
          subst hPI
          refine wpAny_pyIter_list hl1 ?_
          refine wpAny_bind (wpAny_runValue ?_)
          have hlS : l < s.heap.objs.size := Heap.lt_size hol
          have hneI : l ≠ (s.heap.push { cls := .type "set", dict := none, data := .set #[] 0 (.fresh 0 0 led) }).objs.size := by
            rw [Heap.size_push]; exact Nat.ne_of_lt (Nat.lt_succ_of_lt hlS)
          have hSf : s.heap.objs.size ∉ [(s.heap.push { cls := .type "set", dict := none, data := .set #[] 0 (.fresh 0 0 led) }).objs.size, l] := by
            rw [Heap.size_push]; simp only [List.mem_cons, List.mem_singleton, List.not_mem_nil, or_false, not_or]
            exact ⟨Nat.ne_of_lt (Nat.lt_succ_self _), Nat.ne_of_gt hlS⟩
          refine loopX ((Walks.list hh3 _ l hneI items).toS) s.heap.objs.size
            hSf xs hsz (by rw [← hsz]; exact hn1) hval (items.size - 0) 0 _ (by omega) (Nat.zero_le _)
            ⟨⟨_, Heap.get?_push_size _ rfl, rfl, rfl⟩, (hl1.push _)⟩ ?hS0 ?hR
          case hS0 => exact (hfr.at fun o e => Heap.get?_push_of_some _ e).congr (fun k => by simp [dedS]) rfl
          case hR =>
            intro s' hm hS'
            obtain ⟨h', g', d', tk', os'⟩ := s'
            have eg : g' = s.gens := hm.gens
            have ed : d' = s.drawn := hm.drawn
            have eo : os' = s.os := hm.os
            subst eg; subst ed; subst eo
            show wpAny _ _ _ _ _ _
            refine wpAny_pure ?_
            show wpAny _ _ (ret Value.none) _ _ _
            refine wpAny_pure ⟨rfl, h', tk', rfl, hS', fun b o hb e => ?_⟩
            have hb1 : b ≠ s.heap.objs.size := Nat.ne_of_lt hb
            have hb2 : b ≠ (s.heap.push { cls := .type "set", dict := none, data := .set #[] 0 (.fresh 0 0 led) }).objs.size := by
              rw [Heap.size_push]; exact Nat.ne_of_lt (Nat.lt_succ_of_lt hb)
            exact hm.heap b o (by simp only [List.mem_cons, List.mem_singleton, List.not_mem_nil, or_false, not_or]; exact ⟨hb1, hb2⟩) (Heap.get?_push_of_some _ (Heap.get?_push_of_some _ e))
        · subst hT
          have hl := hl.2 rfl
          obtain ⟨ol, hol, hcl, nl, hdl⟩ := hl
          obtain ⟨ocls, odict, odata, oslots⟩ := ol
          simp only at hcl hdl
          subst hcl; subst hdl
          have hol' : (s.heap.push { cls := .type "set", dict := none, data := .set #[] 0 (.fresh 0 0 led) }).get? l = some { cls := .type "tuple", dict := odict, data := .seq items nl, slots := oslots } := Heap.get?_push_of_some _ hol
          have hsls := PySem.F.sub_tuple_set
          have hslf := PySem.F.sub_tuple_frozenset
          have hne : (Value.type "tuple" == Value.type "dict") = false := by decide
          have hl1 : (s.heap.push { cls := .type "set", dict := none, data := .set #[] 0 (.fresh 0 0 led) }).IsTuple l items := ⟨_, hol', rfl, nl, rfl⟩
          unfold Builtin.«set.__init__» noKeywords Builtin.Frozenset.updateFrom
          generalize hPI : pyIter = PI
          wp_walk
          subst hPI
          refine wpAny_pyIter_tuple hl1 ?_
          refine wpAny_bind (wpAny_runValue ?_)
          have hlS : l < s.heap.objs.size := Heap.lt_size hol
          have hneI : l ≠ (s.heap.push { cls := .type "set", dict := none, data := .set #[] 0 (.fresh 0 0 led) }).objs.size := by
            rw [Heap.size_push]; exact Nat.ne_of_lt (Nat.lt_succ_of_lt hlS)
          have hSf : s.heap.objs.size ∉ [(s.heap.push { cls := .type "set", dict := none, data := .set #[] 0 (.fresh 0 0 led) }).objs.size, l] := by
            rw [Heap.size_push]; simp only [List.mem_cons, List.mem_singleton, List.not_mem_nil, or_false, not_or]
            exact ⟨Nat.ne_of_lt (Nat.lt_succ_self _), Nat.ne_of_gt hlS⟩
          refine loopX ((Walks.tuple hh3 _ l hneI items).toS) s.heap.objs.size
            hSf xs hsz (by rw [← hsz]; exact hn1) hval (items.size - 0) 0 _ (by omega) (Nat.zero_le _)
            ⟨⟨_, Heap.get?_push_size _ rfl, rfl, rfl⟩, (hl1.push _)⟩ ?hS0 ?hR
          case hS0 => exact (hfr.at fun o e => Heap.get?_push_of_some _ e).congr (fun k => by simp [dedS]) rfl
          case hR =>
            intro s' hm hS'
            obtain ⟨h', g', d', tk', os'⟩ := s'
            have eg : g' = s.gens := hm.gens
            have ed : d' = s.drawn := hm.drawn
            have eo : os' = s.os := hm.os
            subst eg; subst ed; subst eo
            show wpAny _ _ _ _ _ _
            refine wpAny_pure ?_
            show wpAny _ _ (ret Value.none) _ _ _
            refine wpAny_pure ⟨rfl, h', tk', rfl, hS', fun b o hb e => ?_⟩
            have hb1 : b ≠ s.heap.objs.size := Nat.ne_of_lt hb
            have hb2 : b ≠ (s.heap.push { cls := .type "set", dict := none, data := .set #[] 0 (.fresh 0 0 led) }).objs.size := by
              rw [Heap.size_push]; exact Nat.ne_of_lt (Nat.lt_succ_of_lt hb)
            exact hm.heap b o (by simp only [List.mem_cons, List.mem_singleton, List.not_mem_nil, or_false, not_or]; exact ⟨hb1, hb2⟩) (Heap.get?_push_of_some _ (Heap.get?_push_of_some _ e))
      · cases r₂ with
        | error e => exact hr₂
        | ok fl₂ =>
          cases fl₂ with
          | ret r =>
            obtain ⟨rfl, h', tk, rfl, hS', hk'⟩ := hr₂
            repeat (any_goals (first | assumption | wp_step))
            exact h _ _ hS' hk'
          | _ => exact hr₂.elim
    | _ => exact hr.elim
end
end TX
end
section
set_option Elab.async false
set_option linter.all false
set_option maxRecDepth 100000
set_option maxHeartbeats 1600000
/-! DL 7: texts in ascending order; sorted(set(xs)), len(set(xs)), sorted(xs) of texts -/
namespace TX
open PySem PySem.Spec PyProof.Rows L2
/-! ### order of texts -/
def lt (a b : Str) : Prop := a.cps.toList < b.cps.toList
instance : DecidableRel lt := fun a b => inferInstanceAs (Decidable (a.cps.toList < b.cps.toList))
theorem lt_trans {a b c : Str} (h : lt a b) (k : lt b c) : lt a c := List.lt_trans h k
theorem lt_irrefl {a : Str} : ¬ lt a a := List.lt_irrefl _
theorem str_ext {a b : Str} (h : a.cps.toList = b.cps.toList) : a = b := by
  cases a with
  | mk x =>
    cases b with
    | mk y =>
      have : x = y := Array.toList_inj.mp h
      rw [this]
theorem tri {a b : Str} (h : ¬ lt a b) (k : ¬ lt b a) : a = b := str_ext (List.le_antisymm (List.not_lt.mp k) (List.not_lt.mp h))
def Asc (l : List Str) : Prop := l.Pairwise lt
theorem Asc.nodup {l : List Str} (h : Asc l) : l.Nodup := h.imp fun {a b} hab e => by
  subst e
  exact lt_irrefl hab
theorem asc_ext {l m : List Str} (h : Asc l) (k : Asc m) (e : ∀ x, x ∈ l ↔ x ∈ m) : l = m :=
  List.Perm.eq_of_pairwise (le := lt) (fun a b _ _ h1 h2 => absurd (lt_trans h1 h2) lt_irrefl) h k ((List.perm_ext_iff_of_nodup h.nodup k.nodup).mpr e)
def insU (x : Str) : List Str → List Str
  | [] => [x]
  | y :: r => if lt x y then x :: y :: r else if x = y then y :: r else y :: insU x r
/-- the different texts, ascending -/
def sortU (l : List Str) : List Str := l.foldr insU []
theorem mem_insU {x k : Str} : ∀ {l : List Str}, k ∈ insU x l ↔ k = x ∨ k ∈ l
  | [] => by simp [insU]
  | y :: r => by
    unfold insU
    by_cases h : lt x y
    · rw [if_pos h, List.mem_cons]
    · rw [if_neg h]
      by_cases h2 : x = y
      · subst h2
        rw [if_pos rfl, List.mem_cons]
        exact ⟨.inr, fun z => z.elim .inl id⟩
      · rw [if_neg h2, List.mem_cons, List.mem_cons, mem_insU]
        constructor
        · rintro (a | a | a)
          · exact .inr (.inl a)
          · exact .inl a
          · exact .inr (.inr a)
        · rintro (a | a | a)
          · exact .inr (.inl a)
          · exact .inl a
          · exact .inr (.inr a)
theorem asc_insU {x : Str} : ∀ {l : List Str}, Asc l → Asc (insU x l)
  | [], _ => List.pairwise_singleton _ _
  | y :: r, h => by
    obtain ⟨h1, h2⟩ := List.pairwise_cons.mp h
    unfold insU
    by_cases hx : lt x y
    · rw [if_pos hx]
      refine List.pairwise_cons.mpr ⟨fun z hz => ?_, h⟩
      rcases List.mem_cons.mp hz with e | e
      · rw [e]; exact hx
      · exact lt_trans hx (h1 z e)
    · rw [if_neg hx]
      by_cases h3 : x = y
      · rw [if_pos h3]; exact h
      · rw [if_neg h3]
        refine List.pairwise_cons.mpr ⟨fun z hz => ?_, asc_insU h2⟩
        rcases mem_insU.mp hz with e | e
        · rw [e]
          by_cases k : lt y x
          · exact k
          · exact absurd (tri hx k) h3
        · exact h1 z e
theorem mem_sortU {k : Str} : ∀ {l : List Str}, k ∈ sortU l ↔ k ∈ l
  | [] => Iff.rfl
  | x :: r => by
    show k ∈ insU x (sortU r) ↔ _
    rw [mem_insU, mem_sortU, List.mem_cons]
theorem asc_sortU : ∀ (l : List Str), Asc (sortU l)
  | [] => List.Pairwise.nil
  | x :: r => asc_insU (asc_sortU r)
theorem sortU_eq {l m : List Str} (h : Asc m) (e : ∀ x, x ∈ m ↔ x ∈ l) : m = sortU l := asc_ext h (asc_sortU l) fun x => (e x).trans mem_sortU.symm
theorem sortU_ext {l m : List Str} (e : ∀ x, x ∈ l ↔ x ∈ m) : sortU l = sortU m := asc_ext (asc_sortU l) (asc_sortU m) fun x => mem_sortU.trans ((e x).trans mem_sortU.symm)
theorem sortU_asc {l : List Str} (h : Asc l) : sortU l = l := (sortU_eq h fun _ => Iff.rfl).symm
theorem sortU_len (l : List Str) : (sortU l).length = (dedS l).length :=
  ((List.perm_ext_iff_of_nodup (asc_sortU l).nodup (nodup_dedS l)).mpr fun x => mem_sortU.trans mem_dedS.symm).length_eq
theorem sortU_le (l : List Str) : (sortU l).length ≤ l.length := by rw [sortU_len]; exact length_dedS l
theorem rising_pw : ∀ (l : List Str) (p : Str), risingS p l = true → (∀ x ∈ l, ¬ lt x p) ∧ l.Pairwise fun a b => ¬ lt b a
  | [], p, _ => ⟨fun x hx => by simp at hx, List.Pairwise.nil⟩
  | y :: r, p, h => by
    have h : (!ltCps y.cps.toList p.cps.toList && risingS y r) = true := h
    rw [Bool.and_eq_true, Bool.not_eq_true', ltCps_eq] at h
    obtain ⟨i1, i2⟩ := rising_pw r y h.2
    have h0 : ¬ lt y p := of_decide_eq_false h.1
    refine ⟨fun x hx => ?_, List.pairwise_cons.mpr ⟨i1, i2⟩⟩
    rcases List.mem_cons.mp hx with e | e
    · rw [e]; exact h0
    · intro q
      have q1 := i1 x e
      by_cases z : lt y x
      · exact h0 (lt_trans z q)
      · have : x = y := tri q1 z
        rw [this] at q
        exact h0 q
theorem sorted_pw : ∀ {l : List Str}, sortedS l = true → l.Pairwise fun a b => ¬ lt b a
  | [], _ => List.Pairwise.nil
  | x :: r, h => by
    obtain ⟨i1, i2⟩ := rising_pw r x h
    exact List.pairwise_cons.mpr ⟨i1, i2⟩
theorem sorted_asc {l : List Str} (h : sortedS l = true) (d : l.Nodup) : Asc l := by
  refine (sorted_pw h).imp₂ (fun a b h1 h2 => ?_) d
  by_cases k : lt a b
  · exact k
  · exact absurd (tri k h1) h2
/-! ### list.sort, sorted of a set -/
section
variable {P : Program} {w : World} {A : Around} {E : Value → Shared → Prop} {s : Shared} {a : Addr} {S : Str → Bool} {n : Nat}
theorem strs_of : ∀ (l : List Value), (∀ v ∈ l, ∃ k tk, v = Value.str k tk) → StrsAre l (l.map strOf)
  | [], _ => .nil
  | v :: l, h => by
    obtain ⟨k, tk, rfl⟩ := h v List.mem_cons_self
    exact .cons k tk (strs_of l fun u hu => h u (List.mem_cons_of_mem _ hu))
theorem sorted_setX {Q : Value → Shared → Prop} (R : SetX w s.heap a S n) (hh : A.handled = none)
    (hQ : ∀ s' p (out : Array Value) (c : Nat) (ns : List Str), (∀ b o, s.heap.get? b = some o → s'.heap.get? b = some o) → s'.gens = s.gens → s'.os = s.os → s.heap.objs.size ≤ p →
      s'.heap.get? p = some (seqObj "list" out c) → StrsAre out.toList ns → Asc ns → (∀ k, k ∈ ns ↔ S k = true) → ns.length = n → Q (.ref p) s') :
    wpAny (model P w) A (call (.builtin "sorted") [.ref a]) Q E s := by
  obtain ⟨o, es, ep, t, ho, hex, hd, g, nd, hm, hb, hf, hn, hr, hl⟩ := R
  refine Calls.call_function_entry kind_sorted plain_sorted entry_sorted (args_sorted1 _) ?_
  unfold Builtin.«sorted»
  refine wpAny_bind (m := checkCount "sorted" 1 1 _) (wpAny_pure ?_)
  refine wpAny_bind (collect_set (A := A.in1) hh ⟨o, ho, hex.1, hd⟩ hf hb hr hl fun s1 vs k1 hz g1 o1 pm => ?_)
  have hvl : vs.length = n := by rw [pm.length_eq, List.length_map, Array.length_toList]; exact hn
  have hsz : vs.length ≤ sizeLine := by
    rw [hvl, ← hn]
    exact fits_of_scanBound hb
  have hI : StrsAre vs (vs.map strOf) := strs_of vs fun v hv => by
    obtain ⟨e, he, q⟩ := List.mem_map.mp (pm.mem_iff.mp hv)
    obtain ⟨k, tk, h1, _⟩ := g e he
    exact ⟨k, tk, by rw [← q]; exact h1⟩
  have pk : (vs.map strOf).Perm (es.toList.map keyS) := by
    have q := pm.map strOf
    rw [List.map_map] at q
    have e : es.toList.map (strOf ∘ fun x => x.2) = es.toList.map keyS := List.map_congr_left fun e he => by
      obtain ⟨k, tk, h1, _⟩ := g e he
      show strOf e.2 = keyS e
      unfold keyS
      rw [h1] <;> rfl
    rw [e] at q
    exact q
  refine wpAny_bind (wpAny_newList ?_ hsz)
  have hoL : (s1.heap.push (seqObj "list" vs.toArray 0)).get? s1.heap.objs.size = some (seqObj "list" vs.toArray 0) := Heap.get?_push_size _ rfl
  refine wpAny_bind (wpAny_holding (wpAny_call_entry slot_list_sort ⟨_, hoL, rfl⟩ entry_list_sort (list_sort_treeKAny strKind_oneLt hoL hI.keysOf (fun v₁ v₂ rest e => keyKind_strs (by rw [← e]; exact hI)) hsz fun st' hp hs => ⟨_, rfl, ?_⟩) (args_list_sort _)))
  obtain ⟨ns', a1, a2, a3⟩ := sorted_out_str hI hp hs
  generalize hout : (arrOf st').map (·.2) = out at a1
  obtain ⟨c, hc⟩ := sortedHeap_at (vs := vs) (out := out) hoL
  have pn : ns'.Perm (es.toList.map keyS) := a2.trans pk
  refine wpAny_pure ⟨_, rfl, hQ _ s1.heap.objs.size out c ns' (fun b u e => ?_) g1 o1 hz hc a1 (sorted_asc a3 (pn.nodup_iff.mpr nd)) (fun k => by rw [pn.mem_iff, ← hm k]) ?_⟩
  · have q := k1 b u e
    have hlt := Heap.lt_size q
    show (sortedHeap (s1.heap.push (seqObj "list" vs.toArray 0)) s1.heap.objs.size vs out).get? b = some u
    rw [sortedHeap_old (Nat.ne_of_lt hlt) (by rw [size_push']; exact Nat.lt_succ_of_lt hlt)]
    exact Heap.get?_push_of_some _ q
  · rw [pn.length_eq, List.length_map, Array.length_toList]; exact hn
end
end TX
end
section
set_option Elab.async false
set_option linter.all false
set_option maxRecDepth 100000
set_option maxHeartbeats 1600000
/-! DL 8: sets of texts, dicts by data -/
namespace DL
open PySem PySem.Spec PyProof.Rows L2 Evl
/-! ### sets of texts -/
def SetXO (w : World) (a : Addr) (S : Str → Bool) (n : Nat) : HO := .ext fun h => TX.SetX w h a S n
section
variable {X : Cx}
theorem setX_new {w : World} {P : Program} {H : Hp} {h : Heap} {a : Addr} {S : Str → Bool} {n : Nat} (R : TX.SetX w h a S n) : ObjOk P w H h a (SetXO w a S n) := by
  have ⟨o, _, _, _, ho, _⟩ := R
  exact ⟨R, ⟨o, ho⟩, fun h1 h2 p k => p.at k⟩
theorem setX_get {pins : List (Addr × Obj)} {σ : L2.St} {H : Hp} {s : Shared} {a : Addr} {S : Str → Bool} {n : Nat} (I : Inv X pins σ H s) (ha : H a = some (SetXO X.w a S n)) : TX.SetX X.w s.heap a S n := (I.hok a _ ha).1
def rSetX (K : FG) (w : World) : List V → Hp → VK → Prop := fun xs H Q => ∃ (l : Addr) (ys : List Str), xs = [.ref l] ∧ (SqL K H l (ys.map V.str) ∨ SqT K H l (ys.map V.str)) ∧ ys.length + 1 < scanBound ∧
  ∀ p, H p = none → Q (.ref p) (upd H p (SetXO w p (fun k => decide (k ∈ TX.dedS ys)) (TX.dedS ys).length))
theorem cr_setX (hc : X.calm = true) : CallR X (.type "set") (rSetX X.K X.w) := by
  intro pins s σ H xs us Q I r h
  obtain ⟨l, ys, rfl, hl, hb, q⟩ := h
  rw [Vals.ref1 r]
  have fin : ∀ (h' : Heap) (tk : Nat), TX.SetX X.w h' s.heap.objs.size (fun k' => decide (k' ∈ TX.dedS ys)) (TX.dedS ys).length → (∀ b o, b < s.heap.objs.size → s.heap.get? b = some o → h'.get? b = some o) → EP X pins σ Q (.ref s.heap.objs.size) { s with heap := h', toks := tk } := fun h' tk hS hk =>
    ⟨.ref _, upd H s.heap.objs.size (SetXO X.w s.heap.objs.size (fun k => decide (k ∈ TX.dedS ys)) (TX.dedS ys).length), I.laid (t' := tk) (fun b u e => hk b u (Heap.lt_size e) e) (Nat.le_refl _) (setX_new hS), rfl, q _ (I.hok.fresh (Nat.le_refl _))⟩
  rcases hl with hl | hl
  · obtain ⟨its, rv, pl, hz⟩ := I.list hl
    exact TX.call_set (T := "list") (.inl rfl) (I.ok.hd hc) ⟨fun _ => pl.isList, fun z => absurd z (by decide)⟩ (by simpa using strsAre_of rv) hb fin
  · obtain ⟨its, rv, pl, hz⟩ := I.tuple hl
    exact TX.call_set (T := "tuple") (.inr rfl) (I.ok.hd hc) ⟨fun z => absurd z (by decide), fun _ => pl⟩ (by simpa using strsAre_of rv) hb fin
def rSortX (w : World) : List V → Hp → VK → Prop := fun vs H Q => ∃ (a : Addr) (S : Str → Bool) (n : Nat), vs = [V.ref a] ∧ H a = some (SetXO w a S n) ∧
  ∀ (ns : List Str) (p : Addr), TX.Asc ns → (∀ k, k ∈ ns ↔ S k = true) → ns.length = n → H p = none → Q (.ref p) (upd H p (.lst (ns.map V.str)))
theorem cr_sortX (hc : X.calm = true) : CallR X (.builtin "sorted") (rSortX X.w) := by
  intro pins s σ H vs us Q I r h
  obtain ⟨a, S, n, rfl, ha, q⟩ := h
  have R := setX_get I ha
  have hnb : n ≤ sizeLine := by
    obtain ⟨o, es, ep, t, _, _, _, _, _, _, hb, _, hn, _⟩ := id R
    rw [← hn]
    exact fits_of_scanBound hb
  rw [Vals.ref1 r]
  refine TX.sorted_setX R (I.ok.hd hc) fun s' p out c ns k g o hp hg hi hs hm hl => ?_
  have hlen : (ns.map V.str).length ≤ sizeLine := by rw [List.length_map, hl]; exact hnb
  have hn : H p = none := I.hok.fresh hp
  have J : Inv X pins σ (upd H p (.lst (ns.map V.str))) { s with heap := s'.heap, gens := s'.gens, drawn := s'.drawn, toks := s'.toks } :=
    I.call (ch := []) (Un.laid k hp hn) (I.hok.laid k hp ⟨hlen, out.toList, c, vals_of_strs hi, hg⟩) (by rw [g]; exact I.bare) (fun _ z => nomatch z)
  have e : s' = { s with heap := s'.heap, gens := s'.gens, drawn := s'.drawn, toks := s'.toks } := by
    cases s'
    cases s
    cases o
    rfl
  rw [e]
  exact ⟨.ref p, _, J, rfl, q ns p hs hm hl hn⟩
def rLenX (w : World) : List V → Hp → VK → Prop := fun vs H Q => ∃ (a : Addr) (S : Str → Bool) (n : Nat), vs = [V.ref a] ∧ H a = some (SetXO w a S n) ∧ Q (.int (n : Int)) H
theorem cr_lenX : CallR X (.builtin "len") (rLenX X.w) := by
  intro pins s σ H vs us Q I r h
  obtain ⟨a, S, n, rfl, ha, q⟩ := h
  obtain ⟨o, es, ep, t, ho, hex, hd, _, _, _, hb, hf, hn, _⟩ := setX_get I ha
  rw [Vals.ref1 r]
  have hz := fits_of_scanBound hb
  rw [sizeLine_eq] at hz
  refine call_len_set ho hex hd hf (by omega) ⟨.int (n : Int), H, (I.tok _).tok _, ⟨_, by rw [hn]⟩, q⟩
end
section
variable {X : DX} {a e : Expr} {es : List Expr} {pos : Pos} {te : TX} {t : TXa}
def dSortSet (te : TX) : TX := fun sl ow Q => te sl ow fun x ow1 => ∃ ys : List Str, itemsOf x ow1 = some (ys.map fun y => Rv.d (.str y)) ∧ ys.length + 1 < scanBound ∧ Q (.d (.list ((TX.sortU ys).map PyData.str))) ow1
theorem map_str (ys : List Str) : (ys.map fun y => Rv.d (.str y)) = (ys.map PyData.str).map Rv.d := by rw [List.map_map]; rfl
theorem de_sortSet {p1 p2 q : Pos} (m : Cm X) (h1 : Gl X "sorted") (h2 : X.mg "sorted" = none) (h3 : Gl X "set") (h4 : X.mg "set" = none) (h : DE X e te)
    (hv : bootBuiltins "sorted" = some (.builtin "sorted") := by decide +kernel) (he : starEach [e] X.env = (false, eval e X.env) :: starEach [] X.env := by rfl)
    (he2 : starEach [.Call (.Name "set" p2) [e] [] q] X.env = (false, eval (.Call (.Name "set" p2) [e] [] q) X.env) :: starEach [] X.env := by rfl)
    (hpl : (backTo q (starEach [] X.env)).any (·.1) = false := by rfl) (hpl2 : (backTo pos (starEach [] X.env)).any (·.1) = false := by rfl) :
    DE X (.Call (.Name "sorted" p1) [.Call (.Name "set" p2) [e] [] q] [] pos) (dSortSet te) := by
  refine de_of (pe_callB (cr_sortX m.calm) h1 h2 hv (pa_cons (pe_callTy (cr_setX m.calm) h3 h4 boot_set (pa_cons pe_w pa_nil he) (by decide) (by decide) he hpl) pa_nil he2) (by decide) (by decide) he2 hpl2) fun F as ow σ sl H Q S L q => ?_
  refine (h.run F as ow σ sl H _ S L q).mono fun v H1 ⟨F1, as1, r, ow1, g1, S1, r1, ys, e1, e2, q1⟩ => ?_
  obtain ⟨l, vs, rfl, hs, hp⟩ := items_ok S1 r1 e1
  rw [map_str] at hp
  rw [(rvs_dd hp).strs] at hs
  refine ⟨l, ys, rfl, hs, e2, fun p hpn => ⟨p, _, _, rfl, upd_same, fun ns p2 ha hm hl hp2 => ?_⟩⟩
  obtain ⟨g2, S2⟩ := S1.newD (o := SetXO X.w p (fun k => decide (k ∈ TX.dedS ys)) (TX.dedS ys).length) hpn
  have e3 : ns = TX.sortU ys := TX.sortU_eq ha fun x => by rw [hm x, decide_eq_true_eq, TX.mem_dedS]
  rw [e3]
  exact post_lst (g1.trans g2) S2 hp2 (DdAll.ofStrs _) q1
def dLenSet (te : TX) : TX := fun sl ow Q => te sl ow fun x ow1 => ∃ ys : List Str, itemsOf x ow1 = some (ys.map fun y => Rv.d (.str y)) ∧ ys.length + 1 < scanBound ∧ Q (.d (.int ((TX.sortU ys).length : Int))) ow1
theorem de_lenSet {p1 p2 q : Pos} (m : Cm X) (h1 : Gl X "len") (h2 : X.mg "len" = none) (h3 : Gl X "set") (h4 : X.mg "set" = none) (h : DE X e te)
    (he : starEach [e] X.env = (false, eval e X.env) :: starEach [] X.env := by rfl)
    (he2 : starEach [.Call (.Name "set" p2) [e] [] q] X.env = (false, eval (.Call (.Name "set" p2) [e] [] q) X.env) :: starEach [] X.env := by rfl)
    (hpl : (backTo q (starEach [] X.env)).any (·.1) = false := by rfl) (hpl2 : (backTo pos (starEach [] X.env)).any (·.1) = false := by rfl) :
    DE X (.Call (.Name "len" p1) [.Call (.Name "set" p2) [e] [] q] [] pos) (dLenSet te) := by
  refine de_of (pe_callB cr_lenX h1 h2 PySem.boot_len (pa_cons (pe_callTy (cr_setX m.calm) h3 h4 boot_set (pa_cons pe_w pa_nil he) (by decide) (by decide) he hpl) pa_nil he2) (by decide) (by decide) he2 hpl2) fun F as ow σ sl H Q S L q => ?_
  refine (h.run F as ow σ sl H _ S L q).mono fun v H1 ⟨F1, as1, r, ow1, g1, S1, r1, ys, e1, e2, q1⟩ => ?_
  obtain ⟨l, vs, rfl, hs, hp⟩ := items_ok S1 r1 e1
  rw [map_str] at hp
  rw [(rvs_dd hp).strs] at hs
  refine ⟨l, ys, rfl, hs, e2, fun p hpn => ⟨p, _, _, rfl, upd_same, ?_⟩⟩
  obtain ⟨g2, S2⟩ := S1.newD (o := SetXO X.w p (fun k => decide (k ∈ TX.dedS ys)) (TX.dedS ys).length) hpn
  rw [TX.sortU_len] at q1
  exact post_d (g1.trans g2) S2 (.int _) q1
/-! ### sorted of a dict of texts (fewer than 64) -/
def dctAt (ow : OW) (n : Nat) : Option (List (Key × Rv)) := match ow[n]? with
  | some (.dct kvs) => some kvs
  | _ => none
theorem of_dctAt {ow : OW} {n : Nat} {xs : List (Key × Rv)} (h : dctAt ow n = some xs) : ow[n]? = some (.dct xs) := by
  unfold dctAt at h
  split at h
  · cases h
    assumption
  · cases h
theorem kv_keys {K : FG} {F : Hp} {as : AS} : ∀ {ws : List (Key × V)} {kvs : List (Key × Rv)}, Paired (fun p q => p.1 = q.1 ∧ RvOk K F as p.2 q.2) ws kvs → ws.map (·.1) = kvs.map (·.1)
  | _, _, .nil => rfl
  | _, _, .cons r t => by rw [List.map_cons, List.map_cons, r.1, kv_keys t]
def rSortDct : List Rv → OW → QR → Prop := fun xs ow Q => match xs with
  | [.o n] => ∃ kvs ks, dctAt ow n = some kvs ∧ kvs.map (·.1) = ks.map Sum.inr ∧ ks.Nodup ∧ ks.length < 64 ∧ Q (.d (.list ((TX.sortU ks).map PyData.str))) ow
  | _ => False
theorem bc_sortDct : BearsC X (fun xs H Q => ∃ (a : Addr) (kvs : List (Key × V)) (ks : List Str), xs = [.ref a] ∧ Rd H a (.dK kvs) ∧ kvs.map (·.1) = ks.map Sum.inr ∧ ks.length < 64 ∧
    ∀ ys p, ys.Perm ks → sortedS ys = true → H p = none → Q (.ref p) (upd H p (.lst (ys.map V.str)))) rSortDct := fun F0 as0 F as ow H vs xs Q g S hv q => by
  unfold rSortDct at q
  split at q
  · obtain ⟨v, rfl, r⟩ := one_v hv
    obtain ⟨kvs, ks, e1, e2, e3, e4, q⟩ := q
    obtain ⟨a, h1, rfl⟩ := r
    obtain ⟨_, ws, h2, h3⟩ := S.ob _ a _ h1 (of_dctAt e1)
    refine ⟨a, ws, ks, rfl, .inl h2, (kv_keys h3).trans e2, e4, fun ys p hp hs hn => ?_⟩
    have e5 : ys = TX.sortU ks := TX.sortU_eq (TX.sorted_asc hs (hp.nodup_iff.mpr e3)) fun x => hp.mem_iff
    rw [e5]
    exact post_lst g S hn (DdAll.ofStrs _) q
  · exact q.elim
theorem de_sortDct {p : Pos} (m : Cm X) (hg : Gl X "sorted") (hm : X.mg "sorted" = none) (ha : DA X [e] t) (hv : bootBuiltins "sorted" = some (.builtin "sorted") := by decide +kernel) (he : starEach [e] X.env = (false, eval e X.env) :: starEach [] X.env := by rfl) (hpl : (backTo pos (starEach [] X.env)).any (·.1) = false := by rfl) :
    DE X (.Call (.Name "sorted" p) [e] [] pos) (dCB rSortDct t) := de_callB (call_sortedD m.calm) bc_sortDct hg hm hv ha (he := he) (hpl := hpl)
end
end DL
end
section
set_option Elab.async false
set_option linter.all false
set_option maxRecDepth 100000
set_option maxHeartbeats 1600000
/-! DL 9: {k: v for ..}, the keys of a dict, d.update(e) -/
namespace DL
open PySem PySem.Spec PyProof.Rows L2 Evl
abbrev KvOk (K : FG) (F : Hp) (as : AS) : List (Key × V) → List (Key × Rv) → Prop := Paired fun p q => p.1 = q.1 ∧ RvOk K F as p.2 q.2
theorem kv_monoW {K : FG} {F F' : Hp} {as as' : AS} (g : GrowW F as F' as') {ws : List (Key × V)} {kvs : List (Key × Rv)} (h : KvOk K F as ws kvs) : KvOk K F' as' ws kvs := Paired.monoP (fun _ _ z => ⟨z.1, z.2.monoW g⟩) h
section
variable {B : KB} {F H : Hp} {as : AS} {ow : OW} {p : Addr} {R : Hp} {ws : List (Key × V)} {kvs : List (Key × Rv)}
/-- a dict that stood aside is owned -/
theorem Sat.unsideO (hB : B.A.R p = none) (S : Sat B F (as.side (upd R p (.dK ws))) ow H) (hR : R p = none) (h : KvOk B.K F (as.side (upd R p (.dK ws))) ws kvs) : Sat B F ((as.side R).add p) (ow ++ [.dct kvs]) H := by
  obtain ⟨h1, h2, h3⟩ := S.rr p _ upd_same
  have h3 : p ∉ as.l := h3
  have gW : GrowW F (as.side (upd R p (.dK ws))) F ((as.side R).add p) := ⟨Ex.refl F, [p], by unfold AS.side AS.add; simp⟩
  refine ⟨S.ex, ?_, ?_, fun b hb => ?_, fun b u e => ?_, fun n b y k1 k2 => ?_, ⟨S.gw.ex.trans (Ex.refl F), by
    obtain ⟨more, e⟩ := S.gw.ap
    have e : as.l = B.A.l ++ more := e
    exact ⟨more ++ [p], by show as.l ++ [p] = _; rw [e, List.append_assoc]⟩, fun b u e => by
    have hb : b ≠ p := ne_of_none e hB
    have z : upd R p (.dK ws) b = some u := S.gw.rr b u e
    rw [upd_ne hb] at z
    exact z⟩⟩
  · show (as.l ++ [p]).Nodup
    rw [List.nodup_append]
    refine ⟨S.nd, by simp, fun b hb c hc e => ?_⟩
    have : c = p := by simpa using hc
    rw [e, this] at hb
    exact h3 hb
  · show (as.l ++ [p]).length = _
    have := S.ln
    have h : as.l.length = ow.length := this
    simp [h]
  · rcases List.mem_append.mp (show b ∈ as.l ++ [p] from hb) with hb | hb
    · exact S.al b hb
    · have e : b = p := by simpa using hb
      subst e
      exact ⟨_, h1⟩
  · have e' : R b = some u := e
    have hb : b ≠ p := ne_of_none e' hR
    obtain ⟨k1, k2, k3⟩ := S.rr b u (show upd R p (.dK ws) b = some u by rw [upd_ne hb]; exact e')
    refine ⟨k1, k2, fun z => ?_⟩
    rcases List.mem_append.mp (show b ∈ as.l ++ [p] from z) with z | z
    · exact k3 z
    · exact hb (by simpa using z)
  · have k1 : (as.l ++ [p])[n]? = some b := k1
    have ln : as.l.length = ow.length := S.ln
    by_cases hn : n < as.l.length
    · rw [List.getElem?_append_left hn] at k1
      rw [List.getElem?_append_left (by rw [← ln]; exact hn)] at k2
      exact (S.ob n b y k1 k2).keepW gW (fun z => z) rfl
    · have hl : n < (as.l ++ [p]).length := (List.getElem?_eq_some_iff.mp k1).1
      have e : n = as.l.length := by
        rw [List.length_append] at hl
        simp at hl
        omega
      subst e
      rw [List.getElem?_append_right (Nat.le_refl _), Nat.sub_self] at k1
      rw [ln, List.getElem?_append_right (Nat.le_refl _), Nat.sub_self] at k2
      simp at k1 k2
      subst k1 k2
      exact ⟨h2, ws, h1, kv_monoW gW h⟩
end
def putR (kvs : List (Key × Rv)) (k : Key) (r : Rv) : List (Key × Rv) := if kvs.any (fun kv => decide (kv.1 = k)) then kvs.map fun kv => if kv.1 = k then (kv.1, r) else kv else kvs ++ [(k, r)]
theorem kv_any {K : FG} {F : Hp} {as : AS} {k : Key} : ∀ {ws : List (Key × V)} {kvs : List (Key × Rv)}, KvOk K F as ws kvs → (ws.any fun kv => decide (kv.1 = k)) = kvs.any fun kv => decide (kv.1 = k)
  | _, _, .nil => rfl
  | _, _, .cons r t => by rw [List.any_cons, List.any_cons, kv_any t, r.1]
theorem kv_map {K : FG} {F : Hp} {as : AS} {k : Key} {v : V} {r : Rv} (hr : RvOk K F as v r) : ∀ {ws : List (Key × V)} {kvs : List (Key × Rv)}, KvOk K F as ws kvs → KvOk K F as (ws.map fun kv => if kv.1 = k then (kv.1, v) else kv) (kvs.map fun kv => if kv.1 = k then (kv.1, r) else kv)
  | _, _, .nil => .nil
  | a :: ws, b :: kvs, .cons h t => by
    rw [List.map_cons, List.map_cons]
    refine .cons ?_ (kv_map hr t)
    rw [h.1]
    split
    · exact ⟨rfl, hr⟩
    · exact h
theorem kv_put {K : FG} {F : Hp} {as : AS} {k : Key} {v : V} {r : Rv} {ws : List (Key × V)} {kvs : List (Key × Rv)} (h : KvOk K F as ws kvs) (hr : RvOk K F as v r) : KvOk K F as (putK ws k v) (putR kvs k r) := by
  unfold putK putR
  rw [kv_any h]
  split
  · exact kv_map hr h
  · exact Paired.app2 h (.cons ⟨rfl, hr⟩ .nil)
def keyR : Rv → Option Key
  | .d (.str s) => some (.inr s)
  | .d (.int i) => some (.inl i)
  | _ => none
theorem keyR_ok {K : FG} {F : Hp} {as : AS} {v : V} {r : Rv} {k : Key} (h : RvOk K F as v r) (e : keyR r = some k) : v = kV k := by
  unfold keyR at e
  split at e
  · cases h; cases e; rfl
  · cases h; cases e; rfl
  · cases e
section
variable {X : DX} {e kx vx iter : Expr} {pos : Pos} {te : TX}
@[irreducible] def dDc (ti : TId) (j : Nat) (tt : TXb) (tk tv : TX) (vs : List Nat) : TX := fun sl ow Q => ti sl ow fun items ok ow1 => ∃ I : Nat → List (Key × Rv) → OW → Prop, I 0 [] ow1 ∧ (∀ i acc ow', I i acc ow' → ok ow' ∧ acc.length < sizeLine) ∧
  (∀ i r acc ow', items[i]? = some r → I i acc ow' → tt ((wipeD sl vs).set j (some r)) ow' fun k ow2 => if k = true then tk ((wipeD sl vs).set j (some r)) ow2 fun y ow3 => tv ((wipeD sl vs).set j (some r)) ow3 fun z ow4 => ∃ key, keyR y = some key ∧ I (i + 1) (putR acc key z) ow4
    else I (i + 1) acc ow2) ∧ ∀ acc ow', I items.length acc ow' → Q (.o ow'.length) (ow' ++ [.dct acc])
theorem dc_run {scope : Scope} {ifs : List Expr} {ti : TId} {j : Nat} {tt : TXb} {tk tv : TX} {vs : List Nat} {wi : TI} (hj : j ∈ vs)
    (ki : ∀ (F : Hp) (as : AS) (ow : OW) (σ : L2.St) (sl : SL) (H : Hp) (R : List Rv → (OW → Prop) → OW → Prop), Sat X.kb F as ow H → Sls X.K F as sl σ → ti sl ow R →
      ∀ W : It → Hp → Prop, (∀ J H1 F1 as1 ow1 items ok, Grow F as F1 as1 → Sat X.kb F1 as1 ow1 H1 → Walked X.kb F1 as1 J items ok → R items ok ow1 → W J H1) → wi σ H W)
    (ht : DTs X scope ifs tt)
    (hk : ∀ (s : Shared) (H : Hp) (C : Addr) (cl : List (Str × Addr)) (fp : List Addr), DE (X.blk s H scope (compEnvC scope cl C X.env) fp) kx tk)
    (he : ∀ (s : Shared) (H : Hp) (C : Addr) (cl : List (Str × Addr)) (fp : List Addr), DE (X.blk s H scope (compEnvC scope cl C X.env) fp) vx tv)
    {F : Hp} {as : AS} {ow : OW} {σ : L2.St} {sl : SL} {H : Hp} {Q : QR} (S : Sat X.kb F as ow H) (L : Sls X.K F as sl σ) (q : dDc ti j tt tk tv vs sl ow Q) {R : VK} (kR : ∀ v H', Post X.kb F as Q v H' → R v H') :
    tDc wi (gName j) (tTs X scope ifs) (bE X scope kx) (bE X scope vx) vs σ H R := by
  unfold dDc at q
  refine ki F as ow σ sl H _ S L q _ fun J H1 F1 as1 ow1 items ok g1 S1 wk ⟨I, i0, iok, istep, iend⟩ => ?_
  intro D hD
  have rD : as1.R D = none := by
    cases e : as1.R D with
    | none => rfl
    | some o =>
      have := (S1.rr D o e).1
      rw [hD] at this
      cases this
  have rB : X.kb.A.R D = none := by
    cases e : X.kb.A.R D with
    | none => rfl
    | some o =>
      have := S1.gw.rr D o e
      rw [rD] at this
      cases this
  refine ⟨fun i m H' => m = items.length - i ∧ i ≤ items.length ∧ ∃ F' as' acc us ow', GrowW F1 as1 F' as' ∧ as' = as'.side (upd as1.R D (.dK us)) ∧ Sat X.kb F' as' ow' H' ∧ KvOk X.K F' as' us acc ∧ I i acc ow', ⟨_, rfl, Nat.zero_le _, F1, _, [], [], ow1, side_w, rfl, S1.aside hD, .nil, i0⟩, ?_⟩
  rintro i m H' ⟨rfl, hle, F', as', acc, us, ow', g', eas, S', dd, hI⟩
  obtain ⟨w1, w2⟩ := wk F' as' ow' H' g' S' (iok i acc ow' hI).1
  by_cases hlt : i < items.length
  · obtain ⟨hgo, hy⟩ := w1 i items[i] (List.getElem?_eq_getElem hlt)
    refine .inr ⟨hgo, fun H2 => ∃ F' as' acc us ow', GrowW F1 as1 F' as' ∧ as' = as'.side (upd as1.R D (.dK us)) ∧ Sat X.kb F' as' ow' H2 ∧ KvOk X.K F' as' us acc ∧ I (i + 1) acc ow', fun H2 z => ⟨items.length - (i + 1), by omega, rfl, hlt, z⟩, fun x H2 y => ?_⟩
    obtain ⟨F2, g2, S2, r2⟩ := hy x H2 y
    have L2' : Sls X.K F2 as' ((wipeD sl vs).set j (some items[i])) ((wipe σ vs).set j (some x)) := ((wipe_sls (L.monoW (g1.gw.trans g')) vs).mono g2).set r2 j
    refine ⟨wipe_set hj, ?_⟩
    have st := istep i _ acc ow' (List.getElem?_eq_getElem hlt) hI
    have elt' : ∀ (F3 : Hp) (as3 : AS) (ow3 : OW) (H3 : Hp), Grow F2 as' F3 as3 → Sat X.kb F3 as3 ow3 H3 → (tk ((wipeD sl vs).set j (some items[i])) ow3 fun y ow4 => tv ((wipeD sl vs).set j (some items[i])) ow4 fun z ow5 => ∃ key, keyR y = some key ∧ I (i + 1) (putR acc key z) ow5) →
        bE X scope kx ((wipe σ vs).set j (some x)) H3 fun y H4 => bE X scope vx ((wipe σ vs).set j (some x)) H4 fun z H5 => ∃ kvs k, y = kV k ∧ H5 D = some (.dK kvs) ∧ kvs.length < sizeLine ∧ ∃ F' as' acc us ow', GrowW F1 as1 F' as' ∧ as' = as'.side (upd as1.R D (.dK us)) ∧ Sat X.kb F' as' ow' (upd H5 D (.dK (putK kvs k z))) ∧ KvOk X.K F' as' us acc ∧ I (i + 1) acc ow' := fun F3 as3 ow3 H3 g3 S3 q3 s0 H0 C cl fp => by
      refine wE.mono ((hk s0 H0 C cl fp).run F3 as3 ow3 _ _ H3 _ S3 (L2'.mono g3) q3) fun v H4 ⟨F4, as4, r, ow4, g4, S4, r4, q4⟩ s0 H0 C cl fp => ?_
      refine wE.mono ((he s0 H0 C cl fp).run F4 as4 ow4 _ _ H4 _ S4 ((L2'.mono g3).mono g4) q4) fun v5 H5 ⟨F5, as5, r', ow5, g5, S5, r5, key, e5, q5⟩ => ?_
      have eR : Ex (upd as1.R D (.dK us)) as5.R := by
        have z := g2.rr.trans (g3.rr.trans (g4.rr.trans g5.rr))
        rw [eas] at z
        exact z
      have hD4 : H5 D = some (.dK us) := (S5.rr D _ (eR D _ upd_same)).1
      have gg : GrowW F1 as1 F5 as5 := g'.trans (((g2.trans g3).trans g4).trans g5).gw
      have S5' : Sat X.kb F5 (as5.side (upd as1.R D (.dK us))) ow5 H5 := S5.dropR eR (S1.gw.rr.trans (Ex.new rD))
      have dd' : KvOk X.K F5 as5 us acc := kv_monoW (((g2.trans g3).trans g4).trans g5).gw dd
      refine ⟨us, key, keyR_ok r4 e5, hD4, by rw [Paired.len2 dd]; exact (iok i acc ow' hI).2, F5, as5.side (upd as1.R D (.dK (putK us key v5))), putR acc key r', putK us key v5, ow5, gg.trans side_w, rfl, S5'.asideW rB, kv_monoW side_w (kv_put dd' r5), q5⟩
    have no : ∀ (F3 : Hp) (as3 : AS) (ow3 : OW) (H3 : Hp), Grow F2 as' F3 as3 → Sat X.kb F3 as3 ow3 H3 → I (i + 1) acc ow3 → ∃ F' as' acc us ow', GrowW F1 as1 F' as' ∧ as' = as'.side (upd as1.R D (.dK us)) ∧ Sat X.kb F' as' ow' H3 ∧ KvOk X.K F' as' us acc ∧ I (i + 1) acc ow' := fun F3 as3 ow3 H3 g3 S3 q3 => by
      have eR : Ex (upd as1.R D (.dK us)) as3.R := by
        have z := g2.rr.trans g3.rr
        rw [eas] at z
        exact z
      exact ⟨F3, as3.side (upd as1.R D (.dK us)), acc, us, ow3, (g'.trans (g2.trans g3).gw).trans side_w, rfl, S3.dropR eR (S1.gw.rr.trans (Ex.new rD)), kv_monoW ((g2.trans g3).gw.trans side_w) dd, q3⟩
    cases ht with
    | nil =>
      unfold tTs tYes
      dsimp only
      rw [if_pos rfl]
      unfold dYes at st
      dsimp only at st
      rw [if_pos rfl] at st
      exact elt' F2 as' ow' H2 Grow.refl S2 st
    | one hc =>
      intro s0 H0 C cl fp
      refine wT.mono ((hc s0 H0 C cl fp).run F2 as' ow' _ _ H2 _ S2 L2' st) fun k H3 ⟨F3, as3, ow3, g3, S3, q3⟩ => ?_
      cases k with
      | true =>
        rw [if_pos rfl] at q3 ⊢
        exact elt' F3 as3 ow3 H3 g3 S3 q3
      | false =>
        rw [if_neg Bool.false_ne_true] at q3 ⊢
        exact no F3 as3 ow3 H3 g3 S3 q3
  · have e : i = items.length := by omega
    subst e
    refine .inl ⟨w2, ?_⟩
    have S4' : Sat X.kb F' (as'.side (upd as1.R D (.dK us))) ow' H' := by rw [← eas]; exact S'
    have dd' : KvOk X.K F' (as'.side (upd as1.R D (.dK us))) us acc := by rw [← eas]; exact dd
    have S5 := S4'.unsideO rB rD dd'
    have gr : Grow F1 as1 F' ((as'.side as1.R).add D) := by
      obtain ⟨ge, more, gl⟩ := g'
      exact ⟨ge, ⟨more ++ [D], by show as'.l ++ [D] = _; rw [gl, List.append_assoc]⟩, Ex.refl _⟩
    refine kR _ _ ⟨_, _, .o ow'.length, _, g1.trans gr, S5, ⟨D, ?_, rfl⟩, iend _ _ hI⟩
    show (as'.l ++ [D])[ow'.length]? = some D
    have ln : as'.l.length = ow'.length := S'.ln
    rw [← ln, List.getElem?_append_right (Nat.le_refl _), Nat.sub_self]
    rfl
theorem de_dc {x : Str} {px : Pos} {ifs : List Expr} {scope : Scope} {own : List (Str × Nat)} {ti : TId} {i : Nat} {tt : TXb} {tk tv : TX} (m : Cm X) (hN : X.N.Nodup) (ok : BlkOk X.N X.env.scope scope own) (hin : i ∈ own.map (·.2)) (hi : DI X (.Name x px) iter ti)
    (hg : ∀ (s : Shared) (H : Hp) (C : Addr) (cl : List (Str × Addr)) (fp : List Addr), PG (X.blk s H scope (compEnvC scope cl C X.env) fp) (.Name x px) (gName i))
    (ht : DTs X scope ifs tt)
    (hk : ∀ (s : Shared) (H : Hp) (C : Addr) (cl : List (Str × Addr)) (fp : List Addr), DE (X.blk s H scope (compEnvC scope cl C X.env) fp) kx tk)
    (he : ∀ (s : Shared) (H : Hp) (C : Addr) (cl : List (Str × Addr)) (fp : List Addr), DE (X.blk s H scope (compEnvC scope cl C X.env) fp) vx tv) (hs : ∀ x, foldedSetIterable iter X.env x = pure x := by intro _; rfl) :
    DE X (.DictComp kx vx [⟨.Name x px, iter, ifs, 0⟩] scope pos) (dDc ti i tt tk tv (own.map (·.2))) := by
  obtain ⟨wi, pi, ki⟩ := hi.run
  refine de_of (te' := tDc wi (gName i) (tTs X scope ifs) (bE X scope kx) (bE X scope vx) (own.map (·.2))) (pe_dc m.calm hN pi ok hg (fun s H C cl fp => ?_) (fun s H C cl fp => ⟨fun pins s' σ H' Q I h => h s H C cl fp pins s' I⟩) (fun s H C cl fp => ⟨fun pins s' σ H' Q I h => h s H C cl fp pins s' I⟩) hs) fun F as ow σ sl H Q S L q => dc_run hin ki ht hk he S L q fun _ _ z => z
  cases ht with
  | nil => exact pts_b0 s H C cl fp
  | one _ => exact pts_b s H C cl fp
end
/-- y = {..} on one line -/
theorem ps_setDc {X : Cx} {i : Nat} {y : Str} {py : Pos} {kx vx tg iter : Expr} {ifs : List Expr} {scope : Scope} {own : List (Str × Nat)} {pos spos : Pos} {wi : TI} {g : TG} {tt : TT} {tk tv : TE} (hc : X.calm = true) (hN : X.N.Nodup) (hy : X.N[i]? = some y) (hyl : X.env.scope.names.lookup y = some .local)
    (hsw : swapsWith (.DictComp kx vx [⟨tg, iter, ifs, 0⟩] scope pos) (some (.Name y py)) spos.line X.env = pure true) (hi : PI X tg iter wi) (ok : BlkOk X.N X.env.scope scope own)
    (hg : ∀ (s : Shared) (H : Hp) (C : Addr) (cl : List (Str × Addr)) (fp : List Addr), PG (X.blk s H scope (compEnvC scope cl C X.env) fp) tg g) (ht : ∀ (s : Shared) (H : Hp) (C : Addr) (cl : List (Str × Addr)) (fp : List Addr), PTs (X.blk s H scope (compEnvC scope cl C X.env) fp) ifs tt)
    (hk : ∀ (s : Shared) (H : Hp) (C : Addr) (cl : List (Str × Addr)) (fp : List Addr), PE (X.blk s H scope (compEnvC scope cl C X.env) fp) kx tk)
    (he : ∀ (s : Shared) (H : Hp) (C : Addr) (cl : List (Str × Addr)) (fp : List Addr), PE (X.blk s H scope (compEnvC scope cl C X.env) fp) vx tv) (hs : ∀ x, foldedSetIterable iter X.env x = pure x := by intro _; rfl) :
    PS X (.Assign [.Name y py] (.DictComp kx vx [⟨tg, iter, ifs, 0⟩] scope pos) spos) (tAsg (tDc wi g tt tk tv (own.map (·.2))) (gName i)) := by
  refine ⟨fun pins s σ H D I h => ?_⟩
  rw [exec_Assign_Name_used _ _ _ _ hsw]
  refine wpAny_bind (wpAny_standAt (wpAny_bind ?_))
  show wpAny _ X.A (do let _ ← comprehension (.DictComp kx vx [⟨tg, iter, ifs, 0⟩] scope pos) scope X.env (firstIterPos [⟨tg, iter, ifs, 0⟩] pos) newDict false (eval iter X.env) (some (assign (.Name y py) X.env))) _ _ s
  have h : tDc wi g tt tk tv (own.map (·.2)) σ H (fun x H1 => gName i x σ H1 D.nx) := h
  refine wpAny_bind (thn (dc_core (Qf := fun _ s' => SP X pins D .next s') hc hN I hi ok hg ht hk he hs h fun L C s' m H' I' q hn f => ?_) fun _ s' hq => wpAny_pure (wpAny_pure hq))
  show wpAny _ _ (assign (.Name y py) X.env (.ref L)) _ _ _
  refine wpAny_assign_Name (store_ok2 (v := V.ref L) I' hN hy (.inl hyl) rfl (fun s2 I2 ⟨a, sb, ha⟩ => ?_) (.inr hyl))
  obtain ⟨f0, f1, f2, f3, f4, f5⟩ := f
  have haC : C ≠ a := by
    rcases ha with z | z
    · rw [z]; exact f1
    · exact fun e => f4 y a z e.symm
  refine ⟨m, hn.sameBut sb haC, fun h3 sb3 => ?_⟩
  exact ⟨_, H', I2.turned (t' := s2.toks) (fun b o hb e => (sb3.2 b hb).trans e) f0 f1 f3 f4 f5, q⟩
theorem swd_true {kx vx : Expr} {gs : List Comprehension} {scope : Scope} {pos py : Pos} {y : Str} {l : Nat} {env : Env} (hk : env.scope.kind = .function) (hy : env.scope.names.lookup y = some .local) (hl : (py.line == pos.line) = true)
    (ha : (scope.names.any fun (n, k) => n == y && (k == .local || k == .cell)) = false) : swapsWith (.DictComp kx vx gs scope pos) (some (.Name y py)) l env = pure true := by
  have ky : env.kindOf y = some .local := hy
  have hb : env.blockKind = .function := by unfold Env.blockKind; rw [hk]; rfl
  unfold swapsWith
  simp only [hb, ky, ha, Expr.pos, hl]
  rfl
section
variable {X : DX} {e kx vx iter : Expr} {st : Stmt} {pos : Pos} {te : TX} {ts : TM}
theorem ds_dc {k : Nat} {y : Str} {py spos : Pos} {x : Str} {px : Pos} {ifs : List Expr} {scope : Scope} {own : List (Str × Nat)} {ti : TId} {i : Nat} {tt : TXb} {tk tv : TX} (m : Cm X) (hN : X.N.Nodup) (hy : X.N[k]? = some y) (hyl : X.env.scope.names.lookup y = some .local)
    (hsw : swapsWith (.DictComp kx vx [⟨.Name x px, iter, ifs, 0⟩] scope pos) (some (.Name y py)) spos.line X.env = pure true) (ok : BlkOk X.N X.env.scope scope own) (hin : i ∈ own.map (·.2)) (hi : DI X (.Name x px) iter ti)
    (hg : ∀ (s : Shared) (H : Hp) (C : Addr) (cl : List (Str × Addr)) (fp : List Addr), PG (X.blk s H scope (compEnvC scope cl C X.env) fp) (.Name x px) (gName i))
    (ht : DTs X scope ifs tt)
    (hk : ∀ (s : Shared) (H : Hp) (C : Addr) (cl : List (Str × Addr)) (fp : List Addr), DE (X.blk s H scope (compEnvC scope cl C X.env) fp) kx tk)
    (he : ∀ (s : Shared) (H : Hp) (C : Addr) (cl : List (Str × Addr)) (fp : List Addr), DE (X.blk s H scope (compEnvC scope cl C X.env) fp) vx tv) (hs : ∀ x, foldedSetIterable iter X.env x = pure x := by intro _; rfl) :
    DS X (.Assign [.Name y py] (.DictComp kx vx [⟨.Name x px, iter, ifs, 0⟩] scope pos) spos) (dSet k (dDc ti i tt tk tv (own.map (·.2)))) := by
  obtain ⟨wi, pi, ki⟩ := hi.run
  refine ds_of (t' := tAsg (tDc wi (gName i) (tTs X scope ifs) (bE X scope kx) (bE X scope vx) (own.map (·.2))) (gName k)) (ps_setDc m.calm hN hy hyl hsw pi ok hg (fun s H C cl fp => ?_) (fun s H C cl fp => ⟨fun pins s' σ H' Q I h => h s H C cl fp pins s' I⟩) (fun s H C cl fp => ⟨fun pins s' σ H' Q I h => h s H C cl fp pins s' I⟩) hs) fun F as ow σ sl H D S L q => ?_
  · cases ht with
    | nil => exact pts_b0 s H C cl fp
    | one _ => exact pts_b s H C cl fp
  · exact (dc_run hin ki ht hk he S L q fun v H1 ⟨F1, as1, r, ow1, g1, S1, r1, q1⟩ => ⟨F1, as1, _, ow1, g1, S1, (L.mono g1).set r1 k, q1⟩)
/-! ### a dict is walked -/
def fdctAt (ow : OW) (n : Nat) : Option (List (Key × Rv)) := match ow[n]? with
  | some (.fdct kvs) => some kvs
  | _ => none
theorem of_fdctAt {ow : OW} {n : Nat} {xs : List (Key × Rv)} (h : fdctAt ow n = some xs) : ow[n]? = some (.fdct xs) := by
  unfold fdctAt at h
  split at h
  · cases h
    assumption
  · cases h
def rK : Key → Rv
  | .inl i => .d (.int i)
  | .inr s => .d (.str s)
theorem rK_ok {K : FG} {F : Hp} {as : AS} {k : Key} : RvOk K F as (kV k) (rK k) := by
  cases k
  · exact Dd.int _
  · exact Dd.str _
/-- for k in d -/
def diKeys (te : TX) : TId := fun sl ow R => te sl ow fun r ow1 => match r with
  | .o n => ∃ kvs, fdctAt ow1 n = some kvs ∧ R (kvs.map fun kv => rK kv.1) (fun ow2 => fdctAt ow2 n = some kvs) ow1
  | _ => False
theorem di_keys {tg : Expr} (h : DE X e te) : DI X tg e (diKeys te) := ⟨_, pi_keys pe_w, fun F as ow σ sl H R S L q W k => (h.run F as ow σ sl H _ S L q).mono fun v H1 ⟨F1, as1, r, ow1, g1, S1, r1, q1⟩ => by
  dsimp only at q1
  split at q1
  · obtain ⟨kvs, e1, q1⟩ := q1
    obtain ⟨a, h1, rfl⟩ := r1
    obtain ⟨od, ws, h2, h3⟩ := S1.ob _ a _ h1 (of_fdctAt e1)
    refine ⟨a, od, rfl, .inl ⟨ws, S1.ex _ _ h2, k _ _ F1 as1 ow1 _ _ g1 S1 (fun F' as' ow' H' g' S' ho => ?_) q1⟩⟩
    have hH : H' a = some (.frz od (.dK ws)) := S'.ex _ _ (g'.ex _ _ h2)
    have hl : ws.length = kvs.length := Paired.len2 h3
    refine ⟨fun i r hi => ?_, ⟨hH, by rw [List.length_map, hl]; exact Nat.le_refl _⟩⟩
    rw [List.getElem?_map] at hi
    obtain ⟨kv, hk, rfl⟩ := Option.map_eq_some_iff.mp hi
    obtain ⟨⟨k', v'⟩, hw, e2, _⟩ := Paired.get2 h3 hk
    refine ⟨⟨hH, (List.getElem?_eq_some_iff.mp hw).1⟩, fun x H2 ⟨e3, k2, v2, e4, e5⟩ => ?_⟩
    subst e3
    rw [hw] at e4
    cases e4
    subst e5
    have e2 : k' = kv.1 := e2
    subst e2
    exact ⟨F', Grow.refl, S', rK_ok⟩
  · exact q1.elim⟩
def dLock (te : TX) : TX := fun sl ow Q => ∃ n kvs, dctAt ow n = some kvs ∧ te sl (ow.set n (.fdct kvs)) fun r ow1 => ∃ kvs', fdctAt ow1 n = some kvs' ∧ Q r (ow1.set n (.dct kvs'))
theorem de_lock (h : DE X e te) : DE X e (dLock te) := de_of (pe_lock pe_w) fun F as ow σ sl H Q S L ⟨n, kvs, e1, q⟩ => by
  obtain ⟨a, ha, _⟩ := S.mem (of_dctAt e1)
  obtain ⟨fa, ws, hH, hl⟩ := S.lock ha (of_dctAt e1)
  refine ⟨a, .dK ws, hH, True.intro, fun od => ?_⟩
  obtain ⟨g1, S1⟩ := hl od
  refine (h.run _ as _ σ sl _ _ S1 (L.mono g1) q).mono fun v H1 ⟨F1, as1, r, ow1, g2, S2, r2, kvs', e2, q2⟩ => ?_
  obtain ⟨g3, S3, r3⟩ := Sat.unlock fa S.gw g2 S2 ha (of_fdctAt e2)
  exact ⟨S2.ex _ _ (g2.ex _ _ upd_same), post_r g3 S3 (r3 v r r2) q2⟩
def lkR {α : Type} (n : Nat) (P : α → OW → Prop) : α → OW → Prop := fun r ow1 => ∃ kvs, fdctAt ow1 n = some kvs ∧ P r (ow1.set n (.dct kvs))
def dLockS (t : TM) : TM := fun D sl ow => ∃ n kvs, dctAt ow n = some kvs ∧ t ⟨lkR n D.nx, lkR n D.rt, lkR n D.bk, lkR n D.ct⟩ sl (ow.set n (.fdct kvs))
theorem ds_lock (h : DS X st ts) : DS X st (dLockS ts) := ds_of (ps_lock ps_w) fun F as ow σ sl H D S L ⟨n, kvs, e1, q⟩ => by
  obtain ⟨a, ha, _⟩ := S.mem (of_dctAt e1)
  obtain ⟨fa, ws, hH, hl⟩ := S.lock ha (of_dctAt e1)
  refine ⟨a, .dK ws, hH, True.intro, fun od => ?_⟩
  obtain ⟨g1, S1⟩ := hl od
  have z := h.run _ as _ σ sl _ _ S1 (L.mono g1) q
  refine z.mono ?_ ?_ ?_ ?_
  · rintro σ' H1 ⟨F1, as1, sl1, ow1, g2, S2, L2, kvs', e2, q2⟩
    obtain ⟨g3, S3, r3⟩ := Sat.unlock fa S.gw g2 S2 ha (of_fdctAt e2)
    exact ⟨S2.ex _ _ (g2.ex _ _ upd_same), _, _, sl1, _, g3, S3, ⟨L2.ln, fun i r e => let ⟨v, h1, h2⟩ := L2.at_ i r e; ⟨v, h1, r3 _ _ h2⟩⟩, q2⟩
  · rintro v H1 ⟨F1, as1, r, ow1, g2, S2, r2, kvs', e2, q2⟩
    obtain ⟨g3, S3, r3⟩ := Sat.unlock fa S.gw g2 S2 ha (of_fdctAt e2)
    exact ⟨S2.ex _ _ (g2.ex _ _ upd_same), post_r g3 S3 (r3 v r r2) q2⟩
  · rintro σ' H1 ⟨F1, as1, sl1, ow1, g2, S2, L2, kvs', e2, q2⟩
    obtain ⟨g3, S3, r3⟩ := Sat.unlock fa S.gw g2 S2 ha (of_fdctAt e2)
    exact ⟨S2.ex _ _ (g2.ex _ _ upd_same), _, _, sl1, _, g3, S3, ⟨L2.ln, fun i r e => let ⟨v, h1, h2⟩ := L2.at_ i r e; ⟨v, h1, r3 _ _ h2⟩⟩, q2⟩
  · rintro σ' H1 ⟨F1, as1, sl1, ow1, g2, S2, L2, kvs', e2, q2⟩
    obtain ⟨g3, S3, r3⟩ := Sat.unlock fa S.gw g2 S2 ha (of_fdctAt e2)
    exact ⟨S2.ex _ _ (g2.ex _ _ upd_same), _, _, sl1, _, g3, S3, ⟨L2.ln, fun i r e => let ⟨v, h1, h2⟩ := L2.at_ i r e; ⟨v, h1, r3 _ _ h2⟩⟩, q2⟩
end
/-! ### d.update(e) -/
def rUpd : V → List V → Hp → VK → Prop := fun x xs H Q => ∃ (a b : Addr) (kvs more : List (Key × V)), x = .ref a ∧ xs = [.ref b] ∧ a ≠ b ∧ H a = some (.dK kvs) ∧ H b = some (.dK more) ∧ kvs.length + more.length ≤ sizeLine ∧ Q .non (upd H a (.dK (mergeK kvs more)))
theorem mt_upd {X : Cx} : MtR X "dict.update" rUpd := by
  intro pins s σ H x xs v us Q I rx rxs h
  obtain ⟨a, b, kvs, more, rfl, rfl, hab, ha, hb, hz, q⟩ := h
  cases rx
  rw [Vals.ref1 rxs]
  obtain ⟨z1, lo1, vs1, rel1, dd1⟩ := dk_of I.hok ha
  obtain ⟨z2, lo2, vs2, rel2, dd2⟩ := dk_of I.hok hb
  refine call_meetsIn PySem.F.slot_dict_update dd1.typeIs PySem.F.entry_dict_update (PySem.F.args_dict_update_2 _ _) (meets_dict_update (mixKind X.prog X.w) a b hab lo2)
    ⟨vs1, vs2, dd1, dd2, by rw [← rel1.length, ← rel2.length]; exact hz, fun h' dd' _ hs => ?_⟩
  have he : ∃ u, h'.get? a = some u := let ⟨u, _, _, hu, _⟩ := dd'; ⟨u, hu⟩
  exact ⟨.non, upd H a (.dK (mergeK kvs more)), d_write (t' := s.toks) I (by rw [ha]; exact True.intro) hs he (dk_new (by have := length_mergeK more kvs; omega) lo1 (rel2.merge rel1) dd'), rfl, q⟩
def mergeR (kvs more : List (Key × Rv)) : List (Key × Rv) := more.foldl (fun acc kv => putR acc kv.1 kv.2) kvs
theorem kv_merge {K : FG} {F : Hp} {as : AS} : ∀ {more : List (Key × V)} {mr : List (Key × Rv)} {ws : List (Key × V)} {kvs : List (Key × Rv)}, KvOk K F as more mr → KvOk K F as ws kvs → KvOk K F as (mergeK ws more) (mergeR kvs mr)
  | _, _, _, _, .nil, h => h
  | (k, v) :: more, (k', r) :: mr, ws, kvs, .cons a t, h => by
    have e : k = k' := a.1
    subst e
    exact kv_merge (ws := putK ws k v) (kvs := putR kvs k r) t (kv_put h a.2)
section
variable {X : DX} {e : Expr} {pos : Pos} {te : TX} {t : TXa}
def isDct (x : Rv) (ow : OW) : Prop := ∃ n kvs, x = .o n ∧ dctAt ow n = some kvs
theorem isDct_ty {B : KB} {F H : Hp} {as : AS} {ow : OW} {v : V} {x : Rv} (S : Sat B F as ow H) (h : RvOk B.K F as v x) (k : isDct x ow) : tyV B.K "dict" v H := by
  obtain ⟨n, kvs, rfl, e⟩ := k
  obtain ⟨a, h1, rfl⟩ := h
  obtain ⟨_, ws, h2, _⟩ := S.ob _ a _ h1 (of_dctAt e)
  exact .inr (.inr (.inl ⟨rfl, .inl ⟨ws, h2⟩⟩))
def rUpdD : Rv → List Rv → OW → QR → Prop := fun x rs ow Q => match x, rs with
  | .o n, [.o m] => n ≠ m ∧ ∃ kvs more, dctAt ow n = some kvs ∧ dctAt ow m = some more ∧ kvs.length + more.length ≤ sizeLine ∧ Q (.d .none) (ow.set n (.dct (mergeR kvs more)))
  | _, _ => False
theorem bm_upd : BearsM X rUpd rUpdD := fun F0 as0 F as ow H v x vs xs Q g S rx hv q => by
  unfold rUpdD at q
  split at q
  · obtain ⟨hnm, kvs, more, e1, e2, hz, q⟩ := q
    obtain ⟨a, h1, rfl⟩ := rx
    obtain ⟨w, rfl, b, h2, rfl⟩ := one_v hv
    obtain ⟨fa, ws, h3, h4⟩ := S.ob _ a _ h1 (of_dctAt e1)
    obtain ⟨fb, us, h5, h6⟩ := S.ob _ b _ h2 (of_dctAt e2)
    refine ⟨a, b, ws, us, rfl, rfl, fun z => ?_, h3, h5, by rw [Paired.len2 h4, Paired.len2 h6]; exact hz, post_d g (S.wr (x := .dct _) h1 fa ⟨fa, _, upd_same, kv_merge h6 h4⟩) .non q⟩
    subst z
    exact hnm (nd_ix S.nd h1 h2)
  · exact q.elim
theorem de_upd {o : Expr} {to : TX} {apos cpos : Pos} (ho : DE X o to) (ha : DA X [e] t) (hbase : attributeBase o "update" X.env (eval o X.env) = eval o X.env := by rfl)
    (hfew : ((backTo cpos (starEach [e] X.env)).all (fun x => !x.1) && (backToKw cpos (keywordEach [] X.env)).all (fun x => x.1.isSome)
      && decide (([e] : List Expr).length + ([] : List Keyword).length + (if ([] : List Keyword).isEmpty then 0 else 1) < 30)) = true := by rfl)
    (hline : (apos.endLine == cpos.line) = true := by rfl) (hs : starEach [e] X.env = (false, eval e X.env) :: starEach [] X.env := by rfl) (hplain : (backTo cpos (starEach [] X.env)).any (·.1) = false := by rfl) :
    DE X (.Call (.Attribute o "update" apos) [e] [] cpos) (dMeth isDct rUpdD to t) := de_meth PySem.F.plainAttrs_dict PySem.F.slot_dict_update PySem.F.type_dict_update mt_upd bm_upd (fun F as ow H v x S r k => isDct_ty S r k) ho ha hbase hfew hline hs hplain
end
end DL
end
section
set_option Elab.async false
set_option linter.all false
set_option maxRecDepth 100000
set_option maxHeartbeats 1600000
/-! DL 10: defs: what they promise by data, calls; the end of a law -/
namespace DL
open PySem PySem.Spec PyProof.Rows L2 Evl
/-! ### exceptions by data -/
abbrev XD := Value → List (Str × Rv) → OW → Prop
abbrev XDs := Value → List (Str × Rv) → SL → OW → Prop
def ExF (K : FG) (F : Hp) (as : AS) (H : Hp) : Option Addr → List (Str × Rv) → Prop
  | none, fs => fs = []
  | some a, fs => ∃ ws, H a = some (.xd ws) ∧ Paired (fun p q => p.1 = q.1 ∧ RvOk K F as p.2 q.2) ws fs
def PostX (B : KB) (F : Hp) (as : AS) (QX : XD) : XK := fun c d H => ∃ F' as' fs ow', Grow F as F' as' ∧ Sat B F' as' ow' H ∧ ExF B.K F' as' H d fs ∧ QX c fs ow'
def wx (B : KB) (QX : XDs) : WX := fun c d σ H => ∃ F' as' sl fs ow', Sat B F' as' ow' H ∧ Sls B.K F' as' sl σ ∧ ExF B.K F' as' H d fs ∧ QX c fs sl ow'
def TkD (X : DX) (QX : XDs) : Prop := Takes X.toCx (wx X.kb QX)
def noX : XDs := fun _ _ _ _ => False
theorem tk_none {X : DX} : TkD X noX := fun u s' ⟨_, _, _, _, _, _, _, _, _, _, _, _, _, _, _, _, w⟩ => by
  obtain ⟨_, _, _, _, _, _, _, _, z⟩ := w
  exact z.elim
theorem TkD.imp {X : DX} {QX QX' : XDs} (h : TkD X QX) (k : ∀ c fs sl ow, QX' c fs sl ow → QX c fs sl ow) : TkD X QX' :=
  Takes.imp h fun c d σ H ⟨F', as', sl, fs, ow', S, L, e, q⟩ => ⟨F', as', sl, fs, ow', S, L, e, k _ _ _ _ q⟩
/-! ### promises -/
abbrev DSp := List Rv → OW → QR → XD → Prop
def lift (K : FG) (S : DSp) : Sp := fun vs H Q E => ∃ bF bA F as ow rs QD QX, Sat ⟨K, bF, bA⟩ F as ow H ∧ Paired (RvOk K F as) vs rs ∧ S rs ow QD QX ∧ (∀ v H', Post ⟨K, bF, bA⟩ F as QD v H' → Q v H') ∧ ∀ c d H', PostX ⟨K, bF, bA⟩ F as QX c d H' → E c d H'
/-- FnOk, and what is known of the guards where gu says so -/
structure FnG (P : Program) (w : World) (K : FG) (mg : Str → Option Value) (base : Heap) (CX : CXT) (gu : Bool) (k : Nat) (f : Addr) (fd : FuncData) (ps : List Str) (sp : Sp) : Prop where
  len : ∀ vs H Q E, sp vs H Q E → vs.length = ps.length
  run : ∀ (A : Around) (outer : List Env) (s : Shared) (H : Hp) (args : Args) (us : List Value) (vs : List V) (Q : VK) (E : XK), Room k A → (gu = true → A.guards = some []) → Env0 P w K mg base A outer s H → BindsTo s fd args (ps.zip us) → Vals vs us → sp vs H Q E →
    codeAny (model P w) A (.call (.ref f) args) (CR CX outer P w H s Q E) s
section
variable {P : Program} {w : World} {K : FG} {mg : Str → Option Value} {base : Heap} {CX : CXT} {gu : Bool} {k : Nat} {f : Addr} {fd : FuncData} {ps : List Str} {sp : Sp}
theorem FnG.of (F : FnOk P w K mg base CX k f fd ps sp) : FnG P w K mg base CX gu k f fd ps sp := ⟨F.len, fun A outer s H args us vs Q E hr _ => F.run A outer s H args us vs Q E hr⟩
theorem FnG.to (F : FnG P w K mg base CX false k f fd ps sp) : FnOk P w K mg base CX k f fd ps sp := ⟨F.len, fun A outer s H args us vs Q E hr => F.run A outer s H args us vs Q E hr fun z => nomatch z⟩
theorem okG {x qual : Str} {params : Arguments} {body : List Stmt} {scope : Scope} {dvs : List V} {kws : List (Str × V)} {N : List Str} (F : FunD K x qual params body scope dvs kws f fd) (S : FnScope N ps scope) (len : ∀ vs H Q E, sp vs H Q E → vs.length = ps.length)
    (hbody : ∀ (cdv : Value) (A : Around) (outer : List Env) (s : Shared) (H : Hp) (vs : List V) (Q : VK) (E : XK), Room k (A.deeper (envOfC qual scope s.heap.objs.size f cdv)) → (gu = true → A.guards = some []) → sp vs H Q E →
      ∃ t, PSs (cxOf CX P w K mg base N qual scope f cdv A outer s H E) body t ∧ t { nx := fun _ H' => Q .non H', rt := Q } (start N vs) H) : FnG P w K mg base CX gu (k + 1) f fd ps sp := by
  obtain ⟨oc, od, dV, kV, doc, pm, an, cdv, ct, osl, rfl, lk, hcd, _, _⟩ := F.ex
  refine ⟨len, fun A outer s H args us vs Q E hr hgd e0 hb r hsp => ?_⟩
  have hl := len _ _ _ _ hsp
  have KX : K.In s.heap := e0.mod.kin.keeps fun b o e => (e0.bs b o e).1
  have lim : s.heap.NoLimit := e0.mod.nolimit.keeps fun b o e => (e0.bs b o e).1
  have hkind : ∀ y ∈ ps.zip us, scope.names.lookup y.1 = some .local ∨ (scope.names.lookup y.1 = some .cell ∧ ((cellsFrom (s.heap.objs.size + 1) scope.names []).lookup y.1).isSome = true) := fun ⟨n, v⟩ hy => by
    rcases S.par n (List.of_mem_zip hy).1 with q | q
    · exact .inl q
    · exact .inr ⟨q, PySem.W.cellsFrom_some _ _ _ (.inl q)⟩
  refine codeAny_call_function hr.depth (KX _ _ lk) rfl S.co S.gen rfl (PySem.W.codeRec_of KX hcd) (hb _ _ _ _ ?_)
  refine wpAny_newFunctionEnv_cells S.kind hkind fun env he s1 x => ?_
  subst he
  refine ⟨lim.keeps x.toInCall.keep, codeAny_func ?_⟩
  obtain ⟨t, ht, hq⟩ := hbody cdv A outer s H vs Q E (hr.deeper _) hgd hsp
  have I : Inv (cxOf CX P w K mg base N qual scope f cdv A outer s H E) [] (start N vs) H s1 := inv_start S hr.hd e0 hl r x
  refine wpAny_mono (ht.run [] s1 (start N vs) H _ I hq) (fun fl s' hs => ?_) fun e s' hs => hs
  have fin : ∀ {σ' : L2.St} {H' : Hp} {v : V} {u : Value}, Inv (cxOf CX P w K mg base N qual scope f cdv A outer s H E) [] σ' H' s' → RelV v u → Q v H' → CE outer P w H s Q u s' :=
    fun {σ' H' v u} J rv q => ⟨v, H', J.os, J.bare, J.base, J.hok, rv, q⟩
  cases fl with
  | ret u =>
    obtain ⟨v, σ', H', J, rv, q⟩ := hs
    exact fin J rv q
  | next =>
    obtain ⟨σ', H', J, q⟩ := hs
    exact fin (v := V.non) (u := Value.none) J rfl q
  | brk =>
    obtain ⟨_, _, _, q⟩ := hs
    exact False.elim q
  | cont =>
    obtain ⟨_, _, _, q⟩ := hs
    exact False.elim q
end
/-! ### a def's body by data -/
abbrev dxOf (P : Program) (w : World) (K : FG) (mg : Str → Option Value) (base : Heap) (N : List Str) (qual : Str) (scope : Scope) (f : Addr) (cdv : Value) (A : Around) (outer : List Env) (s : Shared) (H : Hp) (E : XK) (F : Hp) (as : AS) : DX :=
  { toCx := cxOf (L2.CX P w) P w K mg base N qual scope f cdv A outer s H E, bF := F, bA := as }
def startR (N : List Str) (rs : List Rv) : SL := rs.map some ++ List.replicate (N.length - rs.length) none
theorem start_sls {K : FG} {F : Hp} {as : AS} {N : List Str} {vs : List V} {rs : List Rv} (h : Paired (RvOk K F as) vs rs) : Sls K F as (startR N rs) (start N vs) := by
  have hl := Paired.len2 h
  refine ⟨by unfold startR L2.start; simp [hl], fun i r e => ?_⟩
  unfold startR at e
  unfold L2.start
  by_cases hi : i < rs.length
  · rw [List.getElem?_append_left (by simpa using hi), List.getElem?_map] at e
    obtain ⟨y, hy, e2⟩ := Option.map_eq_some_iff.mp e
    cases e2
    obtain ⟨v, hv, rv⟩ := Paired.get2 h hy
    refine ⟨v, ?_, rv⟩
    rw [List.getElem?_append_left (by rw [List.length_map, hl]; exact hi), List.getElem?_map, hv]
    rfl
  · rw [List.getElem?_append_right (by simpa using hi), List.getElem?_replicate] at e
    split at e <;> cases e
theorem sat_kb {K : FG} {bF F F' H : Hp} {bA as as' : AS} {ow : OW} (gw : Grow bF bA F as) (S : Sat ⟨K, F, as⟩ F' as' ow H) : Sat ⟨K, bF, bA⟩ F' as' ow H := ⟨S.ex, S.nd, S.ln, S.al, S.rr, S.ob, gw.trans S.gw⟩
section
variable {P : Program} {w : World} {K : FG} {mg : Str → Option Value} {base : Heap} {gu : Bool} {k : Nat} {f : Addr} {fd : FuncData} {ps : List Str}
theorem okD {x qual : Str} {params : Arguments} {body : List Stmt} {scope : Scope} {dvs : List V} {kws : List (Str × V)} {N : List Str} {S : DSp} (F : FunD K x qual params body scope dvs kws f fd) (sc : FnScope N ps scope) (len : ∀ rs ow Q E, S rs ow Q E → rs.length = ps.length)
    (hbody : ∀ (cdv : Value) (A : Around) (outer : List Env) (s : Shared) (H : Hp) (E : XK) (F : Hp) (as : AS) (rs : List Rv) (ow : OW) (QD : QR) (QX : XD), Room k (A.deeper (envOfC qual scope s.heap.objs.size f cdv)) → (gu = true → (A.deeper (envOfC qual scope s.heap.objs.size f cdv)).guards = some []) →
      TkD (dxOf P w K mg base N qual scope f cdv A outer s H E F as) (fun c fs _ ow' => QX c fs ow') → S rs ow QD QX →
      ∃ t, DB (dxOf P w K mg base N qual scope f cdv A outer s H E F as) body t ∧ t { nx := fun _ ow' => QD (.d .none) ow', rt := QD } (startR N rs) ow) : FnG P w K mg base (L2.CX P w) gu (k + 1) f fd ps (lift K S) := by
  refine okG F sc (fun vs H Q E ⟨bF, bA, F, as, ow, rs, QD, QX, S, hp, h, _⟩ => (Paired.len2 hp).trans (len _ _ _ _ h)) fun cdv A outer s H vs Q E hr hgd ⟨bF, bA, F, as, ow, rs, QD, QX, S, hp, h, k1, k2⟩ => ?_
  have S0 : Sat ⟨K, F, as⟩ F as ow H := ⟨S.ex, S.nd, S.ln, S.al, S.rr, S.ob, Grow.refl⟩
  have toP : ∀ v H', Post ⟨K, F, as⟩ F as QD v H' → Q v H' := fun v H' ⟨F', as', r, ow', g, S', rv, q⟩ => k1 v H' ⟨F', as', r, ow', g, sat_kb S.gw S', rv, q⟩
  have tk : TkD (dxOf P w K mg base N qual scope f cdv A outer s H E F as) (fun c fs _ ow' => QX c fs ow') :=
    Takes.imp (takes_of rfl rfl rfl rfl) fun c d σ H' ⟨F', as', sl, fs, ow', S', L, e, q⟩ => k2 c d H' ⟨F', as', fs, ow', S'.gw, sat_kb S.gw S', e, q⟩
  obtain ⟨t, ht, hq⟩ := hbody cdv A outer s H E F as rs ow QD QX hr (fun z => hgd z) tk h
  refine ⟨_, pss_w, ?_⟩
  have z := ht.run F as ow (start N vs) (startR N rs) H _ S0 (start_sls hp) hq
  refine z.mono ?_ ?_ ?_ ?_
  · rintro σ' H' ⟨F', as', sl, ow', g, S', L, q⟩
    exact toP _ _ ⟨F', as', .d .none, ow', g, S', Dd.non, q⟩
  · exact fun v H' q => toP v H' q
  · rintro σ' H' ⟨F', as', sl, ow', g, S', L, q⟩
    exact q.elim
  · rintro σ' H' ⟨F', as', sl, ow', g, S', L, q⟩
    exact q.elim
/-! ### calls -/
/-- n positional values, keywords ks; gD puts them (and the defaults) in the parameters' order -/
structure DBn (K : FG) (fd : FuncData) (ps : List Str) (n : Nat) (ks : List Str) (gD : List Rv → List Rv → List Rv) : Prop where
  ex : ∃ g gV, KBn K fd ps n ks g gV ∧ ∀ (F : Hp) (as : AS) (vs zs : List V) (rs qs : List Rv), Paired (RvOk K F as) vs rs → Paired (RvOk K F as) zs qs → rs.length = n → qs.length = ks.length → Paired (RvOk K F as) (gV vs zs) (gD rs qs)
/-- every parameter is given by place -/
theorem DBn.all {n : Nat} (h : ∀ us : List Value, us.length = n → bindArgs fd ⟨us, []⟩ = pure (ps.zip us)) : DBn K fd ps n [] (fun rs _ => rs) :=
  ⟨fun us _ => us, fun vs _ => vs, ⟨fun s us ws X l1 l2 => .of_eq (h us l1), fun r _ => r⟩, fun F as vs zs rs qs h1 h2 _ _ => h1⟩
/-- every parameter is given, some by name: g orders them -/
theorem DBn.kws {n : Nat} {ks : List Str} (g : {α : Type} → List α → List α → List α) (hg : ∀ {α β : Type} (G : α → β → Prop) {vs zs : List α} {us ws : List β}, Paired G vs us → Paired G zs ws → Paired G (g vs zs) (g us ws))
    (h : ∀ us ws : List Value, us.length = n → ws.length = ks.length → bindArgs fd ⟨us, ks.zip ws⟩ = pure (ps.zip (g us ws))) : DBn K fd ps n ks (fun rs qs => g rs qs) :=
  ⟨fun us ws => g us ws, fun vs zs => g vs zs, ⟨fun s us ws X l1 l2 => .of_eq (h us ws l1 l2), fun r1 r2 => hg _ r1 r2⟩, fun F as vs zs rs qs h1 h2 _ _ => hg _ h1 h2⟩
/-- the call by name as it stands in a law's text -/
structure DFn (P : Program) (w : World) (K : FG) (mg : Str → Option Value) (base : Heap) (gu : Bool) (k : Nat) (x : Str) (n : Nat) (ks : List Str) (gD : List Rv → List Rv → List Rv) (S : DSp) : Prop where
  ex : ∃ f fd ps, FnG P w K mg base (L2.CX P w) gu k f fd ps (lift K S) ∧ mg x = some (.ref f) ∧ PySem.W.keepIn K (.ref f) = true ∧ DBn K fd ps n ks gD
end
/-- the values of the keywords -/
def wK (X : Cx) (kws : List Keyword) : TA := fun σ H Q => ∀ (pos : Pos) (pins : List (Addr × Obj)) (s : Shared), Inv X pins σ H s → wpAny (model X.prog X.w) X.A (evalAll ((backToKw pos (keywordEach kws X.env)).map (·.2))) (AP X pins σ Q) X.xe s
theorem pk_w {X : Cx} {kws : List Keyword} : PK X kws (wK X kws) := ⟨fun pos pins s σ H Q I h => h pos pins s I⟩
theorem wK.mono {X : Cx} {kws : List Keyword} {σ : L2.St} {H : Hp} {Q Q' : List V → Hp → Prop} (h : wK X kws σ H Q) (k : ∀ v H', Q v H' → Q' v H') : wK X kws σ H Q' := fun pos pins s I => thn (h pos pins s I) fun u s' ⟨v, H', I', r, q⟩ => ⟨v, H', I', r, k v H' q⟩
structure DK (X : DX) (kws : List Keyword) (t : TXa) : Prop where
  run : ∀ (F : Hp) (as : AS) (ow : OW) (σ : L2.St) (sl : SL) (H : Hp) (Q : List Rv → OW → Prop), Sat X.kb F as ow H → Sls X.K F as sl σ → t sl ow Q → wK X kws σ H (PostA X.kb F as Q)
section
variable {X : DX} {gu : Bool} {k n : Nat} {x : Str} {ks : List Str} {gD : List Rv → List Rv → List Rv} {Sx : DSp} {QX : XDs} {p pos kpos : Pos} {e : Expr} {es : List Expr} {kws : List Keyword} {te : TX} {t tk' : TXa} {nm : Option Str}
theorem dk_nil : DK X [] dNil := ⟨fun F as ow σ sl H Q S L q pos pins s I => pk_nil.run pos pins s σ H _ I ⟨F, as, [], ow, Grow.refl, S, .nil, q⟩⟩
theorem dk_cons (h : DE X e te) (hr : DK X kws t) : DK X (⟨nm, e, kpos⟩ :: kws) (dCons te t) := ⟨fun F as ow σ sl H Q S L q pos pins s I =>
  (pk_cons (nm := nm) (kpos := kpos) pe_w pk_w).run pos pins s σ H _ I ((h.run F as ow σ sl H _ S L q).mono fun v H1 ⟨F1, as1, y, ow1, g1, S1, r1, q1⟩ =>
    (hr.run F1 as1 ow1 σ sl H1 _ S1 (L.mono g1) q1).mono fun vs H2 ⟨F2, as2, xs, ow2, g2, S2, r2, q2⟩ => ⟨F2, as2, y :: xs, ow2, g1.trans g2, S2, .cons (r1.mono g2) r2, q2⟩)⟩
theorem run_g {Y : Cx} {pins : List (Addr × Obj)} {σ : L2.St} {H : Hp} {s : Shared} {Q : VK} {us ws : List Value} {vs zs : List V} {f : Addr} {fd : FuncData} {ps : List Str} {sp : Sp} {W : WX} {g : List Value → List Value → List Value} {gV : List V → List V → List V}
    (F : FnG Y.prog Y.w Y.K Y.mg Y.base (L2.CX Y.prog Y.w) gu k f fd ps sp) (hr : Room k Y.A) (hgd : gu = true → Y.A.guards = some []) (hb : KBn Y.K fd ps n ks g gV) (tk : Takes Y W)
    (I : Inv Y pins σ H s) (r : Vals vs us) (rz : Vals zs ws) (l1 : vs.length = n) (l2 : zs.length = ks.length) (h : sp (gV vs zs) H Q (WE W σ)) : wpAny (model Y.prog Y.w) Y.A (call (.ref f) us (ks.zip ws)) (EP Y pins σ Q) Y.xe s := by
  have r2 := hb.rel r rz
  refine wpAny_call (codeAny_mono (F.run Y.A Y.stack s H ⟨us, ks.zip ws⟩ (g us ws) (gV vs zs) Q _ hr hgd I.env0 (hb.to s us ws I.kIn (r.length.symm.trans l1) (rz.length.symm.trans l2)) r2 h) fun r s' hq => ?_)
  cases r with
  | error e => exact passAt tk σ pins H s e s' I hq
  | ok fl =>
    cases fl with
    | ret u => exact I.after hq
    | next => exact False.elim hq
    | brk => exact False.elim hq
    | cont => exact False.elim hq
def dCall (n : Nat) (gD : List Rv → List Rv → List Rv) (S : DSp) (QX : XDs) (t : TXa) : TX := fun sl ow Q => t sl ow fun rs ow1 => rs.length = n ∧ S (gD rs []) ow1 Q fun c fs ow' => QX c fs sl ow'
def dCallK (n m : Nat) (gD : List Rv → List Rv → List Rv) (S : DSp) (QX : XDs) (t tk : TXa) : TX := fun sl ow Q => t sl ow fun rs ow1 => tk sl ow1 fun qs ow2 => rs.length = n ∧ qs.length = m ∧ S (gD rs qs) ow2 Q fun c fs ow' => QX c fs sl ow'
theorem exf_post {B : KB} {F : Hp} {as : AS} {sl : SL} {σ : L2.St} {c : Value} {d : Option Addr} {H : Hp} (L : Sls B.K F as sl σ) (h : PostX B F as (fun c fs ow' => QX c fs sl ow') c d H) : wx B QX c d σ H := by
  obtain ⟨F', as', fs, ow', g, S', e, q⟩ := h
  exact ⟨F', as', sl, fs, ow', S', L.mono g, e, q⟩
theorem de_call (h : DFn X.prog X.w X.K X.mg X.base gu k x n [] gD Sx) (hr : Room k X.A) (hgd : gu = true → X.A.guards = some []) (tk : TkD X QX) (hg : Gl X x) (ha : DA X (e :: es) t)
    (hdb : (x == ("__debug__" : Str)) = false := by decide) (he : starEach (e :: es) X.env = (false, eval e X.env) :: starEach es X.env := by rfl) (hpl : (backTo pos (starEach es X.env)).any (·.1) = false := by rfl) :
    DE X (.Call (.Name x p) (e :: es) [] pos) (dCall n gD Sx QX t) := by
  obtain ⟨f, fd, ps, F, hm, hk, ⟨g, gV, hb, hD⟩⟩ := h.ex
  refine ⟨fun F0 as0 ow0 σ sl H Q S L q pins s I => ?_⟩
  refine wpAny_Call_Name_kw (ld_glob I hg hm ?_ hdb)
  refine PySem.W.callWith_K (h₀ := X.base) I.ok.mod.kin hk (thn (ha.run F0 as0 ow0 σ sl H _ S L q pos pins s I) fun us s1 ⟨vs, H1, I1, r, ⟨F1, as1, rs, ow1, g1, S1, r1, l1, q1⟩⟩ => ⟨I1.kIn, ?_⟩) he hpl
  refine run_g (ws := []) (zs := []) F hr hgd hb tk I1 r .nil ((Paired.len2 r1).trans l1) rfl ?_
  exact ⟨X.bF, X.bA, F1, as1, ow1, gD rs [], Q, _, S1, hD F1 as1 vs [] rs [] r1 .nil l1 rfl, q1, fun v H' z => Post.trans g1 z, fun c d H' z => exf_post (B := X.kb) (L.mono g1) z⟩
theorem de_call0 (h : DFn X.prog X.w X.K X.mg X.base gu k x n [] gD Sx) (hr : Room k X.A) (hgd : gu = true → X.A.guards = some []) (tk : TkD X QX) (hg : Gl X x)
    (hdb : (x == ("__debug__" : Str)) = false := by decide) : DE X (.Call (.Name x p) [] [] pos) (dCall n gD Sx QX dNil) := by
  obtain ⟨f, fd, ps, F, hm, hk, ⟨g, gV, hb, hD⟩⟩ := h.ex
  refine ⟨fun F0 as0 ow0 σ sl H Q S L q pins s I => ?_⟩
  obtain ⟨l1, q1⟩ := q
  refine wpAny_Call_Name_kw (ld_glob I hg hm ?_ hdb)
  refine PySem.W.callWith_K0 I.kIn hk ?_
  refine run_g (us := []) (ws := []) (vs := []) (zs := []) F hr hgd hb tk I .nil .nil l1 rfl ?_
  exact ⟨X.bF, X.bA, F0, as0, ow0, gD [] [], Q, _, S, hD F0 as0 [] [] [] [] .nil .nil l1 rfl, q1, fun v H' z => z, fun c d H' z => exf_post (B := X.kb) L z⟩
theorem de_callK (h : DFn X.prog X.w X.K X.mg X.base gu k x n ks gD Sx) (hr : Room k X.A) (hgd : gu = true → X.A.guards = some []) (tk : TkD X QX) (hg : Gl X x) (ha : DA X (e :: es) t) (hkw : DK X kws tk')
    (hall : (backToKw pos (keywordEach kws X.env)).all (·.1.isSome) = true := by rfl) (hks : (backToKw pos (keywordEach kws X.env)).filterMap (·.1) = ks := by rfl)
    (hdb : (x == ("__debug__" : Str)) = false := by decide) (he : starEach (e :: es) X.env = (false, eval e X.env) :: starEach es X.env := by rfl)
    (hpl : ((backTo pos (starEach (e :: es) X.env)).any (·.1) || (backToKw pos (keywordEach kws X.env)).any (·.1.isNone)) = false := by rfl) (hml : ks.length = m := by rfl) :
    DE X (.Call (.Name x p) (e :: es) kws pos) (dCallK n m gD Sx QX t tk') := by
  subst hml
  obtain ⟨f, fd, ps, F, hm, hk, ⟨g, gV, hb, hD⟩⟩ := h.ex
  refine ⟨fun F0 as0 ow0 σ sl H Q S L q pins s I => ?_⟩
  refine wpAny_Call_Name_kw (ld_glob I hg hm ?_ hdb)
  refine PySem.W.callWith_KW (h₀ := X.base) I.ok.mod.kin hk hall (thn (ha.run F0 as0 ow0 σ sl H _ S L q pos pins s I) fun us s1 ⟨vs, H1, I1, r, ⟨F1, as1, rs, ow1, g1, S1, r1, q1⟩⟩ => ?_) hpl he
  refine thn (hkw.run F1 as1 ow1 σ sl H1 _ S1 (L.mono g1) q1 pos pins s1 I1) fun ws s2 ⟨zs, H2, I2, rz, ⟨F2, as2, qs, ow2, g2, S2, r2, l1, l2, q2⟩⟩ => ⟨I2.kIn, ?_⟩
  rw [hks]
  have r1' := Paired.monoP (fun _ _ z => RvOk.mono g2 z) r1
  refine run_g F hr hgd hb tk I2 r rz ((Paired.len2 r1).trans l1) ((Paired.len2 r2).trans l2) ?_
  exact ⟨X.bF, X.bA, F2, as2, ow2, gD rs qs, Q, _, S2, hD F2 as2 vs zs rs qs r1' r2 l1 l2, q2, fun v H' z => Post.trans (g1.trans g2) z, fun c d H' z => exf_post (B := X.kb) (L.mono (g1.trans g2)) z⟩
theorem de_callK0 (h : DFn X.prog X.w X.K X.mg X.base gu k x n ks gD Sx) (hr : Room k X.A) (hgd : gu = true → X.A.guards = some []) (tk : TkD X QX) (hg : Gl X x) (hkw : DK X kws tk')
    (hall : (backToKw pos (keywordEach kws X.env)).all (·.1.isSome) = true := by rfl) (hks : (backToKw pos (keywordEach kws X.env)).filterMap (·.1) = ks := by rfl)
    (hdb : (x == ("__debug__" : Str)) = false := by decide)
    (hpl : ((backTo pos (starEach [] X.env)).any (·.1) || (backToKw pos (keywordEach kws X.env)).any (·.1.isNone)) = false := by rfl) (hml : ks.length = m := by rfl) :
    DE X (.Call (.Name x p) [] kws pos) (dCallK n m gD Sx QX dNil tk') := by
  subst hml
  obtain ⟨f, fd, ps, F, hm, hk, ⟨g, gV, hb, hD⟩⟩ := h.ex
  refine ⟨fun F0 as0 ow0 σ sl H Q S L q pins s I => ?_⟩
  refine wpAny_Call_Name_kw (ld_glob I hg hm ?_ hdb)
  refine PySem.W.callWith_KW0 (h₀ := X.base) I.ok.mod.kin hk hall ?_ hpl
  refine thn (hkw.run F0 as0 ow0 σ sl H _ S L q pos pins s I) fun ws s2 ⟨zs, H2, I2, rz, ⟨F2, as2, qs, ow2, g2, S2, r2, l1, l2, q2⟩⟩ => ⟨I2.kIn, ?_⟩
  rw [hks]
  refine run_g (us := []) (vs := []) F hr hgd hb tk I2 .nil rz l1 ((Paired.len2 r2).trans l2) ?_
  exact ⟨X.bF, X.bA, F2, as2, ow2, gD [] qs, Q, _, S2, hD F2 as2 [] zs [] qs .nil r2 l1 l2, q2, fun v H' z => Post.trans g2 z, fun c d H' z => exf_post (B := X.kb) (L.mono g2) z⟩
end
end DL
end
section
set_option Elab.async false
set_option linter.all false
set_option maxRecDepth 100000
set_option maxHeartbeats 1600000
/-! DL 11: the end of a law -/
namespace DL
open PySem PySem.Spec PyProof.Rows L2 Evl
/-- the call of law by the caller; what is known of the guards is handed on -/
theorem law_callG {P : Program} {w : World} {K : FG} {mg mb : Str → Option Value} {CX : CXT} {k : Nat} {fa a : Addr} {fd : FuncData} {x : Str} {sp : Sp} {s₁ : Shared} {vs : List Value} {ns : List Int}
    (KX : K.In s₁.heap) (hns : s₁.heap.Ns mainGlobals mg) (hb : s₁.heap.Ns builtinsNs mb) (hbb : ∀ x : Str, x ≠ "__name__" → mb x = bootBuiltins x) (hlim : s₁.heap.NoLimit) (hg : s₁.gens = #[])
    (ha : s₁.heap.get? a = some { cls := .type "list", data := .seq vs.toArray }) (hi : IntsAre vs ns) (hl : ns.length ≤ sizeLine) (hr : Room k callerA)
    (F : ∀ base : Heap, K.In base → base.Ns mainGlobals mg → FnG P w K mg base CX true k fa fd [x] sp) (hbind : ∀ (s : Shared) (u : Value), BindsTo s fd ⟨[u], []⟩ [(x, u)])
    (hsp : ∀ H : Hp, Only H → SqL K H a (ns.map V.int) → sp [.ref a] H (fun v _ => v = .bl true) fun _ _ _ => False)
    (hCX : ∀ H e s', CX [] H s₁ (fun _ _ _ => False) e s' → False) :
    codeAny (model P w) callerA (.call (.ref fa) ⟨[.ref a], []⟩) (fun r s' => r = .ok (.ret (.bool true)) ∧ OldK s₁.heap s'.heap ∧ s'.os = s₁.os ∧ AllBare s'.gens) s₁ := by
  have rv := vals_ints hi
  have lenV := hi.length
  have core : ∀ H : Hp, Only H → SqL K H a (ns.map V.int) → HOk P w H s₁.heap → (∀ b, H b ≠ none → b = a) → (H a ≠ none → K.lookup a = none) →
      codeAny (model P w) callerA (.call (.ref fa) ⟨[.ref a], []⟩) (fun r s' => r = .ok (.ret (.bool true)) ∧ OldK s₁.heap s'.heap ∧ s'.os = s₁.os ∧ AllBare s'.gens) s₁ := by
    intro H hO hS hok hA hK
    have base_of : ∀ {b : Addr} {o : Obj}, s₁.heap.get? b = some o → H b = none → (hidT s₁.heap H).get? b = some o := fun e n => hidT_get e n
    have noA : ∀ {b : Addr} {o : Obj} {es : Array DictEntry} {ep : Nat}, s₁.heap.get? b = some o → o.data = .dict es ep → H b = none := fun {b o es ep} e d => by
      cases q : H b with
      | none => rfl
      | some u =>
        have e' : b = a := hA b (by rw [q]; simp)
        subst e'
        rw [ha] at e; cases e
        have d' : Data.seq vs.toArray _ = Data.dict es ep := d
        cases d'
    have nsK : ∀ {b : Addr} {m : Str → Option Value}, s₁.heap.Ns b m → (hidT s₁.heap H).Ns b m := fun {b m} ⟨o, es, ep, e, d, r⟩ => ⟨o, es, ep, base_of e (noA e d), d, r⟩
    have hKb : K.In (hidT s₁.heap H) := fun b o e => base_of (KX b o e) (by
      cases q : H b with
      | none => rfl
      | some u =>
        have e' : b = a := hA b (by rw [q]; simp)
        subst e'
        rw [hK (by rw [q]; simp)] at e; cases e)
    have hM : Mod K mg (hidT s₁.heap H) := ⟨hKb, nsK hns, ⟨mb, nsK hb, hbb⟩, let ⟨mc, h1, h2⟩ := hlim; ⟨mc, nsK h1, h2⟩⟩
    have e0 : Env0 P w K mg (hidT s₁.heap H) callerA [] s₁ H := ⟨rfl, hM, fun b o e => of_hidT e, Nat.le_of_eq (hidT_size _ _), trivial, fun b hb => absurd (show b ∈ ([] : List Addr) from hb) (by simp), hok, .of_eq hg⟩
    refine codeAny_mono ((F _ hKb (nsK hns)).run callerA [] s₁ H ⟨[.ref a], []⟩ [.ref a] [.ref a] _ _ hr (fun _ => rfl) e0 (hbind s₁ (.ref a)) (.cons rfl .nil) (hsp H hO hS)) fun r s' h => ?_
    cases r with
    | error e => exact (hCX H e s' h).elim
    | ok fl =>
      cases fl with
      | next => exact False.elim h
      | brk => exact False.elim h
      | cont => exact False.elim h
      | ret u =>
        obtain ⟨v, H', os, bare, un, hok', r', q⟩ := h
        have q' : v = .bl true := q
        subst q'
        obtain rfl : u = Value.bool true := r'
        refine ⟨rfl, OldK.of_keep fun b o e => ?_, os, bare⟩
        cases q : H b with
        | none => exact un.keep b o e q (by intro z; exact absurd (show b ∈ ([] : List Addr) from z) (by simp)) (by simp)
        | some u =>
          rcases hO b with z | ⟨ob, xs, z⟩
          · rw [q] at z; cases z
          · have z2 := un.frzs b ob _ z
            obtain ⟨e1, _⟩ := hok b _ z
            obtain ⟨e2, _⟩ := hok' b _ z2
            rw [e] at e1; cases e1
            exact e2
  cases hk : K.lookup a with
  | some o =>
    have e := KX a o hk
    rw [ha] at e
    cases e
    refine core (fun _ => none) (fun _ => .inl rfl) (.inr ⟨_, vs.toArray, _, hk, rfl, rfl, rfl, by rw [List.size_toArray, lenV]; exact hl, by simpa using rv⟩) (fun b u z => by have z' : (none : Option HO) = some u := z; cases z') (fun b z => absurd rfl z) fun z => absurd rfl z
  | none =>
    refine core (fun b => if b = a then some (.frz { cls := .type "list", data := .seq vs.toArray } (.lst (ns.map V.int))) else none) (fun b => ?_) (.inl (.inr ⟨{ cls := .type "list", data := .seq vs.toArray }, if_pos rfl⟩)) (fun b u z => ?_) (fun b z => ?_) fun _ => hk
    · by_cases hb : b = a
      · exact .inr ⟨_, _, if_pos hb⟩
      · exact .inl (if_neg hb)
    · by_cases hb : b = a
      · have z' := (if_pos hb).symm.trans z
        cases z'
        subst hb
        exact ⟨ha, by rw [List.length_map]; exact hl, vs, _, rv, ha⟩
      · have z' := (if_neg hb).symm.trans z
        cases z'
    · by_cases hb : b = a
      · exact hb
      · exact absurd (if_neg hb) z
theorem cx_false {P : Program} {w : World} {H : Hp} {s : Shared} {e : Value} {s' : Shared} (h : L2.CX P w [] H s (fun _ _ _ => False) e s') : False := by
  obtain ⟨_, _, _, _, _, _, _, _, _, _, _, _, z⟩ := h
  exact z
/-- law's promise as the caller wants it -/
theorem lift_law {K : FG} {S : DSp} {H : Hp} {a : Addr} {ns : List Int} (hS : SqL K H a (ns.map V.int)) (h : S [.f ns] [] (fun r _ => r = .d (.bool true)) fun _ _ _ => False) : lift K S [.ref a] H (fun v _ => v = .bl true) fun _ _ _ => False := by
  refine ⟨H, ⟨[], fun _ => none⟩, H, ⟨[], fun _ => none⟩, [], [.f ns], _, _, ⟨Ex.refl H, List.nodup_nil, rfl, fun a ha => (by simp at ha), fun b u e => (by cases e), fun n b x h1 h2 => (by simp at h1), Grow.refl⟩, .cons ⟨a, rfl, hS⟩ .nil, h, fun v H' ⟨F', as', r, ow', g, S', rv, q⟩ => ?_, fun c d H' ⟨_, _, _, _, _, _, _, z⟩ => z⟩
  have q : r = .d (.bool true) := q
  subst q
  cases rv
  rfl
theorem walk_d {l : PySem.W.OpenLaw} {n k : Nat} {q : Program} {loose : List Str} {XP : (Str → Option Value) → Heap → Prop} {YP : World → Heap → Prop} {d : DefRec} {K : Params → PySem.W.Frag} {S : DSp} {x : Str}
    (hn : l.most = some n) (hn2 : n ≤ sizeLine) (hdf : d.params.defaults = []) (hr : Room k callerA)
    (hY : ∀ (w : World) (h : Heap), YP w h → (K w.params).In h)
    (F : ∀ (w : World) (mg : Str → Option Value) (fa : Addr) (h : Heap), (K w.params).In h → h.Ns mainGlobals mg → mg d.name = some (.ref fa) →
      ∃ fd : FuncData, (∀ (s : Shared) (u : Value), BindsTo s fd ⟨[u], []⟩ [(x, u)]) ∧
        ∀ base : Heap, (K w.params).In base → base.Ns mainGlobals mg → FnG l.prog w (K w.params) mg base (L2.CX l.prog w) true k fa fd [x] (lift (K w.params) S))
    (hS : ∀ ns : List Int, ns.length ≤ n → (∀ z ∈ ns, Builtin.Int.intBits z ≤ 1048576) → S [.f ns] [] (fun r _ => r = .d (.bool true)) fun _ _ _ => False) :
    PySem.W.WalkO q loose XP YP l.row.toRowW d [] (fun f vs => PySem.call f vs) := by
  refine Att.attach_callB hn hdf fun w s₀ s₁ mg mb fa o pm cd doc a vs ns G Y ho hd hcd hmg hobj hints hlen hbits hg => ?_
  have KX := hY w _ Y
  obtain ⟨fd, hb, hF⟩ := F w mg fa _ KX G.T.g hmg
  exact law_callG KX G.T.g G.T.b G.T.builtins G.T.nolimit hg hobj hints (Nat.le_trans hlen hn2) hr hF hb (fun H hO hs => lift_law hs (hS ns hlen hbits)) fun H e s' => cx_false
end DL
end
section
set_option Elab.async false
set_option linter.all false
set_option maxRecDepth 100000
set_option maxHeartbeats 1600000
/-! DL 12: walks and reversals by the kind of the value -/
namespace DL
open PySem PySem.Spec PyProof.Rows L2 Evl
def iAny (K : FG) (te : TE) : TI := fun σ H R => te σ H fun v H1 => (∃ a, v = .ref a ∧ (∃ xs, SqT K H1 a xs) ∧ R (Itt K a) H1) ∨ (∃ a, v = .ref a ∧ (∃ xs, SqL K H1 a xs) ∧ R (Itl K a) H1) ∨ (∃ x, v = .str x ∧ R (Its x) H1) ∨ ∃ d o kvs, v = .ref d ∧ H1 d = some (.frz o (.dK kvs)) ∧ R (Itk d o kvs) H1
theorem pi_any {X : Cx} {tg e : Expr} {te : TE} (he : PE X e te) : PI X tg e (iAny X.K te) := by
  refine ⟨fun pins s σ H R I h => ?_⟩
  refine thn (he.run pins s σ H _ I h) fun v s1 ⟨x, H1, I1, r1, q1⟩ => ?_
  rcases q1 with ⟨a, e, ⟨xs, hq⟩, q⟩ | ⟨a, e, ⟨xs, hq⟩, q⟩ | ⟨y, e, q⟩ | ⟨d, o, kvs, e, hd, q⟩
  · subst e
    cases r1
    obtain ⟨its, rv, p, hz⟩ := I1.tuple hq
    exact wpAny_pyIter_tuple (show s1.heap.IsTuple a its.toArray from p) (pi_one (tk := s1.toks) I1 _ (turn_tuple a _) ⟨_, Heap.get?_push_size _ rfl, rfl, rfl⟩ q)
  · subst e
    cases r1
    obtain ⟨its, rv, p, hz⟩ := I1.list hq
    exact wpAny_pyIter_list p.isList (pi_one (tk := s1.toks) I1 _ (turn_list a _) ⟨_, Heap.get?_push_size _ rfl, rfl, rfl⟩ q)
  · subst e
    obtain ⟨t, rfl⟩ := r1
    cases ha : y.cps.all (· < 128)
    · exact wpAny_pyIter_wide ha (pi_one (tk := s1.toks) I1 _ (turn_str _ y t "str_iterator" (.inr rfl)) ⟨_, Heap.get?_push_size _ rfl, rfl, rfl⟩ q)
    · exact wpAny_pyIter_ascii ha (pi_one (tk := s1.toks) I1 _ (turn_str _ y t "str_ascii_iterator" (.inl rfl)) ⟨_, Heap.get?_push_size _ rfl, rfl, rfl⟩ q)
  · subst e
    obtain rfl : v = Value.ref d := r1
    obtain ⟨hs, hgd, hx, es, ep, vs, hdt, hsz, kv, hm⟩ := I1.frzK hd
    refine iter_keys hs hgd hx hdt (pi_one (tk := s1.toks) I1 _ (turn_keys _ hdt) ⟨_, Heap.get?_push_size _ rfl, rfl, ?_⟩ q)
    rw [hsz] <;> rfl
section
variable {X : DX} {tg e : Expr} {pos : Pos} {te : TX}
/-- a text's signs -/
def signsR (x : Str) : List Rv := x.cps.toList.map fun c => Rv.d (.str ⟨#[c]⟩)
/-- what is walked, by what the value is -/
def diAny (te : TX) : TId := fun sl ow R => te sl ow fun r ow1 => match r with
  | .d (.tuple ds) => R (ds.map Rv.d) iaTru ow1
  | .d (.list ds) => R (ds.map Rv.d) iaTru ow1
  | .d (.str x) => R (signsR x) iaTru ow1
  | .f ns => R (ns.map fun i => Rv.d (.int i)) iaTru ow1
  | .o n => (∃ xs, lstAt ow1 n = some xs ∧ R xs (fun ow2 => lstAt ow2 n = some xs) ow1) ∨ ∃ kvs, fdctAt ow1 n = some kvs ∧ R (kvs.map fun kv => rK kv.1) (fun ow2 => fdctAt ow2 n = some kvs) ow1
  | _ => False
theorem walked_sg {B : KB} {F : Hp} {as : AS} {x : Str} : Walked B F as (Its x) (signsR x) iaTru := fun F' as' ow H g S _ => by
  refine ⟨fun i r hi => ?_, by unfold signsR; rw [List.length_map, Array.length_toList]; exact Nat.le_refl _⟩
  unfold signsR at hi
  rw [List.getElem?_map] at hi
  obtain ⟨c, hc, rfl⟩ := Option.map_eq_some_iff.mp hi
  have hlt : i < x.cps.size := by
    have := (List.getElem?_eq_some_iff.mp hc).1
    rwa [Array.length_toList] at this
  refine ⟨hlt, fun v H' ⟨e1, c', e2, e3⟩ => ?_⟩
  subst e1 e3
  rw [← Array.getElem?_toList, hc] at e2
  cases e2
  exact ⟨F', Grow.refl, S, Dd.str _⟩
theorem di_any (h : DE X e te) : DI X tg e (diAny te) := ⟨_, pi_any pe_w, fun F as ow σ sl H R S L q W k => (h.run F as ow σ sl H _ S L q).mono fun v H1 ⟨F1, as1, r, ow1, g1, S1, r1, q1⟩ => by
  dsimp only at q1
  split at q1
  · cases r1 with
    | tup h1 h2 => exact .inl ⟨_, rfl, ⟨_, ex_t S1.ex h1⟩, k _ _ F1 as1 ow1 _ _ g1 S1 (walked_tup h1 h2) q1⟩
  · cases r1 with
    | lst h1 h2 => exact .inr (.inl ⟨_, rfl, ⟨_, sq_of (S1.ex _ _ h1)⟩, k _ _ F1 as1 ow1 _ _ g1 S1 (walked_l h1 h2) q1⟩)
  · cases r1
    exact .inr (.inr (.inl ⟨_, rfl, k _ _ F1 as1 ow1 _ _ g1 S1 walked_sg q1⟩))
  · obtain ⟨a, rfl, h2⟩ := r1
    exact .inr (.inl ⟨_, rfl, ⟨_, ex_l S1.ex h2⟩, k _ _ F1 as1 ow1 _ _ g1 S1 (walked_f h2) q1⟩)
  · obtain ⟨a, h1, rfl⟩ := r1
    rcases q1 with ⟨xs, e1, q1⟩ | ⟨kvs, e1, q1⟩
    · obtain ⟨_, vs, h2, h3⟩ := S1.ob _ a _ h1 (of_lstAt e1)
      exact .inr (.inl ⟨a, rfl, ⟨_, sq_of h2⟩, k _ _ F1 as1 ow1 _ _ g1 S1 (walked_o h1) q1⟩)
    · obtain ⟨od, ws, h2, h3⟩ := S1.ob _ a _ h1 (of_fdctAt e1)
      refine .inr (.inr (.inr ⟨a, od, ws, rfl, S1.ex _ _ h2, k _ _ F1 as1 ow1 _ _ g1 S1 (fun F' as' ow' H' g' S' ho => ?_) q1⟩))
      have hH : H' a = some (.frz od (.dK ws)) := S'.ex _ _ (g'.ex _ _ h2)
      have hl : ws.length = kvs.length := Paired.len2 h3
      refine ⟨fun i r hi => ?_, ⟨hH, by rw [List.length_map, hl]; exact Nat.le_refl _⟩⟩
      rw [List.getElem?_map] at hi
      obtain ⟨kv, hk, rfl⟩ := Option.map_eq_some_iff.mp hi
      obtain ⟨⟨k', v'⟩, hw, e2, _⟩ := Paired.get2 h3 hk
      refine ⟨⟨hH, (List.getElem?_eq_some_iff.mp hw).1⟩, fun x H2 ⟨e3, k2, v2, e4, e5⟩ => ?_⟩
      subst e3
      rw [hw] at e4
      cases e4
      subst e5
      have e2 : k' = kv.1 := e2
      subst e2
      exact ⟨F', Grow.refl, S', rK_ok⟩
  · exact q1.elim⟩
end
/-! ### x[::-1] -/
def tRevY (K : FG) (te : TE) : TE := fun σ H Q => te σ H fun x H1 => (∃ a xs, x = .ref a ∧ SqT K H1 a xs ∧ ∀ p, H1 p = none → Q (.ref p) (upd H1 p (.tup xs.reverse))) ∨ ∃ a xs, x = .ref a ∧ SqL K H1 a xs ∧ ∀ p, H1 p = none → Q (.ref p) (upd H1 p (.lst xs.reverse))
theorem pe_revY {X : Cx} {e : Expr} {te : TE} {k : Nat} {p1 p2 p3 pos : Pos} (he : PE X e te) : PE X (.Subscript e (.Slice none none (some (.UnaryOp .USub (.Constant (.int 1) k p1) p2)) p3) pos) (tRevY X.K te) := by
  refine ⟨fun pins s σ H Q I h => ?_⟩
  refine Subscript_ (thn (he.run pins s σ H _ I h) fun v s1 ⟨x, H1, I1, r1, q1⟩ => ?_)
  have hst : PO X (some (.UnaryOp .USub (.Constant (.int 1) k p1) p2)) (tPart (tUn (rU fun i => .int (-i)) (tC (.int 1)))) := po_some (pe_un un_neg pe_int)
  refine wpAny_Slice (thn (po_none.run pins s1 σ H1 (fun o H2 => o = none ∧ H2 = H1) I1 ⟨rfl, rfl⟩) fun vl s2 ⟨l, H2, I2, pl, el, e2⟩ => ?_)
  subst el e2
  refine thn (po_none.run pins s2 σ H2 (fun o H3 => o = none ∧ H3 = H2) I2 ⟨rfl, rfl⟩) fun vu s3 ⟨u, H3, I3, pu, eu, e3⟩ => ?_
  subst eu e3
  refine thn (hst.run pins s3 σ H3 (fun o H4 => o = some (-1) ∧ H4 = H3) I3 ⟨1, rfl, -1, rfl, rfl, rfl⟩) fun vs s4 ⟨o, H4, I4, ps, eo, e4⟩ => ?_
  subst eo e4
  have I5 : Inv X pins σ H4 { s4 with heap := s4.heap.push { cls := .type "slice", data := .fields #[vl, vu, vs] } } := I4.kept (t' := s4.toks) fun b ob q => Heap.get?_push_of_some _ q
  cases pl
  cases pu
  rcases q1 with ⟨a, xs, ex, hx, q⟩ | ⟨a, xs, ex, hx, q⟩
  · subst ex
    cases r1
    obtain ⟨its, r, ht, hz⟩ := I5.tuple hx
    have hlen := r.length
    show wpAny (model X.prog X.w) X.A (subscriptTail e (.Slice none none (some (.UnaryOp .USub (.Constant (.int 1) k p1) p2)) p3) (.ref a) (.ref s4.heap.objs.size)) (EP X pins σ Q) X.xe { s4 with heap := s4.heap.push { cls := .type "slice", data := .fields #[.none, .none, vs] } }
    refine tail_any (ops := [.ref a, .ref s4.heap.objs.size]) ht.typeIs (PyProof.Rows.slot_tuple_getitem.lookup) ?_ (by with_unfolding_all rfl)
    refine HT.getItem_tuple_rev ht (Heap.IsSliceOf.new _ .none .none vs) ps ?_ (by rw [List.size_toArray]; omega)
    refine ⟨.ref _, _, I5.laid (t' := s4.toks) (o := .tup xs.reverse) (fun b ob q => Heap.get?_push_of_some _ q) (Nat.le_refl _) ?_, rfl, q _ (I5.hok.fresh (Nat.le_refl _))⟩
    exact ⟨by rw [List.length_reverse]; exact hz, its.reverse, r.reverse, _, Heap.get?_push_size _ rfl, rfl, 0, rfl⟩
  · subst ex
    cases r1
    obtain ⟨its, r, ht, hz⟩ := I5.list hx
    have hlen := r.length
    show wpAny (model X.prog X.w) X.A (subscriptTail e (.Slice none none (some (.UnaryOp .USub (.Constant (.int 1) k p1) p2)) p3) (.ref a) (.ref s4.heap.objs.size)) (EP X pins σ Q) X.xe { s4 with heap := s4.heap.push { cls := .type "slice", data := .fields #[.none, .none, vs] } }
    refine tail_any (ops := [.ref a, .ref s4.heap.objs.size]) ht.isList.typeIs (PySem.slot_list_getitem.lookup) ?_ (by with_unfolding_all rfl)
    refine wpAny_getItem_list_slice ht.isList (Heap.IsSliceOf.new _ .none .none vs) .none .none ps (by decide) ?_ (by rw [List.size_toArray]; omega)
    rw [PySem.W.krv_pick]
    refine ⟨.ref _, _, I5.laid (t' := s4.toks) (o := .lst xs.reverse) (fun b ob q => Heap.get?_push_of_some _ q) (Nat.le_refl _) ?_, rfl, q _ (I5.hok.fresh (Nat.le_refl _))⟩
    exact ⟨by rw [List.length_reverse]; exact hz, _, 0, r.reverse, Heap.get?_push_size _ rfl⟩
section
variable {X : DX} {e : Expr} {pos : Pos} {te : TX}
/-- data -/
def dRevY (te : TX) : TX := fun sl ow Q => te sl ow fun x ow1 => match x with
  | .d (.tuple ds) => Q (.d (.tuple ds.reverse)) ow1
  | x => ∃ rs ds, lstOf x ow1 = some rs ∧ allD rs = some ds ∧ Q (.d (.list ds.reverse)) ow1
theorem de_revY {k : Nat} {p1 p2 p3 : Pos} (h : DE X e te) : DE X (.Subscript e (.Slice none none (some (.UnaryOp .USub (.Constant (.int 1) k p1) p2)) p3) pos) (dRevY te) := de_of (pe_revY pe_w) fun F as ow σ sl H Q S L q =>
  (h.run F as ow σ sl H _ S L q).mono fun v H1 ⟨F1, as1, r, ow1, g1, S1, r1, q1⟩ => by
    dsimp only at q1
    split at q1
    · cases r1 with
      | tup h1 h2 => exact .inl ⟨_, _, rfl, ex_t S1.ex h1, fun p hp => post_tup g1 S1 hp h2.rev q1⟩
    · obtain ⟨rs, ds, e1, e2, q1⟩ := q1
      obtain ⟨a, vs, rfl, hs, hv⟩ := lst_ok S1 r1 e1
      rw [of_allD e2] at hv
      exact .inr ⟨a, vs, rfl, hs, fun p hp => post_lst g1 S1 hp (rvs_dd hv).rev q1⟩
end
end DL
namespace DL
abbrev rSub := rInt (fun _ _ => True) fun i j => i - j
abbrev rMod := rInt (fun _ j => 0 < j) fun i j => i % j
abbrev rFdv := rInt (fun _ j => 0 < j ∧ j < 1073741824) fun i j => i / j
abbrev rPow := rInt (fun i j => 0 ≤ j ∧ j ≤ 1000000 ∧ i.natAbs < 2 ^ 64) fun i j => i ^ j.toNat
abbrev rLt := rCmpI fun i j => decide (i < j)
abbrev rLe := rCmpI fun i j => decide (i ≤ j)
abbrev rGt := rCmpI fun i j => decide (j < i)
abbrev rGe := rCmpI fun i j => decide (j ≤ i)
abbrev rMin2 := rII fun i j => if j < i then j else i
abbrev rMax2 := rII fun i j => if j > i then j else i
end DL

/-! ### plain facts of the readings -/
namespace DL
open PySem PySem.Spec PyProof.Rows L2 Evl
theorem lstAt_lt {ow : OW} {n : Nat} {xs : List Rv} (h : lstAt ow n = some xs) : n < ow.length := (List.getElem?_eq_some_iff.mp (of_lstAt h)).1
theorem lstAt_set {ow : OW} {n : Nat} {xs : List Rv} (h : n < ow.length) : lstAt (ow.set n (.lst xs)) n = some xs := by
  unfold lstAt
  rw [List.getElem?_set_self h]
theorem lstAt_ne {ow : OW} {m n : Nat} {x : OD} (h : m ≠ n) : lstAt (ow.set m x) n = lstAt ow n := by
  unfold lstAt
  rw [List.getElem?_set_ne h]
theorem lstAt_app {ow ys : OW} {n : Nat} (h : n < ow.length) : lstAt (ow ++ ys) n = lstAt ow n := by
  unfold lstAt
  rw [List.getElem?_append_left h]
theorem lstAt_new {ow : OW} {xs : List Rv} : lstAt (ow ++ [.lst xs]) ow.length = some xs := by
  unfold lstAt
  rw [List.getElem?_append_right (Nat.le_refl _), Nat.sub_self]
  rfl
theorem dctAt_set {ow : OW} {n : Nat} {xs : List (Key × Rv)} (h : n < ow.length) : dctAt (ow.set n (.dct xs)) n = some xs := by
  unfold dctAt
  rw [List.getElem?_set_self h]
theorem dctAt_ne {ow : OW} {m n : Nat} {x : OD} (h : m ≠ n) : dctAt (ow.set m x) n = dctAt ow n := by
  unfold dctAt
  rw [List.getElem?_set_ne h]
theorem dctAt_app {ow ys : OW} {n : Nat} (h : n < ow.length) : dctAt (ow ++ ys) n = dctAt ow n := by
  unfold dctAt
  rw [List.getElem?_append_left h]
theorem dctAt_new {ow : OW} {xs : List (Key × Rv)} : dctAt (ow ++ [.dct xs]) ow.length = some xs := by
  unfold dctAt
  rw [List.getElem?_append_right (Nat.le_refl _), Nat.sub_self]
  rfl
theorem fdctAt_set {ow : OW} {n : Nat} {xs : List (Key × Rv)} (h : n < ow.length) : fdctAt (ow.set n (.fdct xs)) n = some xs := by
  unfold fdctAt
  rw [List.getElem?_set_self h]
theorem fdctAt_ne {ow : OW} {m n : Nat} {x : OD} (h : m ≠ n) : fdctAt (ow.set m x) n = fdctAt ow n := by
  unfold fdctAt
  rw [List.getElem?_set_ne h]
theorem fdctAt_app {ow ys : OW} {n : Nat} (h : n < ow.length) : fdctAt (ow ++ ys) n = fdctAt ow n := by
  unfold fdctAt
  rw [List.getElem?_append_left h]
theorem dctAt_lt {ow : OW} {n : Nat} {xs : List (Key × Rv)} (h : dctAt ow n = some xs) : n < ow.length := (List.getElem?_eq_some_iff.mp (of_dctAt h)).1
/-- all but the object n is as before; more may have come -/
def Kp (n : Nat) (ow ow' : OW) : Prop := ow.length ≤ ow'.length ∧ ∀ i, i ≠ n → i < ow.length → ow'[i]? = ow[i]?
theorem Kp.refl {n : Nat} {ow : OW} : Kp n ow ow := ⟨Nat.le_refl _, fun _ _ _ => rfl⟩
theorem Kp.trans {n : Nat} {a b c : OW} (h : Kp n a b) (k : Kp n b c) : Kp n a c := ⟨Nat.le_trans h.1 k.1, fun i h1 h2 => (k.2 i h1 (Nat.lt_of_lt_of_le h2 h.1)).trans (h.2 i h1 h2)⟩
theorem Kp.set {n : Nat} {ow : OW} {x : OD} : Kp n ow (ow.set n x) := ⟨by rw [List.length_set]; exact Nat.le_refl _, fun i h _ => List.getElem?_set_ne (Ne.symm h)⟩
theorem Kp.app {n : Nat} {ow ys : OW} : Kp n ow (ow ++ ys) := ⟨by rw [List.length_append]; omega, fun i _ h => List.getElem?_append_left h⟩
/-- of an object made since -/
theorem Kp.set2 {n m : Nat} {ow ow' : OW} {x : OD} (h : Kp n ow ow') (hm : ow.length ≤ m) : Kp n ow (ow'.set m x) := ⟨by rw [List.length_set]; exact h.1, fun i h1 h2 => by rw [List.getElem?_set_ne (by omega)]; exact h.2 i h1 h2⟩
theorem Kp.lst {n m : Nat} {ow ow' : OW} {xs : List Rv} (h : Kp n ow ow') (hm : m ≠ n) (e : lstAt ow m = some xs) : lstAt ow' m = some xs := by
  unfold lstAt at e ⊢
  rw [h.2 m hm (lstAt_lt (xs := xs) e)]
  exact e
theorem Kp.dct {n m : Nat} {ow ow' : OW} {xs : List (Key × Rv)} (h : Kp n ow ow') (hm : m ≠ n) (e : dctAt ow m = some xs) : dctAt ow' m = some xs := by
  unfold dctAt at e ⊢
  rw [h.2 m hm (dctAt_lt (xs := xs) e)]
  exact e
end DL
end
section
set_option Elab.async false
set_option linter.all false
set_option maxRecDepth 100000
set_option maxHeartbeats 1600000
/-! DL 13: good data: texts, short ints, nested -/
namespace DL
open PySem PySem.Spec PyProof.Rows L2 Evl
mutual
def goodD : PyData → Bool
  | .none => true
  | .bool _ => true
  | .int i => decide ((PyData.shown (.int i)).length ≤ 8) && decide (i.natAbs.log2 < 1920)
  | .str x => PyData.strOk x
  | .list xs => goodDs xs
  | .tuple xs => goodDs xs
  | .dict _ => false
def goodDs : List PyData → Bool
  | [] => true
  | x :: xs => goodD x && goodDs xs
end
theorem goodDs_iff : ∀ {ds : List PyData}, goodDs ds = true ↔ ∀ d ∈ ds, goodD d = true
  | [] => by simp [goodDs]
  | x :: xs => by
    unfold goodDs
    rw [Bool.and_eq_true, goodDs_iff]
    simp
mutual
theorem good_lay : ∀ d : PyData, goodD d = true → d.canLay0 = true
  | .none, _ => rfl
  | .bool _, _ => rfl
  | .int _, _ => rfl
  | .str x, h => h
  | .list xs, h => good_lays xs h
  | .tuple xs, h => good_lays xs h
  | .dict _, h => by simp [goodD] at h
theorem good_lays : ∀ ds : List PyData, goodDs ds = true → PyData.canLayAll0 ds = true
  | [], _ => rfl
  | x :: xs, h => by
    have h : (goodD x && goodDs xs) = true := h
    rw [Bool.and_eq_true] at h
    show (PyData.canLay0 x && PyData.canLayAll0 xs) = true
    rw [good_lay x h.1, good_lays xs h.2]
    rfl
end
mutual
theorem good_ints : ∀ d : PyData, goodD d = true → d.intsShort 8 = true
  | .none, _ => rfl
  | .bool _, _ => rfl
  | .int _, h => by
    unfold goodD at h
    rw [Bool.and_eq_true] at h
    exact h.1
  | .str x, h => rfl
  | .list xs, h => good_intss xs h
  | .tuple xs, h => good_intss xs h
  | .dict _, h => by simp [goodD] at h
theorem good_intss : ∀ ds : List PyData, goodDs ds = true → PyData.intsShortAll 8 ds = true
  | [], _ => rfl
  | x :: xs, h => by
    have h : (goodD x && goodDs xs) = true := h
    rw [Bool.and_eq_true] at h
    show (PyData.intsShort 8 x && PyData.intsShortAll 8 xs) = true
    rw [good_ints x h.1, good_intss xs h.2]
    rfl
end
mutual
theorem good_show : ∀ d : PyData, goodD d = true → d.showable = true
  | .none, _ => rfl
  | .bool _, _ => rfl
  | .int _, h => by
    unfold goodD at h
    rw [Bool.and_eq_true] at h
    exact h.2
  | .str x, h => rfl
  | .list xs, h => good_shows xs h
  | .tuple xs, h => good_shows xs h
  | .dict _, h => by simp [goodD] at h
theorem good_shows : ∀ ds : List PyData, goodDs ds = true → PyData.showableAll ds = true
  | [], _ => rfl
  | x :: xs, h => by
    have h : (goodD x && goodDs xs) = true := h
    rw [Bool.and_eq_true] at h
    show (PyData.showable x && PyData.showableAll xs) = true
    rw [good_show x h.1, good_shows xs h.2]
    rfl
end
/-- good data of depth at most k and weight at most n -/
structure GD (n k : Nat) (d : PyData) : Prop where
  g : goodD d = true
  dp : d.depth ≤ k
  wt : d.weight ≤ n
theorem GD.mono {n k n' k' : Nat} {d : PyData} (h : GD n k d) (a : n ≤ n' := by decide) (b : k ≤ k' := by decide) : GD n' k' d := ⟨h.g, Nat.le_trans h.dp b, Nat.le_trans h.wt a⟩
theorem GD.str {n : Nat} {x : Str} (h : PyData.strOk x = true) (l : x.length ≤ n) : GD n 0 (.str x) := ⟨h, Nat.le_refl _, l⟩
theorem gds_depth {k : Nat} : ∀ {ds : List PyData}, (∀ d ∈ ds, d.depth ≤ k) → PyData.depthAll ds ≤ k
  | [], _ => Nat.zero_le _
  | x :: xs, h => Nat.max_le.mpr ⟨h x List.mem_cons_self, gds_depth fun d hd => h d (List.mem_cons_of_mem _ hd)⟩
theorem gds_weight {n : Nat} : ∀ {ds : List PyData}, (∀ d ∈ ds, d.weight ≤ n) → PyData.weightAll ds ≤ ds.length * (n + 1)
  | [], _ => Nat.zero_le _
  | x :: xs, h => by
    have h1 := h x List.mem_cons_self
    have h2 := gds_weight (n := n) (ds := xs) fun d hd => h d (List.mem_cons_of_mem _ hd)
    show x.weight + 1 + PyData.weightAll xs ≤ (xs.length + 1) * (n + 1)
    rw [Nat.add_mul]
    omega
theorem GD.tup {n k m l : Nat} {ds : List PyData} (h : ∀ d ∈ ds, GD m k d) (hl : ds.length ≤ l) (hn : l * (m + 1) ≤ n := by decide) : GD n (k + 1) (.tuple ds) :=
  ⟨goodDs_iff.mpr fun d hd => (h d hd).g, Nat.succ_le_succ (gds_depth fun d hd => (h d hd).dp), Nat.le_trans (gds_weight fun d hd => (h d hd).wt) (Nat.le_trans (Nat.mul_le_mul_right _ hl) hn)⟩
theorem GD.lst {n k m l : Nat} {ds : List PyData} (h : ∀ d ∈ ds, GD m k d) (hl : ds.length ≤ l) (hn : l * (m + 1) ≤ n := by decide) : GD n (k + 1) (.list ds) :=
  ⟨goodDs_iff.mpr fun d hd => (h d hd).g, Nat.succ_le_succ (gds_depth fun d hd => (h d hd).dp), Nat.le_trans (gds_weight fun d hd => (h d hd).wt) (Nat.le_trans (Nat.mul_le_mul_right _ hl) hn)⟩
theorem GD.shaped {n k : Nat} {d : PyData} (h : GD n k d) (hk : k ≤ 64 := by decide) : SeqAt.shaped d = true := by
  unfold SeqAt.shaped
  rw [good_lay d h.g, decide_eq_true (Nat.le_trans h.dp hk)]
  rfl
theorem GD.shown {n k : Nat} {d : PyData} (h : GD n k d) (hn : n ≤ 1600000 := by decide) : d.shown.length ≤ sizeLine := by
  have h1 := PyData.shown_le 8 (by decide) d (PyData.leavesShort_of_canLay0 8 d (good_lay d h.g) (good_ints d h.g))
  have h2 := h.wt
  rw [sizeLine_eq]
  omega
theorem GD.nod {n k : Nat} {d : PyData} (h : GD n k d) : d.hasDict = false := PyData.hasDict_of_canLay d (good_lay d h.g)
/-- repr of good data -/
theorem repr_i {x : Rv} {ow : OW} {Q : QR} {n k : Nat} {d : PyData} (e : DL.dataOf x ow = some d) (r : refD d = true) (h : GD n k d) (q : Q (.d (.str d.shown)) ow) (hn : n ≤ 1600000 := by decide) (hk : k < 100 := by decide) : rReprF [x] ow Q := by
  unfold rReprF
  exact ⟨d, e, r, good_show d h.g, h.nod, h.shown hn, Nat.lt_of_le_of_lt h.dp hk, q⟩
theorem shaped_ints (ns : List Int) : SeqAt.shaped (.list (ns.map PyData.int)) = true := by
  unfold SeqAt.shaped
  have h1 : ∀ ns : List Int, PyData.canLayAll0 (ns.map PyData.int) = true := fun ns => by
    induction ns with
    | nil => rfl
    | cons n ns ih => exact ih
  have h2 : PyData.depth (.list (ns.map PyData.int)) ≤ 1 := Nat.succ_le_succ (gds_depth fun d hd => by
    obtain ⟨n, _, e⟩ := List.mem_map.mp hd
    rw [← e]
    exact Nat.le_refl _)
  rw [decide_eq_true (show PyData.depth (.list (ns.map PyData.int)) ≤ 64 by omega)]
  show (PyData.canLayAll0 (ns.map PyData.int) && true) = true
  rw [h1]
  rfl
/-! ### small rules of readings -/
theorem rangeR_get {lo : Int} {n i : Nat} {r : Rv} (h : (rangeR lo n)[i]? = some r) : i < n ∧ r = .d (.int (lo + (i : Int))) := by
  unfold rangeR at h
  rw [List.getElem?_map] at h
  obtain ⟨j, hj, e⟩ := Option.map_eq_some_iff.mp h
  obtain ⟨hlt, e2⟩ := List.getElem?_eq_some_iff.mp hj
  rw [List.getElem_range] at e2
  rw [List.length_range] at hlt
  subst e2
  exact ⟨hlt, e.symm⟩
theorem rangeR_len {lo : Int} {n : Nat} : (rangeR lo n).length = n := by unfold rangeR; rw [List.length_map, List.length_range]
theorem cut_to {α : Type} (l : List α) {k : Int} (h : 0 ≤ k) : cutL l none (some k) = l.take k.toNat := by
  unfold cutL HT.sIx
  dsimp only
  rw [if_neg (by omega), List.drop_zero, Nat.sub_zero]
  by_cases hk : k.toNat ≤ l.length
  · rw [Nat.min_eq_left hk]
  · rw [Nat.min_eq_right (by omega), List.take_of_length_le (Nat.le_refl _), List.take_of_length_le (by omega)]
theorem cut_from {α : Type} (l : List α) {k : Int} (h : 0 ≤ k) : cutL l (some k) none = l.drop k.toNat := by
  unfold cutL HT.sIx
  dsimp only
  rw [if_neg (by omega)]
  by_cases hk : k.toNat ≤ l.length
  · rw [Nat.min_eq_left hk, List.take_of_length_le (by rw [List.length_drop]; exact Nat.le_refl _)]
  · rw [Nat.min_eq_right (by omega), List.drop_of_length_le (Nat.le_refl _), List.drop_of_length_le (by omega), List.take_nil]
theorem cut_last {α : Type} (l : List α) {k : Int} (h : 0 < k) : cutL l (some (-k)) none = l.drop (l.length - k.toNat) := by
  unfold cutL HT.sIx
  dsimp only
  rw [if_pos (by omega), List.take_of_length_le (by rw [List.length_drop]; exact Nat.le_refl _)]
  congr 1
  omega
theorem cut_map {α β : Type} (f : α → β) (l : List α) (lo hi : Option Int) : cutL (l.map f) lo hi = (cutL l lo hi).map f := by
  unfold cutL
  rw [List.length_map, List.map_take, List.map_drop]
theorem atI_nn {α : Type} {l : List α} {i : Int} (h0 : 0 ≤ i) (h : i < (l.length : Int)) : ∃ x, l[i.toNat]? = some x ∧ atI l i = some x := by
  have hl : i.toNat < l.length := by omega
  refine ⟨l[i.toNat], List.getElem?_eq_getElem hl, ?_⟩
  unfold atI
  have e : ixN l.length i = some i.toNat := by
    unfold ixN
    rw [if_pos h0, if_pos h]
  rw [e]
  exact List.getElem?_eq_getElem hl
theorem ix_l {ds : List PyData} {i : Int} {ow : OW} {Q : QR} (h0 : 0 ≤ i) (h1 : i < (ds.length : Int)) (h : ∀ d, ds[i.toNat]? = some d → Q (.d d) ow) : rIxR (.d (.list ds)) (.d (.int i)) ow Q := by
  obtain ⟨x, e1, e2⟩ := atI_nn (l := ds.map Rv.d) h0 (by rw [List.length_map]; exact h1)
  rw [List.getElem?_map] at e1
  obtain ⟨d, e3, rfl⟩ := Option.map_eq_some_iff.mp e1
  exact ⟨_, _, rfl, e2, h d e3⟩
theorem ix_t {ds : List PyData} {i : Int} {ow : OW} {Q : QR} (h0 : 0 ≤ i) (h1 : i < (ds.length : Int)) (h : ∀ d, ds[i.toNat]? = some d → Q (.d d) ow) : rIxR (.d (.tuple ds)) (.d (.int i)) ow Q := by
  obtain ⟨x, e1, e2⟩ := atI_nn (l := ds.map Rv.d) h0 (by rw [List.length_map]; exact h1)
  rw [List.getElem?_map] at e1
  obtain ⟨d, e3, rfl⟩ := Option.map_eq_some_iff.mp e1
  exact ⟨_, _, rfl, e2, h d e3⟩
theorem eq_nil (ds : List PyData) : PyData.eqv (.list ds) (.list []) = ds.isEmpty := by
  cases ds <;> simp [PyData.eqv, PyData.eqvAll]
theorem iteB {c : Bool} {A B : Prop} (h1 : c = true → A) (h2 : c = false → B) : if c = true then A else B := by
  cases c
  · exact h2 rfl
  · exact h1 rfl
theorem allD_strs (xs : List Str) : allD (xs.map fun y => Rv.d (.str y)) = some (xs.map PyData.str) := by rw [map_str]; exact allD_map _
theorem sl_l {ds es : List PyData} {lo hi : Option Int} {ow : OW} {Q : QR} (e : cutL ds lo hi = es) (q : Q (.d (.list es)) ow) : rSlR (.d (.list ds)) lo hi ow Q := by
  subst e
  unfold rSlR
  exact q
theorem sl_t {ds es : List PyData} {lo hi : Option Int} {ow : OW} {Q : QR} (e : cutL ds lo hi = es) (q : Q (.d (.tuple es)) ow) : rSlR (.d (.tuple ds)) lo hi ow Q := by
  subst e
  unfold rSlR
  exact q
theorem sl_f {ns : List Int} {es : List PyData} {lo hi : Option Int} {ow : OW} {Q : QR} (e : cutL (ns.map PyData.int) lo hi = es) (q : Q (.d (.list es)) ow) : rSlR (.f ns) lo hi ow Q := by
  subst e
  unfold rSlR
  exact q
theorem lay_strs : ∀ {xs : List Str}, (∀ x ∈ xs, PyData.strOk x = true) → PyData.canLayAll0 (xs.map PyData.str) = true
  | [], _ => rfl
  | x :: xs, h => by
    show (PyData.strOk x && PyData.canLayAll0 (xs.map PyData.str)) = true
    rw [h x List.mem_cons_self, lay_strs fun y hy => h y (List.mem_cons_of_mem _ hy)]
    rfl
theorem depth_strs (xs : List Str) : PyData.depthAll (xs.map PyData.str) ≤ 0 := gds_depth fun d hd => by
  obtain ⟨n, _, e⟩ := List.mem_map.mp hd
  rw [← e]
  exact Nat.le_refl _
theorem shaped_strs {xs : List Str} (h : ∀ x ∈ xs, PyData.strOk x = true) : SeqAt.shaped (.list (xs.map PyData.str)) = true := by
  unfold SeqAt.shaped
  have h2 : PyData.depth (.list (xs.map PyData.str)) ≤ 1 := Nat.succ_le_succ (depth_strs xs)
  rw [decide_eq_true (show PyData.depth (.list (xs.map PyData.str)) ≤ 64 by omega)]
  show (PyData.canLayAll0 (xs.map PyData.str) && true) = true
  rw [lay_strs h]
  rfl
theorem shaped_strsT {xs : List Str} (h : ∀ x ∈ xs, PyData.strOk x = true) : SeqAt.shaped (.tuple (xs.map PyData.str)) = true := by
  unfold SeqAt.shaped
  have h2 : PyData.depth (.tuple (xs.map PyData.str)) ≤ 1 := Nat.succ_le_succ (depth_strs xs)
  rw [decide_eq_true (show PyData.depth (.tuple (xs.map PyData.str)) ≤ 64 by omega)]
  show (PyData.canLayAll0 (xs.map PyData.str) && true) = true
  rw [lay_strs h]
  rfl
theorem szr {n : Nat} (h : Nat.ble n sizeLine = true) : n ≤ sizeLine := Nat.le_of_ble_eq_true h
/-- a comprehension whose parts change nothing -/
theorem lc_map {α : Type} {items : List Rv} {ok : OW → Prop} {j : Nat} {tt : TXb} {te : TX} {sl : SL} {ow : OW} {Q : QR} (as : List α) (g : α → Rv) (p : α → Bool) (f : α → PyData) (hi : items = as.map g) (hok : ok ow) (hl : as.length < sizeLine)
    (ht : ∀ a ∈ as, ∀ K : Bool → OW → Prop, K (p a) ow → tt (sl.set j (some (g a))) ow K) (he : ∀ a ∈ as, p a = true → ∀ K : QR, K (.d (f a)) ow → te (sl.set j (some (g a))) ow K) (q : Q (.d (.list ((as.filter p).map f))) ow) :
    ∃ I : Nat → List PyData → OW → Prop, I 0 [] ow ∧ (∀ i acc ow', I i acc ow' → ok ow' ∧ acc.length < sizeLine) ∧
      (∀ i r acc ow', items[i]? = some r → I i acc ow' → tt (sl.set j (some r)) ow' fun k ow2 => if k = true then te (sl.set j (some r)) ow2 fun y ow3 => (match y with
        | .d d => I (i + 1) (acc ++ [d]) ow3
        | _ => False) else I (i + 1) acc ow2) ∧ ∀ acc ow', I items.length acc ow' → Q (.d (.list acc)) ow' := by
  subst hi
  refine ⟨fun i acc ow' => acc = ((as.take i).filter p).map f ∧ ow' = ow, ⟨rfl, rfl⟩, ?_, ?_, ?_⟩
  · rintro i acc ow' ⟨rfl, rfl⟩
    refine ⟨hok, ?_⟩
    rw [List.length_map]
    exact Nat.lt_of_le_of_lt (Nat.le_trans (List.length_filter_le _ _) (by rw [List.length_take]; omega)) hl
  · rintro i r acc ow' hi ⟨rfl, rfl⟩
    rw [List.getElem?_map] at hi
    obtain ⟨a, ha, rfl⟩ := Option.map_eq_some_iff.mp hi
    have hm := List.mem_of_getElem? ha
    have e : as.take (i + 1) = as.take i ++ [a] := by rw [List.take_add_one, ha]; rfl
    refine ht a hm _ ?_
    cases hp : p a with
    | true =>
      rw [if_pos rfl]
      refine he a hm hp _ ?_
      refine ⟨?_, rfl⟩
      rw [e, List.filter_append, List.map_append]
      congr 1
      simp [hp]
    | false =>
      rw [if_neg Bool.false_ne_true]
      refine ⟨?_, rfl⟩
      rw [e, List.filter_append]
      simp [hp]
  · rintro acc ow' ⟨rfl, rfl⟩
    rw [List.length_map, List.take_length]
    exact q
theorem lc_pure {α : Type} {ti : TId} {j : Nat} {tt : TXb} {te : TX} {vs : List Nat} {sl : SL} {ow : OW} {Q : QR} (items : List Rv) (ok : OW → Prop) (as : List α) (g : α → Rv) (p : α → Bool) (f : α → PyData) (hti : ∀ R : List Rv → (OW → Prop) → OW → Prop, R items ok ow → ti sl ow R) (hi : items = as.map g) (hok : ok ow) (hl : as.length < sizeLine)
    (ht : ∀ a ∈ as, ∀ K : Bool → OW → Prop, K (p a) ow → tt ((wipeD sl vs).set j (some (g a))) ow K) (he : ∀ a ∈ as, p a = true → ∀ K : QR, K (.d (f a)) ow → te ((wipeD sl vs).set j (some (g a))) ow K) (q : Q (.d (.list ((as.filter p).map f))) ow) :
    dLc ti j tt te vs sl ow Q := hti _ (lc_map as g p f hi hok hl ht he q)
/-- a comprehension that no step opens -/
@[irreducible] def dLcP (ti : TId) (j : Nat) (tt : TXb) (te : TX) (vs : List Nat) : TX := dLc ti j tt te vs
theorem de_lcP {X : DX} {e : Expr} {ti : TId} {j : Nat} {tt : TXb} {te : TX} {vs : List Nat} (h : DE X e (dLc ti j tt te vs)) : DE X e (dLcP ti j tt te vs) := by
  unfold dLcP
  exact h
theorem lc_pureP {α : Type} {ti : TId} {j : Nat} {tt : TXb} {te : TX} {vs : List Nat} {sl : SL} {ow : OW} {Q : QR} (items : List Rv) (ok : OW → Prop) (as : List α) (g : α → Rv) (p : α → Bool) (f : α → PyData) (hti : ∀ R : List Rv → (OW → Prop) → OW → Prop, R items ok ow → ti sl ow R) (hi : items = as.map g) (hok : ok ow) (hl : as.length < sizeLine)
    (ht : ∀ a ∈ as, ∀ K : Bool → OW → Prop, K (p a) ow → tt ((wipeD sl vs).set j (some (g a))) ow K) (he : ∀ a ∈ as, p a = true → ∀ K : QR, K (.d (f a)) ow → te ((wipeD sl vs).set j (some (g a))) ow K) (q : Q (.d (.list ((as.filter p).map f))) ow) :
    dLcP ti j tt te vs sl ow Q := by
  unfold dLcP
  exact hti _ (lc_map as g p f hi hok hl ht he q)
theorem any_strs (xs : List Str) (x : Str) : (xs.map PyData.str).any (fun z => PyData.eqv z (.str x)) = decide (x ∈ xs) := by
  induction xs with
  | nil => rfl
  | cons y ys ih =>
    rw [List.map_cons, List.any_cons, ih]
    by_cases h : y = x
    · subst h
      simp [PyData.eqv]
    · have h' : ¬ x = y := fun e => h e.symm
      simp [PyData.eqv, h, h']
theorem all_flat (xs : List Str) : (xs.map PyData.str).all flatD = true := by
  induction xs with
  | nil => rfl
  | cons y ys ih => rw [List.map_cons, List.all_cons, ih]; rfl
/-- x in a list or tuple of texts -/
theorem in_strs {neg : Bool} {x : Str} {xs : List Str} {y : Rv} {ow : OW} {Q : QR} (hy : ∀ z, y ≠ .d (.str z)) (e : itemsOf y ow = some ((xs.map PyData.str).map Rv.d)) (q : Q (.d (.bool (if neg then !decide (x ∈ xs) else decide (x ∈ xs)))) ow) : rInR neg (.d (.str x)) y ow Q := by
  have key : ∃ rs ds, itemsOf y ow = some rs ∧ allD rs = some ds ∧ flatD (.str x) = true ∧ ds.all flatD = true ∧ Q (.d (.bool (if neg then !ds.any (fun z => PyData.eqv z (.str x)) else ds.any (fun z => PyData.eqv z (.str x))))) ow := ⟨_, _, e, allD_map _, rfl, all_flat xs, by rw [any_strs]; exact q⟩
  unfold rInR
  cases y with
  | d dd =>
    cases dd with
    | str z => exact absurd rfl (hy z)
    | _ => exact key
  | f ns => exact key
  | o n => exact key
  | v y => exact key
theorem putR_keys {kvs : List (L2.Key × Rv)} {ks : List Str} {x : Str} {r : Rv} (h : kvs.map (·.1) = ks.map Sum.inr) : (putR kvs (.inr x) r).map (·.1) = (TX.stepS ks x).map Sum.inr := by
  unfold putR TX.stepS
  have e : (kvs.any fun kv => decide (kv.1 = (.inr x : L2.Key))) = decide (x ∈ ks) := by
    have e1 : (kvs.any fun kv => decide (kv.1 = (.inr x : L2.Key))) = (kvs.map (·.1)).any fun k => decide (k = .inr x) := by rw [List.any_map]; rfl
    rw [e1, h, List.any_map]
    clear e1 h
    induction ks with
    | nil => rfl
    | cons y ys ih =>
      rw [List.any_cons, ih]
      by_cases hy : y = x
      · subst hy; simp
      · have hy' : ¬ x = y := fun e => hy e.symm
        simp [hy, hy']
  rw [e]
  by_cases hx : x ∈ ks
  · rw [if_pos (decide_eq_true hx), if_pos hx, List.map_map, ← h]
    refine List.map_congr_left fun kv _ => ?_
    show (if kv.1 = .inr x then (kv.1, r) else kv).1 = kv.1
    split <;> rfl
  · rw [if_neg (by rw [decide_eq_false hx]; exact Bool.false_ne_true), if_neg hx, List.map_append, List.map_append, h]
    rfl
theorem mergeR_keys : ∀ (more kvs : List (L2.Key × Rv)) (ms ks : List Str), more.map (·.1) = ms.map Sum.inr → kvs.map (·.1) = ks.map Sum.inr → (mergeR kvs more).map (·.1) = (ms.foldl TX.stepS ks).map Sum.inr
  | [], _, [], _, _, h => h
  | [], _, _ :: _, _, h, _ => by simp at h
  | _ :: _, _, [], _, h, _ => by simp at h
  | kv :: more, kvs, m :: ms, ks, h, k => by
    rw [List.map_cons, List.map_cons] at h
    obtain ⟨h1, h2⟩ := List.cons.inj h
    show (mergeR (putR kvs kv.1 kv.2) more).map (·.1) = _
    rw [h1]
    exact mergeR_keys more _ ms _ h2 (putR_keys k)
/-- {x: True for x in xs if ..}, texts -/
theorem dc_keys {ti : TId} {j : Nat} {tt : TXb} {tk tv : TX} {vs : List Nat} {sl : SL} {ow : OW} {Q : QR} (items : List Rv) (ok : OW → Prop) (xs : List Str) (p : Str → Bool) (hti : ∀ R : List Rv → (OW → Prop) → OW → Prop, R items ok ow → ti sl ow R) (hi : items = xs.map fun x => .d (.str x)) (hok : ok ow) (hl : xs.length < sizeLine)
    (ht : ∀ x ∈ xs, ∀ K : Bool → OW → Prop, K (p x) ow → tt ((wipeD sl vs).set j (some (.d (.str x)))) ow K) (hk : ∀ x ∈ xs, ∀ K : QR, K (.d (.str x)) ow → tk ((wipeD sl vs).set j (some (.d (.str x)))) ow K) (hv : ∀ x ∈ xs, ∀ K : QR, K (.d (.bool true)) ow → tv ((wipeD sl vs).set j (some (.d (.str x)))) ow K)
    (q : ∀ (kvs : List (L2.Key × Rv)) (ks : List Str), kvs.map (·.1) = ks.map Sum.inr → ks.Nodup → (∀ x, x ∈ ks ↔ x ∈ xs ∧ p x = true) → ks.length ≤ xs.length → Q (.o ow.length) (ow ++ [.dct kvs])) : dDc ti j tt tk tv vs sl ow Q := by
  subst hi
  unfold dDc
  refine hti _ ⟨fun i acc ow' => ow' = ow ∧ ∃ ks : List Str, acc.map (·.1) = ks.map Sum.inr ∧ ks.Nodup ∧ (∀ x, x ∈ ks ↔ x ∈ xs.take i ∧ p x = true) ∧ ks.length ≤ i ∧ i ≤ xs.length, ⟨rfl, [], rfl, List.nodup_nil, fun x => by simp, Nat.le_refl _, Nat.zero_le _⟩, ?_, ?_, ?_⟩
  · rintro i acc ow' ⟨rfl, ks, h1, h2, h3, h4, h5⟩
    refine ⟨hok, ?_⟩
    have e := congrArg List.length h1
    rw [List.length_map, List.length_map] at e
    rw [e]
    exact Nat.lt_of_le_of_lt (Nat.le_trans h4 h5) hl
  · rintro i r acc ow' hi ⟨rfl, ks, h1, h2, h3, h4, h5⟩
    rw [List.getElem?_map] at hi
    obtain ⟨x, hx, rfl⟩ := Option.map_eq_some_iff.mp hi
    have hm := List.mem_of_getElem? hx
    have hlt := (List.getElem?_eq_some_iff.mp hx).1
    have e : xs.take (i + 1) = xs.take i ++ [x] := by rw [List.take_add_one, hx]; rfl
    refine ht x hm _ ?_
    cases hp : p x with
    | true =>
      rw [if_pos rfl]
      refine hk x hm _ (hv x hm _ ⟨_, rfl, rfl, TX.stepS ks x, putR_keys h1, TX.nodup_stepS h2, fun y => ?_, ?_, hlt⟩)
      · rw [TX.mem_stepS, h3 y, e, List.mem_append, List.mem_singleton]
        constructor
        · rintro (⟨a, b⟩ | a)
          · exact ⟨.inl a, b⟩
          · exact ⟨.inr a, by rw [a]; exact hp⟩
        · rintro ⟨a | a, b⟩
          · exact .inl ⟨a, b⟩
          · exact .inr a
      · unfold TX.stepS
        split
        · omega
        · rw [List.length_append]
          exact Nat.succ_le_succ h4
    | false =>
      rw [if_neg Bool.false_ne_true]
      refine ⟨rfl, ks, h1, h2, fun y => ?_, by omega, hlt⟩
      rw [h3 y, e, List.mem_append, List.mem_singleton]
      constructor
      · rintro ⟨a, b⟩
        exact ⟨.inl a, b⟩
      · rintro ⟨a | a, b⟩
        · exact ⟨a, b⟩
        · rw [a, hp] at b
          cases b
  · rintro acc ow' ⟨rfl, ks, h1, h2, h3, h4, h5⟩
    rw [List.length_map] at h3
    rw [List.take_length] at h3
    exact q acc ks h1 h2 h3 (by rw [List.length_map] at h4; exact h4)
theorem nodup_in : ∀ (l U : List Str), l.Nodup → (∀ x ∈ l, x ∈ U) → l.length ≤ U.length
  | [], _, _, _ => Nat.zero_le _
  | x :: l, U, h, k => by
    obtain ⟨h1, h2⟩ := List.nodup_cons.mp h
    have hx := k x List.mem_cons_self
    have ih := nodup_in l (U.erase x) h2 fun y hy => (List.mem_erase_of_ne (fun e => h1 (by rw [← e]; exact hy))).mpr (k y (List.mem_cons_of_mem _ hy))
    rw [List.length_erase_of_mem hx] at ih
    have : 0 < U.length := List.length_pos_of_mem hx
    rw [List.length_cons]
    omega
end DL
end
section
set_option Elab.async false
set_option linter.all false
set_option maxRecDepth 100000
set_option maxHeartbeats 1600000
/-! DL 14: defs with defaults -/
namespace DL
open PySem PySem.Spec PyProof.Rows L2 Evl
section
variable {P : Program} {w : World} {K : FG} {mg : Str → Option Value} {base : Heap} {x qual : Str} {params : Arguments} {body : List Stmt} {scope : Scope} {dvs : List V} {f : Addr} {fd : FuncData} {ps : List Str}
/-- the defaults (its) fill up; g orders positional values, defaults, keywords' values -/
theorem kbinds1 (F : FunD K x qual params body scope dvs [] f fd) (n : Nat) (ks : List Str) (g : {α : Type} → List α → List α → List α → List α) (hd : dvs ≠ [])
    (hrel : ∀ {α β : Type} (G : α → β → Prop) {vs ds zs : List α} {us its ws : List β}, Paired G vs us → Paired G ds its → Paired G zs ws → Paired G (g vs ds zs) (g us its ws))
    {drs : List Rv} (hdr : ∀ (F : Hp) (as : AS), Paired (RvOk K F as) dvs drs)
    (h : ∀ (T : Addr) (kV doc pm : Value) (an : Option Addr) (cdv ct : Value) (us its ws : List Value), us.length = n → its.length = dvs.length → ws.length = ks.length →
      ∃ k, bindArgs (PySem.W.fnOf x qual params body scope (.ref T) kV doc pm an cdv ct) ⟨us, ks.zip ws⟩ = seqItems? (.ref T) >>= k ∧ k (some its.toArray) = pure (ps.zip (g us its ws))) :
    DBn K fd ps n ks (fun rs qs => g rs drs qs) := by
  obtain ⟨oc, od, dV, kV, doc, pm, an, cdv, ct, osl, rfl, lk, hcd, hD, hK⟩ := F.ex
  rcases hD with ⟨e, _⟩ | ⟨_, T, o, its, m, rfl, lT, oT, rT⟩
  · exact absurd e hd
  · refine ⟨fun us ws => g us its ws, fun vs zs => g vs dvs zs, ⟨fun s us ws X l1 l2 => ?_, fun r1 r2 => hrel _ r1 rT r2⟩, fun F as vs zs rs qs h1 h2 _ _ => hrel _ h1 (hdr F as) h2⟩
    obtain ⟨k, e1, e2⟩ := h T kV doc pm an cdv ct us its ws l1 rT.length.symm l2
    refine BindsTo.of_looks fun M => ?_
    rw [e1]
    exact looks_items X lT oT (.of_pure e2)
/-- every parameter is given -/
theorem allbinds (F : FunD K x qual params body scope dvs [] f fd) (n : Nat) (ks : List Str) (g : {α : Type} → List α → List α → List α)
    (hrel : ∀ {α β : Type} (G : α → β → Prop) {vs zs : List α} {us ws : List β}, Paired G vs us → Paired G zs ws → Paired G (g vs zs) (g us ws))
    (h : ∀ (dV kV doc pm : Value) (an : Option Addr) (cdv ct : Value) (us ws : List Value), us.length = n → ws.length = ks.length → bindArgs (PySem.W.fnOf x qual params body scope dV kV doc pm an cdv ct) ⟨us, ks.zip ws⟩ = pure (ps.zip (g us ws))) :
    DBn K fd ps n ks (fun rs qs => g rs qs) := by
  obtain ⟨oc, od, dV, kV, doc, pm, an, cdv, ct, osl, rfl, lk, hcd, hD, hK⟩ := F.ex
  exact DBn.kws g hrel fun us ws l1 l2 => h dV kV doc pm an cdv ct us ws l1 l2
/-- an empty tuple of the module -/
theorem dd_nilK {a : Addr} {o : Obj} {n : Nat} (h : K.lookup a = some o) (hc : o.cls = .type "tuple") (hd : o.data = .seq #[] n) (F : Hp) : Dd K F (.ref a) (.tuple []) :=
  .tup (.inr ⟨o, #[], n, h, hc, hd, Nat.zero_le _, .nil⟩) .nil
theorem paired_snoc {α β : Type} {G : α → β → Prop} {vs ds : List α} {us its : List β} (h : Paired G vs us) (k : Paired G ds its) : Paired G (vs ++ ds) (us ++ its) := Paired.app2 h k
end
end DL
end
section
set_option Elab.async false
set_option linter.all false
set_option maxRecDepth 100000
set_option maxHeartbeats 1600000
namespace K68
open PySem PySem.Spec PyProof.Rows L2 Evl DL
def top (i : Nat) : Stmt := PySem.Challenge.pw_deepedge_k68_live_values.main.body.getD i (.Pass ⟨0, 0, 0, 0⟩)
structure Txt (mg : Str → Option Value) : Prop where
  b_tuple : mg "tuple" = none
  b_sorted : mg "sorted" = none
  b_list : mg "list" = none
  b_len : mg "len" = none
  b_abs : mg "abs" = none
  b_set : mg "set" = none
  b_range : mg "range" = none
  b_int : mg "int" = none
  b_repr : mg "repr" = none

/-! ### the pen -/
/-- cells, at most b of them read, what is left of a large one -/
def Pen (b : Int) (p : List Rv) : Prop := ∃ (cells : List Int) (at_ big : Int), p = [.d (.list (cells.map PyData.int)), .d (.int at_), .d (.int big)] ∧ 0 ≤ at_ ∧ at_ ≤ b ∧ 0 ≤ big
def PenA (ow : OW) (n : Nat) (b : Int) : Prop := ∃ p, lstAt ow n = some p ∧ Pen b p
def Dr (ow ow' : OW) (n : Nat) (b : Int) : Prop := Kp n ow ow' ∧ PenA ow' n b
theorem PenA.le {ow : OW} {n : Nat} {b c : Int} (h : PenA ow n b) (k : b ≤ c) : PenA ow n c := by
  obtain ⟨p, h1, cells, at_, big, e, h2, h3, h4⟩ := h
  exact ⟨p, h1, cells, at_, big, e, h2, by omega, h4⟩
theorem PenA.lt {ow : OW} {n : Nat} {b : Int} (h : PenA ow n b) : n < ow.length := lstAt_lt h.choose_spec.1
theorem PenA.app {ow ys : OW} {n : Nat} {b : Int} (h : PenA ow n b) : PenA (ow ++ ys) n b := by
  obtain ⟨p, h1, h2⟩ := h
  exact ⟨p, by rw [lstAt_app (lstAt_lt h1)]; exact h1, h2⟩
theorem PenA.set {ow : OW} {m n : Nat} {x : OD} {b : Int} (h : PenA ow n b) (k : m ≠ n) : PenA (ow.set m x) n b := by
  obtain ⟨p, h1, h2⟩ := h
  exact ⟨p, by rw [lstAt_ne k]; exact h1, h2⟩
theorem pen_dr {ow : OW} {n : Nat} {b : Int} {p : List Rv} (hlt : n < ow.length) (h : Pen b p) : Dr ow (ow.set n (.lst p)) n b := ⟨Kp.set, p, lstAt_set hlt, h⟩
theorem pen_dr2 {ow : OW} {n : Nat} {b : Int} {x : OD} {p : List Rv} (hlt : n < ow.length) (h : Pen b p) : Dr ow ((ow.set n x).set n (.lst p)) n b := ⟨Kp.set.trans Kp.set, p, lstAt_set (by rw [List.length_set]; exact hlt), h⟩
abbrev s__law_draw : Stmt := top 4
def N__law_draw : List Str := ["_law_pen", "_law_many", "_law_digit", "_law_at", "_law_cell", "_law_mixed"]
def r__law_draw : TM :=
  (dSeq (dIf (dB (dOp rGt (dOp rIxR (dVar 0) (dK (.int 2))) (dK (.int 0))))
      (dSeq (dSet 2 (dOp rMod (dOp rIxR (dVar 0) (dK (.int 2))) (dVar 1)))
      (dSeq (dSetIx (dOp rFdv (dOp rIxR (dVar 0) (dK (.int 2))) (dVar 1)) (dVar 0) (dK (.int 2)))
      (dRet (dVar 2))))
      dNext)
    (dSeq (dSet 3 (dOp rIxR (dVar 0) (dK (.int 1))))
    (dSeq (dSetIx (dOp rAdd (dVar 3) (dK (.int 1))) (dVar 0) (dK (.int 1)))
    (dSeq (dSet 4 (dOp rAdd (dOp rMul (dK (.int 4211)) (dVar 3)) (dK (.int 59))))
    (dCut (dIf (dB (dOp (rEqR true) (dOp rIxR (dVar 0) (dK (.int 0))) (dLst dNil)))
      (dSet 4 (dOp rIxR (dOp rIxR (dVar 0) (dK (.int 0))) (dOp rMod (dVar 3) (dCB rLen (dCons (dOp rIxR (dVar 0) (dK (.int 0))) dNil)))))
      dNext)
    (dSeq (dIf (dAnd (dB (dOp rLt (dVar 3) (dCB rLen (dCons (dOp rIxR (dVar 0) (dK (.int 0))) dNil)))) (dB (dOp rGe (dCB rAbs (dCons (dVar 4) dNil)) (dOp rPow (dK (.int 10)) (dK (.int 18))))))
      (dSeq (dSetIx (dOp rFdv (dCB rAbs (dCons (dVar 4) dNil)) (dVar 1)) (dVar 0) (dK (.int 2)))
      (dRet (dOp rMod (dCB rAbs (dCons (dVar 4) dNil)) (dVar 1))))
      dNext)
    (dSeq (dSet 5 (dOp rMod (dOp rPow (dOp rAdd (dOp rAdd (dOp rMod (dVar 4) (dK (.int 2147483549))) (dOp rMul (dK (.int 44211)) (dVar 3))) (dK (.int 59))) (dK (.int 5))) (dK (.int 2147483647))))
    (dSeq (dSet 5 (dOp rMod (dOp rPow (dOp rAdd (dOp rMul (dVar 5) (dOp rAdd (dVar 3) (dK (.int 50021)))) (dOp rMul (dOp rMul (dK (.int 60013)) (dVar 3)) (dVar 3))) (dK (.int 3))) (dK (.int 2147483587))))
    (dRet (dOp rMod (dOp rFdv (dVar 5) (dK (.int 32))) (dVar 1)))))))))))

def sp__law_draw : DSp := fun rs ow Q _ => ∃ n b many, rs = [.o n, .d (.int many)] ∧ PenA ow n b ∧ b ≤ 1000000 ∧ 0 < many ∧ many < 1000000 ∧ ∀ r ow', 0 ≤ r → r < many → Dr ow ow' n (b + 1) → Q (.d (.int r)) ow'
theorem len__law_draw : ∀ rs ow Q E, sp__law_draw rs ow Q E → rs.length = 2 := fun rs ow Q E ⟨_, _, _, h, _⟩ => by rw [h]; rfl
theorem mixed_lt {c a : Int} (h0 : 0 ≤ c) (h1 : c < 2147483549) (h2 : 0 ≤ a) (h3 : a ≤ 1000000) : (c + 44211 * a + 59).natAbs < 2 ^ 64 := by omega
theorem mixed2_lt {c a : Int} (h0 : 0 ≤ c) (h1 : c < 2147483647) (h2 : 0 ≤ a) (h3 : a ≤ 1000000) : (c * (a + 50021) + 60013 * a * a).natAbs < 2 ^ 64 := by
  have e1 : c * (a + 50021) ≤ 2147483647 * 1050021 := Int.mul_le_mul (by omega) (by omega) (by omega) (by decide)
  have e2 : 60013 * a * a ≤ 60013 * 1000000 * 1000000 := Int.mul_le_mul (by omega) h3 h2 (by decide)
  have e3 : 0 ≤ c * (a + 50021) := Int.mul_nonneg h0 (by omega)
  have e4 : 0 ≤ 60013 * a * a := Int.mul_nonneg (by omega) h2
  omega
theorem small64 {a : Int} (h0 : 0 ≤ a) (h1 : a ≤ 100000000000) : -(2 ^ 64) < a ∧ a < 2 ^ 64 := by omega
theorem pl__law_draw {rs ow QD QX} (h : sp__law_draw rs ow QD QX) : r__law_draw { nx := fun _ ow' => QD (.d .none) ow', rt := QD } (startR N__law_draw rs) ow := by
  obtain ⟨n, b, many, rfl, ⟨p, hp, cells, at_, big, rfl, h1, h2, h3⟩, h4, h5, h6, k⟩ := h
  have hlt := lstAt_lt hp
  refine ⟨_, _, hp, rfl, ?_⟩
  refine iteB (fun hb => ?_) (fun hb => ?_)
  · refine ⟨_, _, hp, rfl, h5, ?_⟩
    refine ⟨_, _, hp, rfl, ⟨h5, by omega⟩, ?_⟩
    refine ⟨_, _, hp, rfl, ?_⟩
    have hd := of_decide_eq_true hb
    refine k _ _ (Int.emod_nonneg _ (by omega)) (Int.emod_lt_of_pos _ h5) (pen_dr hlt ⟨cells, at_, big / many, rfl, h1, by omega, Int.ediv_nonneg h3 (by omega)⟩)
  · refine ⟨_, _, hp, rfl, ?_⟩
    refine ⟨_, _, hp, rfl, ?_⟩
    generalize hw : ow.set n (.lst [Rv.d (.list (cells.map PyData.int)), .d (.int (at_ + 1)), .d (.int big)]) = ow2
    have hp2 : lstAt ow2 n = some [Rv.d (.list (cells.map PyData.int)), .d (.int (at_ + 1)), .d (.int big)] := by rw [← hw]; exact lstAt_set hlt
    have hlt2 := lstAt_lt hp2
    have hp3 : lstAt (ow.set n (.lst [Rv.d (.list (cells.map PyData.int)), .d (.int (at_ + 1)), .d (.int big)])) n = some [Rv.d (.list (cells.map PyData.int)), .d (.int (at_ + 1)), .d (.int big)] := lstAt_set hlt
    have kp : Kp n ow ow2 := by rw [← hw]; exact Kp.set
    have fin : ∀ big', 0 ≤ big' → Dr ow (ow2.set n (.lst [Rv.d (.list (cells.map PyData.int)), .d (.int (at_ + 1)), .d (.int big')])) n (b + 1) := fun big' h => ⟨kp.trans Kp.set, _, lstAt_set hlt2, cells, at_ + 1, big', rfl, by omega, by omega, h⟩
    refine ⟨Or.inl (by decide), ?_⟩
    -- the cell
    refine ⟨fun sl' ow' => ow' = ow2 ∧ ∃ c : Int, sl' = [some (.o n), some (.d (.int many)), none, some (.d (.int at_)), some (.d (.int c)), none], ?_, ?_⟩
    · refine ⟨_, _, hp3, rfl, Nat.zero_le _, ⟨shaped_ints cells, rfl⟩, ?_⟩
      refine iteB (fun hne => ?_) (fun hne => ?_)
      · have hl : 0 < cells.length := by
          have hne : (!PyData.eqv (.list (cells.map PyData.int)) (.list [])) = true := hne
          rw [eq_nil] at hne
          cases cells with
          | nil => simp at hne
          | cons c r => simp
        have em := Int.emod_nonneg at_ (show ((cells.length : Nat) : Int) ≠ 0 by omega)
        have em2 := Int.emod_lt_of_pos at_ (show 0 < ((cells.length : Nat) : Int) by omega)
        obtain ⟨x, hx1, hx2⟩ := atI_nn (l := (cells.map PyData.int).map Rv.d) (i := at_ % (cells.length : Int)) em (by simpa using em2)
        have hx3 : ∃ c, x = .d (.int c) := by
          rw [List.map_map, List.getElem?_map] at hx1
          obtain ⟨c, _, e⟩ := Option.map_eq_some_iff.mp hx1
          exact ⟨c, e.symm⟩
        obtain ⟨c, rfl⟩ := hx3
        have ll : (((cells.map PyData.int).map Rv.d).length : Int) = (cells.length : Int) := by simp
        refine ⟨_, _, hp3, rfl, _, _, hp3, rfl, _, rfl, ?_⟩
        refine ⟨by rw [ll]; omega, _, _, rfl, by rw [ll]; exact hx2, ?_⟩
        exact ⟨hw, c, rfl⟩
      · exact ⟨hw, _, rfl⟩
    · rintro sl' ow' ⟨rfl, c, rfl⟩
      have lenC : ∀ Q : Rv → OW → Prop, Q (.d (.int (((cells.map PyData.int).map Rv.d).length : Int))) ow' → ∃ rs : List Rv, some ((cells.map PyData.int).map Rv.d) = some rs ∧ Q (.d (.int (rs.length : Int))) ow' := fun Q h => ⟨_, rfl, h⟩
      have habs : 0 ≤ (if c < 0 then -c else c) := by
        by_cases hc : c < 0
        · rw [if_pos hc]; omega
        · rw [if_neg hc]; omega
      have rest : dSeq (dSet 5 (dOp rMod (dOp rPow (dOp DL.rAdd (dOp DL.rAdd (dOp rMod (dVar 4) (dK (.int 2147483549))) (dOp rMul (dK (.int 44211)) (dVar 3))) (dK (.int 59))) (dK (.int 5))) (dK (.int 2147483647))))
          (dSeq (dSet 5 (dOp rMod (dOp rPow (dOp DL.rAdd (dOp rMul (dVar 5) (dOp DL.rAdd (dVar 3) (dK (.int 50021)))) (dOp rMul (dOp rMul (dK (.int 60013)) (dVar 3)) (dVar 3))) (dK (.int 3))) (dK (.int 2147483587))))
          (dRet (dOp rMod (dOp rFdv (dVar 5) (dK (.int 32))) (dVar 1)))) { nx := fun _ ow' => QD (.d .none) ow', rt := QD } [some (.o n), some (.d (.int many)), none, some (.d (.int at_)), some (.d (.int c)), none] ow' := by
        refine ⟨(by decide : (0 : Int) < 2147483549), Or.inl (by decide), ⟨by decide, by decide, mixed_lt (Int.emod_nonneg _ (by decide)) (Int.emod_lt_of_pos _ (by decide)) h1 (by omega)⟩, (by decide : (0 : Int) < 2147483647), ?_⟩
        have q := small64 h1 (by omega)
        refine ⟨Or.inr (small64 (by omega) (by omega)), Or.inl (by decide), Or.inr q, ⟨by decide, by decide, mixed2_lt (Int.emod_nonneg _ (by decide)) (Int.emod_lt_of_pos _ (by decide)) h1 (by omega)⟩, (by decide : (0 : Int) < 2147483587), ?_⟩
        refine ⟨⟨by decide, by decide⟩, h5, ?_⟩
        refine k _ _ (Int.emod_nonneg _ (by omega)) (Int.emod_lt_of_pos _ h5) ⟨kp, _, hp2, cells, at_ + 1, big, rfl, by omega, by omega, h3⟩
      refine ⟨_, _, hp2, rfl, _, rfl, ?_⟩
      refine iteB (fun _ => ?_) (fun _ => ?_)
      · refine ⟨⟨by decide, by decide, by decide⟩, ?_⟩
        refine iteB (fun _ => ?_) (fun _ => ?_)
        · refine ⟨⟨h5, by omega⟩, _, _, hp2, rfl, ?_⟩
          refine ⟨h5, ?_⟩
          exact k _ _ (Int.emod_nonneg _ (by omega)) (Int.emod_lt_of_pos _ h5) (fin _ (Int.ediv_nonneg habs (by omega)))
        · exact rest
      · exact rest
theorem sc__law_draw : FnScope N__law_draw ["_law_pen", "_law_many"] (defScope s__law_draw) := ⟨rfl, rfl, rfl, by decide +kernel, rfl, by decide +kernel, by decide +kernel⟩
theorem ok__law_draw {P : Program} {w : World} {K : FG} {mg : Str → Option Value} {base : Heap} {f : Addr} {fd : FuncData} (F : FunD K "_law_draw" "_law_draw" (defArgs s__law_draw) (defBody s__law_draw) (defScope s__law_draw) [] [] f fd) (T : Txt mg)  :
    FnG P w K mg base (L2.CX P w) false 1 f fd ["_law_pen", "_law_many"] (lift K sp__law_draw) := by
  refine okD (k := 0) F sc__law_draw len__law_draw fun cdv A outer s H E F0 as rs ow QD QX hr hgd tk h => ⟨r__law_draw, ?_, pl__law_draw h⟩
  have m : Cm (dxOf P w K mg base N__law_draw "_law_draw" (defScope s__law_draw) f cdv A outer s H E F0 as).toCx := ⟨rfl, by have := hr.un; show (A.deeper _).units + 150 < cLine; omega⟩
  have sc := sc__law_draw
  exact (db_cons (ds_if (dt_gt (de_ix (dn 0) de_int) de_int)
      (db_cons (ds_set (i := 2) sc.nd rfl (Or.inl rfl) (de_mod (de_ix (dn 0) de_int) (dn 1)))
      (db_cons (ds_setIx (de_fdiv (de_ix (dn 0) de_int) (dn 1)) (dn 0) de_int (fun _ => rfl))
      (db_one (ds_ret (dn 2)))))
      db_nil)
    (db_cons (ds_set (i := 3) sc.nd rfl (Or.inl rfl) (de_ix (dn 0) de_int))
    (db_cons (ds_setIx (de_add (dn 3) de_int) (dn 0) de_int (fun _ => rfl))
    (db_cons (ds_set (i := 4) sc.nd rfl (Or.inl rfl) (de_add (de_mul de_int (dn 3)) de_int))
    (db_cut (ds_if (dt_ne m (de_ix (dn 0) de_int) (de_lst da_nil))
      (db_one (ds_set (i := 4) sc.nd rfl (Or.inl rfl) (de_ix (de_ix (dn 0) de_int) (de_mod (dn 3) (de_len rfl T.b_len (da_cons (de_ix (dn 0) de_int) da_nil))))))
      db_nil)
    (db_cons (ds_if (DW.dt (dw_and (dt_lt (dn 3) (de_len rfl T.b_len (da_cons (de_ix (dn 0) de_int) da_nil))) (dw_and1 (dt_ge (de_abs rfl T.b_abs (da_cons (dn 4) da_nil)) (de_pow de_int de_int)))))
      (db_cons (ds_setIx (de_fdiv (de_abs rfl T.b_abs (da_cons (dn 4) da_nil)) (dn 1)) (dn 0) de_int (fun _ => rfl))
      (db_one (ds_ret (de_mod (de_abs rfl T.b_abs (da_cons (dn 4) da_nil)) (dn 1)))))
      db_nil)
    (db_cons (ds_set (i := 5) sc.nd rfl (Or.inl rfl) (de_mod (de_pow (de_add (de_add (de_mod (dn 4) de_int) (de_mul de_int (dn 3))) de_int) de_int) de_int))
    (db_cons (ds_set (i := 5) sc.nd rfl (Or.inl rfl) (de_mod (de_pow (de_add (de_mul (dn 5) (de_add (dn 3) de_int)) (de_mul (de_mul de_int (dn 3)) (dn 3))) de_int) de_int))
    (db_one (ds_ret (de_mod (de_fdiv (dn 5) de_int) (dn 1))))))))))))


abbrev s__law_pen_of : Stmt := top 3
def N__law_pen_of : List Str := ["_law_script"]
def r__law_pen_of : TM :=
  (dRet (dLstO (dCons (dCB rLstF (dCons (dSl (dVar 0) dON (dOS (dK (.int 63)))) dNil)) (dCons (dK (.int 0)) (dCons (dK (.int 0)) dNil)))))

def sp__law_pen_of : DSp := fun rs ow Q _ => ∃ ns, rs = [.f ns] ∧ ∀ cells : List Int, Q (.o ow.length) (ow ++ [.lst [.d (.list (cells.map PyData.int)), .d (.int 0), .d (.int 0)]])
theorem len__law_pen_of : ∀ rs ow Q E, sp__law_pen_of rs ow Q E → rs.length = 1 := fun rs ow Q E ⟨_, h, _⟩ => by rw [h]; rfl
theorem pl__law_pen_of {rs ow QD QX} (h : sp__law_pen_of rs ow QD QX) : r__law_pen_of { nx := fun _ ow' => QD (.d .none) ow', rt := QD } (startR N__law_pen_of rs) ow := by
  obtain ⟨ns, rfl, k⟩ := h
  refine sl_f rfl ?_
  refine ⟨_, _, rfl, allD_map _, ?_⟩
  refine ⟨szr rfl, ?_⟩
  rw [cut_map]
  exact k _
theorem sc__law_pen_of : FnScope N__law_pen_of ["_law_script"] (defScope s__law_pen_of) := ⟨rfl, rfl, rfl, by decide +kernel, rfl, by decide +kernel, by decide +kernel⟩
theorem ok__law_pen_of {P : Program} {w : World} {K : FG} {mg : Str → Option Value} {base : Heap} {f : Addr} {fd : FuncData} (F : FunD K "_law_pen_of" "_law_pen_of" (defArgs s__law_pen_of) (defBody s__law_pen_of) (defScope s__law_pen_of) [] [] f fd) (T : Txt mg)  :
    FnG P w K mg base (L2.CX P w) false 1 f fd ["_law_script"] (lift K sp__law_pen_of) := by
  refine okD (k := 0) F sc__law_pen_of len__law_pen_of fun cdv A outer s H E F0 as rs ow QD QX hr hgd tk h => ⟨r__law_pen_of, ?_, pl__law_pen_of h⟩
  have m : Cm (dxOf P w K mg base N__law_pen_of "_law_pen_of" (defScope s__law_pen_of) f cdv A outer s H E F0 as).toCx := ⟨rfl, by have := hr.un; show (A.deeper _).units + 150 < cLine; omega⟩
  have sc := sc__law_pen_of
  exact (db_one (ds_ret (de_lstO (da_cons (de_lstF rfl T.b_list (da_cons (de_slice (dn 0) do_none (do_some de_int)) da_nil)) (da_cons de_int (da_cons de_int da_nil))))))

def names6 : List Str := ["a", "b", "c", "d", "e", "ba"]
abbrev s__law_start_drawn : Stmt := top 7
def N__law_start_drawn : List Str := ["_law_pen", "_law_names", "_law_many", "_law_k"]
def r__law_start_drawn : TM :=
  (dSeq (dSet 1 (dSl (dLst (dCons (dK (.str "a")) (dCons (dK (.str "b")) (dCons (dK (.str "c")) (dCons (dK (.str "d")) (dCons (dK (.str "e")) (dCons (dK (.str "ba")) dNil))))))) dON (dOS (dOp rAdd (dK (.int 1)) (dCall 2 (fun rs _ => rs) sp__law_draw noX (dCons (dVar 0) (dCons (dK (.int 6)) dNil)))))))
    (dSeq (dSet 2 (dOp rIxR (dLst (dCons (dK (.int 0)) (dCons (dK (.int 1)) (dCons (dK (.int 2)) (dCons (dK (.int 3)) (dCons (dK (.int 6)) (dCons (dK (.int 12)) dNil))))))) (dCall 2 (fun rs _ => rs) sp__law_draw noX (dCons (dVar 0) (dCons (dK (.int 6)) dNil)))))
    (dSeq (dIf (dB (dOp (rEqR false) (dCall 2 (fun rs _ => rs) sp__law_draw noX (dCons (dVar 0) (dCons (dK (.int 2)) dNil))) (dK (.int 0))))
      (dRet (dCB rTupF (dCons (dSl (dVar 1) dON (dOS (dVar 2))) dNil)))
      dNext)
    (dRet (dCB rTupF (dCons (dLc (diRng1 (dCons (dVar 2) dNil)) 3 dYes (dOp rIxR (dVar 1) (dCall 2 (fun rs _ => rs) sp__law_draw noX (dCons (dVar 0) (dCons (dCB rLen (dCons (dVar 1) dNil)) dNil)))) [3]) dNil))))))

def sp__law_start_drawn : DSp := fun rs ow Q _ => ∃ n b, rs = [.o n] ∧ PenA ow n b ∧ b + 20 ≤ 1000000 ∧ ∀ (xs : List Str) ow', (∀ x ∈ xs, x ∈ names6) → xs.length ≤ 12 → Dr ow ow' n (b + 20) → Q (.d (.tuple (xs.map PyData.str))) ow'
theorem len__law_start_drawn : ∀ rs ow Q E, sp__law_start_drawn rs ow Q E → rs.length = 1 := fun rs ow Q E ⟨_, _, h, _⟩ => by rw [h]; rfl
theorem Dr.trans {a b c : OW} {n : Nat} {x y : Int} (h : Dr a b n x) (k : Dr b c n y) : Dr a c n y := ⟨h.1.trans k.1, k.2⟩
theorem Dr.le {a b : OW} {n : Nat} {x y : Int} (h : Dr a b n x) (k : x ≤ y) : Dr a b n y := ⟨h.1, h.2.le k⟩
theorem Dr.refl {a : OW} {n : Nat} {x : Int} (h : PenA a n x) : Dr a a n x := ⟨Kp.refl, h⟩
theorem pl__law_start_drawn {rs ow QD QX} (h : sp__law_start_drawn rs ow QD QX) : r__law_start_drawn { nx := fun _ ow' => QD (.d .none) ow', rt := QD } (startR N__law_start_drawn rs) ow := by
  obtain ⟨n, b, rfl, hp, hb, k⟩ := h
  refine ⟨by decide, rfl, n, b, 6, rfl, hp, by omega, by decide, by decide, fun r ow1 r0 r1 d1 => ?_⟩
  have e1 : cutL (names6.map PyData.str) none (some (1 + r)) = (names6.take (1 + r).toNat).map PyData.str := by rw [cut_map, cut_to _ (by omega)]
  generalize hns : names6.take (1 + r).toNat = ns at e1
  have n1 : ∀ x ∈ ns, x ∈ names6 := fun x hx => by rw [← hns] at hx; exact List.mem_of_mem_take hx
  have n2 : 0 < ns.length ∧ ns.length ≤ 6 := by
    rw [← hns, List.length_take]
    have : names6.length = 6 := rfl
    omega
  refine sl_l e1 ?_
  refine ⟨by decide, rfl, n, b + 1, 6, rfl, d1.2, by omega, by decide, by decide, fun r2 ow2 r20 r21 d2 => ?_⟩
  refine ix_l r20 r21 fun d hd => ?_
  have hd2 : ∃ v : Nat, d = .int (v : Int) ∧ v ≤ 12 := by
    have := List.mem_of_getElem? hd
    simp only [List.mem_cons, List.not_mem_nil, or_false] at this
    rcases this with rfl | rfl | rfl | rfl | rfl | rfl
    · exact ⟨0, rfl, by decide⟩
    · exact ⟨1, rfl, by decide⟩
    · exact ⟨2, rfl, by decide⟩
    · exact ⟨3, rfl, by decide⟩
    · exact ⟨6, rfl, by decide⟩
    · exact ⟨12, rfl, by decide⟩
  obtain ⟨v, rfl, hv⟩ := hd2
  refine ⟨rfl, n, b + 1 + 1, 2, rfl, d2.2, by omega, by decide, by decide, fun r3 ow3 r30 r31 d3 => ?_⟩
  refine ⟨trivial, iteB (fun _ => ?_) (fun _ => ?_)⟩
  · refine sl_l (by rw [cut_map, cut_to _ (by omega)]) ?_
    refine ⟨_, _, rfl, allD_map _, ?_⟩
    exact k _ _ (fun x hx => n1 x (List.mem_of_mem_take hx)) (by rw [List.length_take]; omega) (((d1.trans d2).trans d3).le (by omega))
  · refine ⟨by omega, by omega, ?_⟩
    refine ⟨fun i acc ow' => ∃ xs : List Str, acc = xs.map PyData.str ∧ xs.length = i ∧ i ≤ v ∧ (∀ x ∈ xs, x ∈ names6) ∧ Dr ow ow' n (b + 3 + i), ?_, ?_, ?_, ?_⟩
    · exact ⟨[], rfl, rfl, by omega, fun x hx => by simp at hx, ((d1.trans d2).trans d3).le (by omega)⟩
    · rintro i acc ow' ⟨xs, rfl, h1, h2, _, _⟩
      exact ⟨trivial, by rw [List.length_map, h1]; exact Nat.lt_of_le_of_lt h2 (Nat.lt_of_le_of_lt hv (by decide))⟩
    · rintro i r acc ow' hi ⟨xs, rfl, h1, h2, h3, h4⟩
      obtain ⟨hi1, rfl⟩ := rangeR_get hi
      refine ⟨_, rfl, rfl, n, b + 3 + i, (ns.length : Int), by rw [List.length_map, List.length_map], h4.2, by omega, by omega, by omega, fun r4 ow4 r40 r41 d4 => ?_⟩
      refine ix_l r40 (by rw [List.length_map]; exact r41) fun d hd => ?_
      rw [List.getElem?_map] at hd
      obtain ⟨y, hy, rfl⟩ := Option.map_eq_some_iff.mp hd
      refine ⟨xs ++ [y], by rw [List.map_append]; rfl, by rw [List.length_append, h1]; rfl, by omega, fun x hx => ?_, (h4.trans d4).le (by omega)⟩
      rcases List.mem_append.mp hx with hx | hx
      · exact h3 x hx
      · rw [List.mem_singleton.mp hx]
        exact n1 y (List.mem_of_getElem? hy)
    · rintro acc ow' ⟨xs, rfl, h1, h2, h3, h4⟩
      rw [rangeR_len] at h1
      refine ⟨_, _, rfl, allD_map _, ?_⟩
      exact k xs ow' h3 (by omega) (h4.le (by rw [rangeR_len]; omega))
theorem sc__law_start_drawn : FnScope N__law_start_drawn ["_law_pen"] (defScope s__law_start_drawn) := ⟨rfl, rfl, rfl, by decide +kernel, rfl, by decide +kernel, by decide +kernel⟩
theorem ok__law_start_drawn {P : Program} {w : World} {K : FG} {mg : Str → Option Value} {base : Heap} {f : Addr} {fd : FuncData} (F : FunD K "_law_start_drawn" "_law_start_drawn" (defArgs s__law_start_drawn) (defBody s__law_start_drawn) (defScope s__law_start_drawn) [] [] f fd) (T : Txt mg) (h__law_draw : DFn P w K mg base false 1 "_law_draw" 2 [] (fun rs _ => rs) sp__law_draw) :
    FnG P w K mg base (L2.CX P w) false 2 f fd ["_law_pen"] (lift K sp__law_start_drawn) := by
  refine okD (k := 1) F sc__law_start_drawn len__law_start_drawn fun cdv A outer s H E F0 as rs ow QD QX hr hgd tk h => ⟨r__law_start_drawn, ?_, pl__law_start_drawn h⟩
  have m : Cm (dxOf P w K mg base N__law_start_drawn "_law_start_drawn" (defScope s__law_start_drawn) f cdv A outer s H E F0 as).toCx := ⟨rfl, by have := hr.un; show (A.deeper _).units + 150 < cLine; omega⟩
  have sc := sc__law_start_drawn
  exact (db_cons (ds_set (i := 1) sc.nd rfl (Or.inr rfl) (de_slice (de_lst (da_cons de_str (da_cons de_str (da_cons de_str (da_cons de_str (da_cons de_str (da_cons de_str da_nil))))))) do_none (do_some (de_add de_int (de_call h__law_draw (hr.mono (by decide)) (fun z => nomatch z) tk_none rfl (da_cons (dn 0) (da_cons de_int da_nil)))))))
    (db_cons (ds_set (i := 2) sc.nd rfl (Or.inl rfl) (de_ix (de_lst (da_cons de_int (da_cons de_int (da_cons de_int (da_cons de_int (da_cons de_int (da_cons de_int da_nil))))))) (de_call h__law_draw (hr.mono (by decide)) (fun z => nomatch z) tk_none rfl (da_cons (dn 0) (da_cons de_int da_nil)))))
    (db_cons (ds_if (dt_eq m (de_call h__law_draw (hr.mono (by decide)) (fun z => nomatch z) tk_none rfl (da_cons (dn 0) (da_cons de_int da_nil))) de_int)
      (db_one (ds_ret (de_tupF rfl T.b_tuple (da_cons (de_slice (dn 1) do_none (do_some (dn 2))) da_nil))))
      db_nil)
    (db_one (ds_ret (de_tupF rfl T.b_tuple (da_cons (de_lc (own := [("_law_k", 3)]) m sc.nd (blkOk_by (N := N__law_start_drawn) (sc := defScope s__law_start_drawn) (by decide +kernel)) (by decide) (di_rng1 rfl T.b_range (da_cons (dn 2) da_nil)) (fun _ _ _ _ _ => pg_name (i := 3) sc.nd rfl (Or.inl rfl) (Or.inr rfl)) DTs.nil (fun _ _ _ _ _ => (de_ix (dn 1) (de_call h__law_draw (hr.mono (by decide)) (fun z => nomatch z) tk_none rfl (da_cons (dn 0) (da_cons (de_len rfl T.b_len (da_cons (dn 1) da_nil)) da_nil)))))) da_nil)))))))

/-! ### targets -/
abbrev s__law_target_drawn : Stmt := top 6
def N__law_target_drawn : List Str := ["_law_pen", "_law_known", "_law_some", "_law_many", "_law_k"]
def r__law_target_drawn : TM :=
  (dSeq (dSet 2 (dSl (dVar 1) (dOS (dNeg (dOp rIxR (dLst (dCons (dK (.int 1)) (dCons (dK (.int 2)) (dCons (dK (.int 4)) (dCons (dK (.int 30)) dNil))))) (dCall 2 (fun rs _ => rs) sp__law_draw noX (dCons (dVar 0) (dCons (dK (.int 4)) dNil)))))) dON))
    (dCut (dSet 3 (dIte (dB (dOp (rEqR true) (dVar 1) (dLst dNil))) (dOp rIxR (dLst (dCons (dK (.int 0)) (dCons (dK (.int 1)) (dCons (dK (.int 2)) (dCons (dK (.int 4)) (dCons (dCall 2 (fun rs _ => rs) sp__law_draw noX (dCons (dVar 0) (dCons (dK (.int 9)) dNil))) dNil)))))) (dCall 2 (fun rs _ => rs) sp__law_draw noX (dCons (dVar 0) (dCons (dK (.int 5)) dNil)))) (dK (.int 0))))
    (dRet (dCB rTupF (dCons (dLc (diRng1 (dCons (dVar 3) dNil)) 4 dYes (dOp rIxR (dVar 2) (dCall 2 (fun rs _ => rs) sp__law_draw noX (dCons (dVar 0) (dCons (dCB rLen (dCons (dVar 2) dNil)) dNil)))) [4]) dNil)))))

def sp__law_target_drawn : DSp := fun rs ow Q _ => ∃ n b, ∃ kn : List Str, rs = [.o n, .d (.list (kn.map PyData.str))] ∧ PenA ow n b ∧ b + 20 ≤ 1000000 ∧ kn.length ≤ 100 ∧ (∀ x ∈ kn, PyData.strOk x = true) ∧ ∀ (xs : List Str) ow', (∀ x ∈ xs, x ∈ kn) → xs.length ≤ 8 → Dr ow ow' n (b + 20) → Q (.d (.tuple (xs.map PyData.str))) ow'
theorem len__law_target_drawn : ∀ rs ow Q E, sp__law_target_drawn rs ow Q E → rs.length = 2 := fun rs ow Q E ⟨_, _, _, h, _⟩ => by rw [h]; rfl
theorem pl__law_target_drawn {rs ow QD QX} (h : sp__law_target_drawn rs ow QD QX) : r__law_target_drawn { nx := fun _ ow' => QD (.d .none) ow', rt := QD } (startR N__law_target_drawn rs) ow := by
  obtain ⟨n, b, kn, rfl, hp, hb, hk, hok, k⟩ := h
  refine ⟨szr rfl, ?_⟩
  refine ⟨rfl, n, b, 4, rfl, hp, by omega, by decide, by decide, fun r ow1 r0 r1 d1 => ?_⟩
  refine ix_l r0 r1 fun d hd => ?_
  have hd2 : ∃ v : Int, d = .int v ∧ 0 < v := by
    have := List.mem_of_getElem? hd
    simp only [List.mem_cons, List.not_mem_nil, or_false] at this
    rcases this with rfl | rfl | rfl | rfl
    · exact ⟨1, rfl, by decide⟩
    · exact ⟨2, rfl, by decide⟩
    · exact ⟨4, rfl, by decide⟩
    · exact ⟨30, rfl, by decide⟩
  obtain ⟨v, rfl, hv⟩ := hd2
  generalize hsm : kn.drop (kn.length - v.toNat) = sm
  refine sl_l (es := sm.map PyData.str) (by rw [cut_map, cut_last _ hv, hsm]) ?_
  have sm1 : ∀ x ∈ sm, x ∈ kn := fun x hx => by rw [← hsm] at hx; exact List.mem_of_mem_drop hx
  have sm2 : sm.length ≤ 100 := by rw [← hsm, List.length_drop]; omega
  have sm3 : 0 < kn.length → 0 < sm.length := fun h => by rw [← hsm, List.length_drop]; omega
  -- the number
  refine ⟨fun sl' ow' => ∃ m : Nat, m ≤ 8 ∧ (0 < m → 0 < kn.length) ∧ sl' = [some (.o n), some (.d (.list (kn.map PyData.str))), some (.d (.list (sm.map PyData.str))), some (.d (.int (m : Int))), none] ∧ Dr ow ow' n (b + 3), ?_, ?_⟩
  · refine ⟨szr rfl, ⟨shaped_strs hok, rfl⟩, ?_⟩
    refine iteB (fun hne => ?_) (fun hne => ?_)
    · have hl : 0 < kn.length := by
        have hne : (!PyData.eqv (.list (kn.map PyData.str)) (.list [])) = true := hne
        rw [eq_nil] at hne
        cases kn with
        | nil => simp at hne
        | cons c r => simp
      refine ⟨rfl, n, b + 1, 9, rfl, d1.2, by omega, by decide, by decide, fun r2 ow2 r20 r21 d2 => ?_⟩
      refine ⟨szr rfl, ?_⟩
      refine ⟨rfl, n, b + 1 + 1, 5, rfl, d2.2, by omega, by decide, by decide, fun r3 ow3 r30 r31 d3 => ?_⟩
      refine ix_l r30 r31 fun d hd => ?_
      have hd2 : ∃ m : Nat, d = .int (m : Int) ∧ m ≤ 8 := by
        have := List.mem_of_getElem? hd
        simp only [List.mem_cons, List.not_mem_nil, or_false] at this
        rcases this with rfl | rfl | rfl | rfl | rfl
        · exact ⟨0, rfl, by decide⟩
        · exact ⟨1, rfl, by decide⟩
        · exact ⟨2, rfl, by decide⟩
        · exact ⟨4, rfl, by decide⟩
        · exact ⟨r2.toNat, by rw [Int.toNat_of_nonneg r20], by omega⟩
      obtain ⟨m, rfl, hm⟩ := hd2
      exact ⟨m, hm, fun _ => hl, rfl, ((d1.trans d2).trans d3).le (by omega)⟩
    · exact ⟨0, by omega, fun h => absurd h (by omega), rfl, d1.le (by omega)⟩
  · rintro sl' ow0 ⟨v, hv, hv2, rfl, d0⟩
    refine ⟨by omega, by omega, ?_⟩
    refine ⟨fun i acc ow' => ∃ xs : List Str, acc = xs.map PyData.str ∧ xs.length = i ∧ i ≤ v ∧ (∀ x ∈ xs, x ∈ kn) ∧ Dr ow ow' n (b + 3 + i), ?_, ?_, ?_, ?_⟩
    · exact ⟨[], rfl, rfl, by omega, fun x hx => by simp at hx, d0.le (by omega)⟩
    · rintro i acc ow' ⟨xs, rfl, h1, h2, _, _⟩
      exact ⟨trivial, by rw [List.length_map, h1]; exact Nat.lt_of_le_of_lt h2 (Nat.lt_of_le_of_lt hv (by decide))⟩
    · rintro i r acc ow' hi ⟨xs, rfl, h1, h2, h3, h4⟩
      obtain ⟨hi1, rfl⟩ := rangeR_get hi
      have hs := sm3 (hv2 (by omega))
      refine ⟨_, rfl, rfl, n, b + 3 + i, (sm.length : Int), by rw [List.length_map, List.length_map], h4.2, by omega, by omega, by omega, fun r4 ow4 r40 r41 d4 => ?_⟩
      refine ix_l r40 (by rw [List.length_map]; exact r41) fun d hd => ?_
      rw [List.getElem?_map] at hd
      obtain ⟨y, hy, rfl⟩ := Option.map_eq_some_iff.mp hd
      refine ⟨xs ++ [y], by rw [List.map_append]; rfl, by rw [List.length_append, h1]; rfl, by omega, fun x hx => ?_, (h4.trans d4).le (by omega)⟩
      rcases List.mem_append.mp hx with hx | hx
      · exact h3 x hx
      · rw [List.mem_singleton.mp hx]
        exact sm1 y (List.mem_of_getElem? hy)
    · rintro acc ow' ⟨xs, rfl, h1, h2, h3, h4⟩
      rw [rangeR_len] at h1
      refine ⟨_, _, rfl, allD_map _, ?_⟩
      exact k xs ow' h3 (by omega) (h4.le (by rw [rangeR_len]; omega))
theorem sc__law_target_drawn : FnScope N__law_target_drawn ["_law_pen", "_law_known"] (defScope s__law_target_drawn) := ⟨rfl, rfl, rfl, by decide +kernel, rfl, by decide +kernel, by decide +kernel⟩
theorem ok__law_target_drawn {P : Program} {w : World} {K : FG} {mg : Str → Option Value} {base : Heap} {f : Addr} {fd : FuncData} (F : FunD K "_law_target_drawn" "_law_target_drawn" (defArgs s__law_target_drawn) (defBody s__law_target_drawn) (defScope s__law_target_drawn) [] [] f fd) (T : Txt mg) (h__law_draw : DFn P w K mg base false 1 "_law_draw" 2 [] (fun rs _ => rs) sp__law_draw) :
    FnG P w K mg base (L2.CX P w) false 2 f fd ["_law_pen", "_law_known"] (lift K sp__law_target_drawn) := by
  refine okD (k := 1) F sc__law_target_drawn len__law_target_drawn fun cdv A outer s H E F0 as rs ow QD QX hr hgd tk h => ⟨r__law_target_drawn, ?_, pl__law_target_drawn h⟩
  have m : Cm (dxOf P w K mg base N__law_target_drawn "_law_target_drawn" (defScope s__law_target_drawn) f cdv A outer s H E F0 as).toCx := ⟨rfl, by have := hr.un; show (A.deeper _).units + 150 < cLine; omega⟩
  have sc := sc__law_target_drawn
  exact (db_cons (ds_set (i := 2) sc.nd rfl (Or.inr rfl) (de_slice (dn 1) (do_some (de_neg (de_ix (de_lst (da_cons de_int (da_cons de_int (da_cons de_int (da_cons de_int da_nil))))) (de_call h__law_draw (hr.mono (by decide)) (fun z => nomatch z) tk_none rfl (da_cons (dn 0) (da_cons de_int da_nil)))))) do_none))
    (db_cut (ds_set (i := 3) sc.nd rfl (Or.inl rfl) (de_ite (dt_ne m (dn 1) (de_lst da_nil)) (de_ix (de_lst (da_cons de_int (da_cons de_int (da_cons de_int (da_cons de_int (da_cons (de_call h__law_draw (hr.mono (by decide)) (fun z => nomatch z) tk_none rfl (da_cons (dn 0) (da_cons de_int da_nil))) da_nil)))))) (de_call h__law_draw (hr.mono (by decide)) (fun z => nomatch z) tk_none rfl (da_cons (dn 0) (da_cons de_int da_nil)))) de_int))
    (db_one (ds_ret (de_tupF rfl T.b_tuple (da_cons (de_lc (own := [("_law_k", 4)]) m sc.nd (blkOk_by (N := N__law_target_drawn) (sc := defScope s__law_target_drawn) (by decide +kernel)) (by decide) (di_rng1 rfl T.b_range (da_cons (dn 3) da_nil)) (fun _ _ _ _ _ => pg_name (i := 4) sc.nd rfl (Or.inl rfl) (Or.inr rfl)) DTs.nil (fun _ _ _ _ _ => (de_ix (dn 2) (de_call h__law_draw (hr.mono (by decide)) (fun z => nomatch z) tk_none rfl (da_cons (dn 0) (da_cons (de_len rfl T.b_len (da_cons (dn 2) da_nil)) da_nil)))))) da_nil))))))

/-! ### steps -/
structure Step where
  op : Str
  args : List Str
  res : Str
def dStep (s : Step) : PyData := .tuple [.str s.op, .tuple (s.args.map PyData.str), .str s.res]
def words6 : List Str := ["add", "neg", "mul", "f", "zzzzzzzz", "call"]
def results12 : List Str := ["p", "q", "r", "s", "t", "u", "pp", "ab", "zz", "v", "w", "zzzzzzzz"]
/-- known ahead of step j -/
def Known (j : Nat) (x : Str) : Prop := x ∈ names6 ∨ ∃ i, i < j ∧ results12[i]? = some x
theorem Known.mono {i j : Nat} {x : Str} (h : Known i x) (k : i ≤ j) : Known j x := h.imp id fun ⟨a, h1, h2⟩ => ⟨a, by omega, h2⟩
/-- the steps stand in their order -/
def Steps (ss : List Step) : Prop := ∀ j s, ss[j]? = some s → s.op ∈ words6 ∧ results12[j]? = some s.res ∧ s.args.length ≤ 3 ∧ ∀ a ∈ s.args, Known j a
abbrev s__law_steps_drawn : Stmt := top 5
def N__law_steps_drawn : List Str := ["_law_pen", "_law_start", "_law_many", "_law_words", "_law_results", "_law_known", "_law_found", "_law_k", "_law_some", "_law_count", "_law_arguments", "_law_j"]
def r__law_steps_drawn : TM :=
  (dSeq (dSet 3 (dLst (dCons (dK (.str "add")) (dCons (dK (.str "neg")) (dCons (dK (.str "mul")) (dCons (dK (.str "f")) (dCons (dK (.str "zzzzzzzz")) (dCons (dK (.str "call")) dNil))))))))
    (dSeq (dSet 4 (dLst (dCons (dK (.str "p")) (dCons (dK (.str "q")) (dCons (dK (.str "r")) (dCons (dK (.str "s")) (dCons (dK (.str "t")) (dCons (dK (.str "u")) (dCons (dK (.str "pp")) (dCons (dK (.str "ab")) (dCons (dK (.str "zz")) (dCons (dK (.str "v")) (dCons (dK (.str "w")) (dCons (dK (.str "zzzzzzzz")) dNil))))))))))))))
    (dSeq (dSet 5 (dSortSet (dVar 1)))
    (dSeq (dSet 6 (dLstO dNil))
    (dSeq (dFor (diRng1 (dCons (dVar 2) dNil)) (dgName 7)
      (dSeq (dSet 8 (dSl (dVar 5) (dOS (dNeg (dOp rIxR (dLst (dCons (dK (.int 1)) (dCons (dK (.int 2)) (dCons (dK (.int 3)) (dCons (dK (.int 30)) dNil))))) (dCall 2 (fun rs _ => rs) sp__law_draw noX (dCons (dVar 0) (dCons (dK (.int 4)) dNil)))))) dON))
      (dCut (dSet 9 (dIte (dB (dOp (rEqR true) (dVar 5) (dLst dNil))) (dCall 2 (fun rs _ => rs) sp__law_draw noX (dCons (dVar 0) (dCons (dK (.int 4)) dNil))) (dK (.int 0))))
      (dCut (dSet 10 (dCB rTupF (dCons (dLc (diRng1 (dCons (dVar 9) dNil)) 11 dYes (dOp rIxR (dVar 8) (dCall 2 (fun rs _ => rs) sp__law_draw noX (dCons (dVar 0) (dCons (dCB rLen (dCons (dVar 8) dNil)) dNil)))) [11]) dNil)))
      (dSeq (dDrop (dMeth isL rAppD (dVar 6) (dCons (dTup (dCons (dOp rIxR (dVar 3) (dCall 2 (fun rs _ => rs) sp__law_draw noX (dCons (dVar 0) (dCons (dK (.int 6)) dNil)))) (dCons (dVar 10) (dCons (dOp rIxR (dVar 4) (dVar 7)) dNil)))) dNil)))
      (dSet 5 (dOp rAdd (dVar 5) (dLst (dCons (dOp rIxR (dVar 4) (dVar 7)) dNil)))))))))
    (dRet (dTup (dCons (dCB rTupF (dCons (dVar 6) dNil)) (dCons (dVar 5) dNil)))))))))

def sp__law_steps_drawn : DSp := fun rs ow Q _ => ∃ n b, ∃ st : List Str, ∃ many : Nat, rs = [.o n, .d (.tuple (st.map PyData.str)), .d (.int (many : Int))] ∧ PenA ow n b ∧ b + 200 ≤ 1000000 ∧ st.length ≤ 12 ∧ (∀ x ∈ st, x ∈ names6) ∧ many ≤ 12 ∧
  ∀ (ss : List Step) (kn : List Str) ow', ss.length = many → Steps ss → kn.length ≤ 24 → (∀ x ∈ kn, Known many x) → Dr ow ow' n (b + 200) → Q (.d (.tuple [.tuple (ss.map dStep), .list (kn.map PyData.str)])) ow'
theorem len__law_steps_drawn : ∀ rs ow Q E, sp__law_steps_drawn rs ow Q E → rs.length = 3 := fun rs ow Q E ⟨_, _, _, _, h, _⟩ => by rw [h]; rfl
theorem ok6 : ∀ x ∈ names6, PyData.strOk x = true := by decide +kernel
theorem ok12 : ∀ x ∈ results12, PyData.strOk x = true := by decide +kernel
theorem okw6 : ∀ x ∈ words6, PyData.strOk x = true := by decide +kernel
theorem Known.ok {j : Nat} {x : Str} (h : Known j x) : PyData.strOk x = true := by
  rcases h with h | ⟨i, _, h⟩
  · exact ok6 x h
  · exact ok12 x (List.mem_of_getElem? h)
theorem pl__law_steps_drawn {rs ow QD QX} (h : sp__law_steps_drawn rs ow QD QX) : r__law_steps_drawn { nx := fun _ ow' => QD (.d .none) ow', rt := QD } (startR N__law_steps_drawn rs) ow := by
  obtain ⟨n, b, st, many, rfl, hp, hb, hst, hst6, hm, k⟩ := h
  refine ⟨szr rfl, szr rfl, ?_⟩
  refine ⟨st, by rw [map_str]; rfl, by have : st.length + 1 < scanBound := Nat.lt_of_le_of_lt (Nat.succ_le_succ hst) (by decide); exact this, ?_⟩
  have hn := hp.lt
  generalize hfo : ow.length = fo at hn
  have hfn : fo ≠ n := by omega
  generalize hks : TX.sortU st = ks
  have ks1 : ks.length ≤ 12 := by rw [← hks]; exact Nat.le_trans (TX.sortU_le st) hst
  have ks2 : ∀ x ∈ ks, Known 0 x := fun x hx => .inl (hst6 x (TX.mem_sortU.mp (by rw [hks]; exact hx)))
  have l0 : lstAt (ow ++ [OD.lst []]) fo = some [] := by rw [← hfo]; exact lstAt_new
  refine ⟨szr rfl, ?_⟩
  refine ⟨by omega, by omega, ?_⟩
  refine ⟨fun i sl ow' => ∃ (ss : List Step) (kn : List Str) (e7 e8 e9 e10 e11 : Option Rv), sl = [some (.o n), some (.d (.tuple (st.map PyData.str))), some (.d (.int (many : Int))), some (.d (.list (words6.map PyData.str))), some (.d (.list (results12.map PyData.str))),
      some (.d (.list (kn.map PyData.str))), some (.o fo), e7, e8, e9, e10, e11] ∧ ss.length = i ∧ i ≤ many ∧ Steps ss ∧ kn.length ≤ 12 + i ∧ (∀ x ∈ kn, Known i x) ∧ lstAt ow' fo = some ((ss.map dStep).map Rv.d) ∧ Dr ow ow' n (b + 6 * i), ?_, ?_, ?_, ?_⟩
  · refine ⟨[], ks, none, none, none, none, none, ?_, rfl, by omega, fun j s h => by simp at h, by omega, ks2, l0, Kp.app, hp.app.le (by omega)⟩
    rw [← hks, ← hfo]
    rfl
  · exact fun i sl ow' _ => trivial
  · rintro i r sl ow' hi ⟨ss, kn, e7, e8, e9, e10, e11, rfl, hl, him, hS, hkl, hkn, hfd, hd⟩
    obtain ⟨hi1, rfl⟩ := rangeR_get hi
    rw [Int.toNat_natCast] at hi1
    refine ⟨szr rfl, ?_⟩
    refine ⟨rfl, n, b + 6 * i, 4, rfl, hd.2, by omega, by decide, by decide, fun r ow1 r0 r1 d1 => ?_⟩
    refine ix_l r0 r1 fun d hdv => ?_
    have hd2 : ∃ v : Int, d = .int v ∧ 0 < v := by
      have := List.mem_of_getElem? hdv
      simp only [List.mem_cons, List.not_mem_nil, or_false] at this
      rcases this with rfl | rfl | rfl | rfl
      · exact ⟨1, rfl, by decide⟩
      · exact ⟨2, rfl, by decide⟩
      · exact ⟨3, rfl, by decide⟩
      · exact ⟨30, rfl, by decide⟩
    obtain ⟨v, rfl, hv⟩ := hd2
    generalize hsm : kn.drop (kn.length - v.toNat) = sm
    refine sl_l (es := sm.map PyData.str) (by rw [cut_map, cut_last _ hv, hsm]) ?_
    have sm1 : ∀ x ∈ sm, x ∈ kn := fun x hx => by rw [← hsm] at hx; exact List.mem_of_mem_drop hx
    have sm2 : sm.length ≤ 100 := by rw [← hsm, List.length_drop]; omega
    have sm3 : 0 < kn.length → 0 < sm.length := fun h => by rw [← hsm, List.length_drop]; omega
    refine ⟨fun sl' ow' => ∃ m : Nat, m ≤ 3 ∧ (0 < m → 0 < kn.length) ∧ sl' = [some (.o n), some (.d (.tuple (st.map PyData.str))), some (.d (.int (many : Int))), some (.d (.list (words6.map PyData.str))), some (.d (.list (results12.map PyData.str))),
      some (.d (.list (kn.map PyData.str))), some (.o fo), some (.d (.int (0 + (i : Int)))), some (.d (.list (sm.map PyData.str))), some (.d (.int (m : Int))), e10, e11] ∧ Dr ow ow' n (b + 6 * i + 2) ∧ lstAt ow' fo = some ((ss.map dStep).map Rv.d), ?_, ?_⟩
    · refine ⟨szr rfl, ⟨shaped_strs fun x hx => (hkn x hx).ok, rfl⟩, ?_⟩
      refine iteB (fun hne => ?_) (fun hne => ?_)
      · have hl : 0 < kn.length := by
          have hne : (!PyData.eqv (.list (kn.map PyData.str)) (.list [])) = true := hne
          rw [eq_nil] at hne
          cases kn with
          | nil => simp at hne
          | cons c r => simp
        refine ⟨rfl, n, b + 6 * i + 1, 4, rfl, d1.2, by omega, by decide, by decide, fun r2 ow2 r20 r21 d2 => ?_⟩
        refine ⟨r2.toNat, by omega, fun _ => hl, ?_, ((hd.trans d1).trans d2).le (by omega), (d1.trans d2).1.lst hfn hfd⟩
        rw [Int.toNat_of_nonneg r20]
        rfl
      · exact ⟨0, by omega, fun h => absurd h (by omega), rfl, (hd.trans d1).le (by omega), d1.1.lst hfn hfd⟩
    · rintro sl' ow0 ⟨m, hm3, hm0, rfl, d0, hf0⟩
      refine ⟨fun sl' ow' => ∃ xs : List Str, xs.length ≤ 3 ∧ (∀ x ∈ xs, x ∈ kn) ∧ sl' = [some (.o n), some (.d (.tuple (st.map PyData.str))), some (.d (.int (many : Int))), some (.d (.list (words6.map PyData.str))), some (.d (.list (results12.map PyData.str))),
        some (.d (.list (kn.map PyData.str))), some (.o fo), some (.d (.int (0 + (i : Int)))), some (.d (.list (sm.map PyData.str))), some (.d (.int (m : Int))), some (.d (.tuple (xs.map PyData.str))), e11] ∧ Dr ow ow' n (b + 6 * i + 5) ∧ lstAt ow' fo = some ((ss.map dStep).map Rv.d), ?_, ?_⟩
      · refine ⟨by omega, by omega, ?_⟩
        refine ⟨fun j acc ow' => ∃ xs : List Str, acc = xs.map PyData.str ∧ xs.length = j ∧ j ≤ m ∧ (∀ x ∈ xs, x ∈ kn) ∧ Dr ow ow' n (b + 6 * i + 2 + j) ∧ lstAt ow' fo = some ((ss.map dStep).map Rv.d), ?_, ?_, ?_, ?_⟩
        · exact ⟨[], rfl, rfl, by omega, fun x hx => by simp at hx, d0.le (by omega), hf0⟩
        · rintro j acc ow' ⟨xs, rfl, h1, h2, _, _⟩
          exact ⟨trivial, by rw [List.length_map, h1]; exact Nat.lt_of_le_of_lt h2 (Nat.lt_of_le_of_lt hm3 (by decide))⟩
        · rintro j r acc ow' hj ⟨xs, rfl, h1, h2, h3, h4, h5⟩
          obtain ⟨hj1, rfl⟩ := rangeR_get hj
          have hs := sm3 (hm0 (by omega))
          refine ⟨_, rfl, rfl, n, b + 6 * i + 2 + j, (sm.length : Int), by rw [List.length_map, List.length_map], h4.2, by omega, by omega, by omega, fun r4 ow4 r40 r41 d4 => ?_⟩
          refine ix_l r40 (by rw [List.length_map]; exact r41) fun d hd => ?_
          rw [List.getElem?_map] at hd
          obtain ⟨y, hy, rfl⟩ := Option.map_eq_some_iff.mp hd
          refine ⟨xs ++ [y], by rw [List.map_append]; rfl, by rw [List.length_append, h1]; rfl, by omega, fun x hx => ?_, (h4.trans d4).le (by omega), d4.1.lst hfn h5⟩
          rcases List.mem_append.mp hx with hx | hx
          · exact h3 x hx
          · rw [List.mem_singleton.mp hx]
            exact sm1 y (List.mem_of_getElem? hy)
        · rintro acc ow' ⟨xs, rfl, h1, h2, h3, h4, h5⟩
          rw [rangeR_len] at h1
          refine ⟨_, _, rfl, allD_map _, ?_⟩
          exact ⟨xs, by omega, h3, rfl, h4.le (by rw [rangeR_len]; omega), h5⟩
      · rintro sl' ow2 ⟨xs, hx3, hxk, rfl, d2, hf2⟩
        refine ⟨⟨_, hf2⟩, ?_⟩
        refine ⟨rfl, n, b + 6 * i + 5, 6, rfl, d2.2, by omega, by decide, by decide, fun r3 ow3 r30 r31 d3 => ?_⟩
        refine ix_l r30 r31 fun d hdd => ?_
        rw [List.getElem?_map] at hdd
        obtain ⟨w, hw, rfl⟩ := Option.map_eq_some_iff.mp hdd
        have hr : ∃ y, results12[i]? = some y := ⟨_, List.getElem?_eq_getElem (show i < results12.length by show i < 12; omega)⟩
        obtain ⟨y, hy⟩ := hr
        have hir : (0 + (i : Int)) < ((results12.map PyData.str).length : Int) := by
          show (0 + (i : Int)) < 12
          omega
        have hiy : (results12.map PyData.str)[(0 + (i : Int)).toNat]? = some (.str y) := by
          rw [show (0 + (i : Int)).toNat = i by omega, List.getElem?_map, hy]
          rfl
        refine ix_l (by omega) hir fun d hdd => ?_
        rw [hiy] at hdd
        cases hdd
        have hf3 := d3.1.lst hfn hf2
        refine ⟨szr rfl, ?_⟩
        refine ⟨_, hf3, by rw [List.length_map, List.length_map, hl]; exact Nat.lt_of_le_of_lt him (Nat.lt_of_le_of_lt hm (by decide)), ?_⟩
        refine ix_l (by omega) hir fun d hdd => ?_
        rw [hiy] at hdd
        cases hdd
        refine ⟨szr rfl, ?_⟩
        refine ⟨by rw [List.length_map]; exact Nat.le_trans (Nat.add_le_add_right hkl 1) (Nat.le_trans (show 12 + i + 1 ≤ 30 by omega) (by decide)), ?_⟩
        have lt3 : fo < ow3.length := lstAt_lt hf3
        refine ⟨ss ++ [⟨w, xs, y⟩], kn ++ [y], some (.d (.int (0 + (i : Int)))), some (.d (.list (sm.map PyData.str))), some (.d (.int (m : Int))), some (.d (.tuple (xs.map PyData.str))), e11, by rw [List.map_append]; rfl, by rw [List.length_append, hl]; rfl, by omega, fun j s hj => ?_, by rw [List.length_append]; exact Nat.add_le_add_right hkl 1, fun x hx => ?_, ?_, ?_⟩
        · by_cases hji : j < ss.length
          · rw [List.getElem?_append_left hji] at hj
            exact hS j s hj
          · have hlt := (List.getElem?_eq_some_iff.mp hj).1
            rw [List.length_append] at hlt
            have e : j = ss.length := by
              have : ([⟨w, xs, y⟩] : List Step).length = 1 := rfl
              omega
            subst e
            rw [List.getElem?_append_right (Nat.le_refl _), Nat.sub_self] at hj
            cases hj
            refine ⟨List.mem_of_getElem? hw, by rw [hl]; exact hy, hx3, fun a ha => by rw [hl]; exact hkn a (hxk a ha)⟩
        · rcases List.mem_append.mp hx with hx | hx
          · exact (hkn x hx).mono (by omega)
          · rw [List.mem_singleton.mp hx]
            exact .inr ⟨i, by omega, hy⟩
        · rw [lstAt_set lt3, List.map_append, List.map_append]
          rfl
        · refine ⟨(d2.1.trans d3.1).set2 (by omega), ?_⟩
          exact (d3.2.set hfn).le (by omega)
  · rintro sl ow' ⟨ss, kn, e7, e8, e9, e10, e11, rfl, hl, him, hS, hkl, hkn, hfd, hd⟩
    rw [rangeR_len] at hl hkl hkn
    rw [Int.toNat_natCast] at hl hkl hkn
    refine ⟨_, _, hfd, allD_map _, ?_⟩
    refine ⟨szr rfl, ?_⟩
    refine k ss kn ow' hl hS (by omega) hkn (hd.le ?_)
    rw [rangeR_len, Int.toNat_natCast]
    omega
theorem sc__law_steps_drawn : FnScope N__law_steps_drawn ["_law_pen", "_law_start", "_law_many"] (defScope s__law_steps_drawn) := ⟨rfl, rfl, rfl, by decide +kernel, rfl, by decide +kernel, by decide +kernel⟩
theorem ok__law_steps_drawn {P : Program} {w : World} {K : FG} {mg : Str → Option Value} {base : Heap} {f : Addr} {fd : FuncData} (F : FunD K "_law_steps_drawn" "_law_steps_drawn" (defArgs s__law_steps_drawn) (defBody s__law_steps_drawn) (defScope s__law_steps_drawn) [] [] f fd) (T : Txt mg) (h__law_draw : DFn P w K mg base false 1 "_law_draw" 2 [] (fun rs _ => rs) sp__law_draw) :
    FnG P w K mg base (L2.CX P w) false 2 f fd ["_law_pen", "_law_start", "_law_many"] (lift K sp__law_steps_drawn) := by
  refine okD (k := 1) F sc__law_steps_drawn len__law_steps_drawn fun cdv A outer s H E F0 as rs ow QD QX hr hgd tk h => ⟨r__law_steps_drawn, ?_, pl__law_steps_drawn h⟩
  have m : Cm (dxOf P w K mg base N__law_steps_drawn "_law_steps_drawn" (defScope s__law_steps_drawn) f cdv A outer s H E F0 as).toCx := ⟨rfl, by have := hr.un; show (A.deeper _).units + 150 < cLine; omega⟩
  have sc := sc__law_steps_drawn
  exact (db_cons (ds_set (i := 3) sc.nd rfl (Or.inl rfl) (de_lst (da_cons de_str (da_cons de_str (da_cons de_str (da_cons de_str (da_cons de_str (da_cons de_str da_nil))))))))
    (db_cons (ds_set (i := 4) sc.nd rfl (Or.inl rfl) (de_lst (da_cons de_str (da_cons de_str (da_cons de_str (da_cons de_str (da_cons de_str (da_cons de_str (da_cons de_str (da_cons de_str (da_cons de_str (da_cons de_str (da_cons de_str (da_cons de_str da_nil))))))))))))))
    (db_cons (ds_set (i := 5) sc.nd rfl (Or.inl rfl) (de_sortSet m rfl T.b_sorted rfl T.b_set (dn 1)))
    (db_cons (ds_set (i := 6) sc.nd rfl (Or.inl rfl) (de_lstO da_nil))
    (db_cons (ds_for (passes_of rfl) rfl (di_rng1 rfl T.b_range (da_cons (dn 2) da_nil)) (dg_name (i := 7) sc.nd rfl (Or.inl rfl))
      (db_cons (ds_set (i := 8) sc.nd rfl (Or.inr rfl) (de_slice (dn 5) (do_some (de_neg (de_ix (de_lst (da_cons de_int (da_cons de_int (da_cons de_int (da_cons de_int da_nil))))) (de_call h__law_draw (hr.mono (by decide)) (fun z => nomatch z) tk_none rfl (da_cons (dn 0) (da_cons de_int da_nil)))))) do_none))
      (db_cut (ds_set (i := 9) sc.nd rfl (Or.inl rfl) (de_ite (dt_ne m (dn 5) (de_lst da_nil)) (de_call h__law_draw (hr.mono (by decide)) (fun z => nomatch z) tk_none rfl (da_cons (dn 0) (da_cons de_int da_nil))) de_int))
      (db_cut (ds_set (i := 10) sc.nd rfl (Or.inl rfl) (de_tupF rfl T.b_tuple (da_cons (de_lc (own := [("_law_j", 11)]) m sc.nd (blkOk_by (N := N__law_steps_drawn) (sc := defScope s__law_steps_drawn) (by decide +kernel)) (by decide) (di_rng1 rfl T.b_range (da_cons (dn 9) da_nil)) (fun _ _ _ _ _ => pg_name (i := 11) sc.nd rfl (Or.inl rfl) (Or.inr rfl)) DTs.nil (fun _ _ _ _ _ => (de_ix (dn 8) (de_call h__law_draw (hr.mono (by decide)) (fun z => nomatch z) tk_none rfl (da_cons (dn 0) (da_cons (de_len rfl T.b_len (da_cons (dn 8) da_nil)) da_nil)))))) da_nil)))
      (db_cons (ds_expr (de_app (dn 6) (da_cons (de_tup (da_cons (de_ix (dn 3) (de_call h__law_draw (hr.mono (by decide)) (fun z => nomatch z) tk_none rfl (da_cons (dn 0) (da_cons de_int da_nil)))) (da_cons (dn 10) (da_cons (de_ix (dn 4) (dn 7)) da_nil)))) da_nil)))
      (db_one (ds_set (i := 5) sc.nd rfl (Or.inl rfl) (de_add (dn 5) (de_lst (da_cons (de_ix (dn 4) (dn 7)) da_nil))))))))))
    (db_one (ds_ret (de_tup (da_cons (de_tupF rfl T.b_tuple (da_cons (dn 6) da_nil)) (da_cons (dn 5) da_nil))))))))))

/-! ### live values -/
theorem live_eq : True := trivial
abbrev s__law_live_due : Stmt := top 8
def N__law_live_due : List Str := ["_law_deeds", "_law_goal", "_law_found", "_law_k", "_law_some", "_law_step", "_law_gone", "_law_one"]
def r__law_live_due : TM :=
  (dSeq (dSet 2 (dLstO dNil))
    (dSeq (dFor (diRng1 (dCons (dCB rLen (dCons (dVar 0) dNil)) dNil)) (dgName 3)
      (dCut (dSet 4 (dCB rLstO (dCons (dVar 1) dNil)))
      (dCut (dFor (diAny (dSl (dVar 0) (dOS (dOp rAdd (dVar 3) (dK (.int 1)))) dON)) (dgName 5)
        (dDrop (dMeth isL rExtD (dVar 4) (dCons (dCB rLstF (dCons (dOp rIxR (dVar 5) (dK (.int 1))) dNil)) dNil))))
      (dCut (dSet 6 (dLcP (diAny (dSl (dVar 0) (dOS (dVar 3)) dON)) 5 dYes (dOp rIxR (dVar 5) (dK (.int 2))) [5]))
      (dDrop (dMeth isL rAppD (dVar 2) (dCons (dCB rTupF (dCons (dLcP (diAny (dSortSet (dVar 4))) 7 (dB (dOp (rInR true) (dVar 7) (dVar 6))) (dVar 7) [7]) dNil)) dNil)))))))
    (dRetF (dVar 2))))

/-- the live values by the law -/
def lvAt (ss : List Step) (tg : List Str) (k : Nat) : List Str := (TX.sortU (tg ++ ((ss.drop (k + 1)).map (·.args)).flatten)).filter fun x => !decide (x ∈ (ss.drop k).map (·.res))
def lv (ss : List Step) (tg : List Str) : List (List Str) := (List.range ss.length).map (lvAt ss tg)
def dLv (l : List (List Str)) : List PyData := l.map fun xs => .tuple (xs.map PyData.str)
def sp__law_live_due : DSp := fun rs ow Q _ => ∃ (ss : List Step) (tg : List Str), rs = [.d (.tuple (ss.map dStep)), .d (.tuple (tg.map PyData.str))] ∧ ss.length ≤ 60 ∧ tg.length ≤ 20 ∧ (∀ s ∈ ss, s.args.length ≤ 3) ∧
  ∀ ow', ow.length ≤ ow'.length → (∀ i, i < ow.length → ow'[i]? = ow[i]?) → Q (.d (.list (dLv (lv ss tg)))) ow'
theorem len__law_live_due : ∀ rs ow Q E, sp__law_live_due rs ow Q E → rs.length = 2 := fun rs ow Q E ⟨_, _, h, _⟩ => by rw [h]; rfl
theorem pl__law_live_due {rs ow QD QX} (h : sp__law_live_due rs ow QD QX) : r__law_live_due { nx := fun _ ow' => QD (.d .none) ow', rt := QD } (startR N__law_live_due rs) ow := by
  obtain ⟨ss, tg, rfl, hl, ht, ha, k⟩ := h
  generalize hfo : ow.length = fo
  refine ⟨szr rfl, ?_⟩
  refine ⟨_, rfl, by omega, by rw [List.length_map, List.length_map]; omega, ?_⟩
  refine ⟨fun i sl ow' => ∃ (e3 e4 e5 e6 e7 : Option Rv), sl = [some (.d (.tuple (ss.map dStep))), some (.d (.tuple (tg.map PyData.str))), some (.o fo), e3, e4, e5, e6, e7] ∧ i ≤ ss.length ∧ lstAt ow' fo = some (((dLv ((lv ss tg).take i))).map Rv.d) ∧ fo < ow'.length ∧ ∀ j, j < fo → ow'[j]? = ow[j]?, ?_, ?_, ?_, ?_⟩
  · refine ⟨none, none, none, none, none, ?_, Nat.zero_le _, by rw [← hfo]; exact lstAt_new, by rw [List.length_append, hfo]; exact Nat.lt_succ_self _, fun j hj => List.getElem?_append_left (by omega)⟩
    rw [← hfo]
    rfl
  · exact fun i sl ow' _ => trivial
  · rintro i r sl ow' hi ⟨e3, e4, e5, e6, e7, rfl, hi1, hf, hlt, hkp⟩
    obtain ⟨hi2, rfl⟩ := rangeR_get hi
    rw [List.length_map, List.length_map, Int.toNat_natCast] at hi2
    generalize hso : ow'.length = so
    have hsf : so ≠ fo := by omega
    -- some = list(goal)
    refine ⟨fun sl ow1 => sl = [some (.d (.tuple (ss.map dStep))), some (.d (.tuple (tg.map PyData.str))), some (.o fo), some (.d (.int (0 + (i : Int)))), some (.o so), e5, e6, e7] ∧ lstAt ow1 so = some ((tg.map PyData.str).map Rv.d) ∧ lstAt ow1 fo = some (((dLv ((lv ss tg).take i))).map Rv.d) ∧ ∀ j, j < fo → ow1[j]? = ow[j]?, ?_, ?_⟩
    · refine ⟨_, rfl, ?_⟩
      refine ⟨by rw [← hso]; rfl, by rw [← hso]; exact lstAt_new, by rw [lstAt_app hlt]; exact hf, fun j hj => by rw [List.getElem?_append_left (by omega)]; exact hkp j hj⟩
    rintro sl ow1 ⟨rfl, hs1, hf1, hk1⟩
    -- the arguments of later steps
    generalize hlater : ss.drop (i + 1) = later
    have hlt1 : later.length ≤ 60 := by rw [← hlater, List.length_drop]; omega
    have hargs : ∀ j : Nat, ((later.take j).map (·.args)).flatten.length ≤ 3 * j := fun j => by
      have : ∀ (l : List Step) (j : Nat), (∀ s ∈ l, s.args.length ≤ 3) → ((l.take j).map (·.args)).flatten.length ≤ 3 * j := by
        intro l
        induction l with
        | nil => intro j _; simp
        | cons s r ih =>
          intro j h
          cases j with
          | zero => simp
          | succ j =>
            have h1 := h s List.mem_cons_self
            have h2 := ih j fun x hx => h x (List.mem_cons_of_mem _ hx)
            rw [List.take_succ_cons, List.map_cons, List.flatten_cons, List.length_append]
            omega
      exact this later j fun s hs => ha s (by rw [← hlater] at hs; exact List.mem_of_mem_drop hs)
    refine ⟨fun sl ow2 => ∃ e5, sl = [some (.d (.tuple (ss.map dStep))), some (.d (.tuple (tg.map PyData.str))), some (.o fo), some (.d (.int (0 + (i : Int)))), some (.o so), e5, e6, e7] ∧ lstAt ow2 so = some (((tg ++ (later.map (·.args)).flatten).map PyData.str).map Rv.d) ∧ lstAt ow2 fo = some (((dLv ((lv ss tg).take i))).map Rv.d) ∧ ∀ j, j < fo → ow2[j]? = ow[j]?, ?_, ?_⟩
    · refine sl_t (es := later.map dStep) (by rw [cut_map, cut_from _ (by omega), show (0 + (i : Int) + 1).toNat = i + 1 by omega, hlater]) ?_
      refine ⟨fun j sl ow2 => ∃ e5, sl = [some (.d (.tuple (ss.map dStep))), some (.d (.tuple (tg.map PyData.str))), some (.o fo), some (.d (.int (0 + (i : Int)))), some (.o so), e5, e6, e7] ∧ lstAt ow2 so = some (((tg ++ ((later.take j).map (·.args)).flatten).map PyData.str).map Rv.d) ∧ lstAt ow2 fo = some (((dLv ((lv ss tg).take i))).map Rv.d) ∧ ∀ j, j < fo → ow2[j]? = ow[j]?, ?_, ?_, ?_, ?_⟩
      · exact ⟨e5, rfl, by rw [List.take_zero, List.map_nil, List.flatten_nil, List.append_nil]; exact hs1, hf1, hk1⟩
      · exact fun j sl ow2 _ => trivial
      · rintro j r sl ow2 hj ⟨e5, rfl, hs2, hf2, hk2⟩
        rw [List.getElem?_map, List.getElem?_map] at hj
        obtain ⟨d, hd, rfl⟩ := Option.map_eq_some_iff.mp hj
        obtain ⟨s, hs, rfl⟩ := Option.map_eq_some_iff.mp hd
        refine ⟨⟨_, hs2⟩, ?_⟩
        refine ⟨_, _, rfl, rfl, ?_⟩
        refine ⟨_, _, rfl, allD_map _, ?_⟩
        have hjl : j < later.length := (List.getElem?_eq_some_iff.mp hs).1
        have hsa := ha s (by have := List.mem_of_getElem? hs; rw [← hlater] at this; exact List.mem_of_mem_drop this)
        refine ⟨_, _, hs2, rfl, ?_, ?_⟩
        · rw [List.length_map, List.length_map, List.length_append, List.length_map, List.length_map]
          have := hargs j
          exact Nat.le_trans (show tg.length + ((later.take j).map (·.args)).flatten.length + s.args.length ≤ 1000 by omega) (by decide)
        · have lts := lstAt_lt hs2
          refine ⟨_, rfl, ?_, by rw [lstAt_ne hsf]; exact hf2, fun j hj => by rw [List.getElem?_set_ne (by omega)]; exact hk2 j hj⟩
          rw [lstAt_set lts, List.take_add_one, hs]
          simp only [Option.toList_some, List.map_append, List.flatten_append, List.map_cons, List.map_nil, List.flatten_cons, List.flatten_nil, List.append_nil, List.append_assoc]
      · rintro sl ow2 ⟨e5, rfl, hs2, hf2, hk2⟩
        rw [List.length_map, List.length_map, List.take_length] at hs2
        exact ⟨e5, rfl, hs2, hf2, hk2⟩
    rintro sl ow2 ⟨e5, rfl, hs2, hf2, hk2⟩
    have hall := hargs later.length
    rw [List.take_length] at hall
    -- the results
    generalize hgone : (ss.drop i).map (·.res) = gone
    refine ⟨fun sl ow3 => ow3 = ow2 ∧ ∃ e5, sl = [some (.d (.tuple (ss.map dStep))), some (.d (.tuple (tg.map PyData.str))), some (.o fo), some (.d (.int (0 + (i : Int)))), some (.o so), e5, some (.d (.list (gone.map PyData.str))), e7], ?_, ?_⟩
    · refine lc_pureP (((ss.drop i).map dStep).map Rv.d) iaTru (ss.drop i) (fun s => .d (dStep s)) (fun _ => true) (fun s => .str s.res) (fun R hR => ?_) ?_ ?_ ?_ ?_ ?_ ?_
      · exact sl_t (es := (ss.drop i).map dStep) (by rw [cut_map, cut_from _ (by omega), show (0 + (i : Int)).toNat = i by omega]) hR
      · rw [List.map_map]; rfl
      · exact trivial
      · exact Nat.lt_of_le_of_lt (show (ss.drop i).length ≤ 60 by rw [List.length_drop]; omega) (by decide)
      · exact fun s _ K h => h
      · exact fun s _ _ K h => ⟨_, _, rfl, rfl, h⟩
      refine ⟨rfl, e5, ?_⟩
      rw [List.filter_eq_self.mpr fun _ _ => rfl, ← hgone, List.map_map]
      rfl
    rintro sl ow3 ⟨rfl, e5, rfl⟩
    refine ⟨⟨_, hf2⟩, ?_⟩
    refine lc_pureP (((TX.sortU (tg ++ (later.map (·.args)).flatten)).map PyData.str).map Rv.d) iaTru (TX.sortU (tg ++ (later.map (·.args)).flatten)) (fun x => .d (.str x)) (fun x => !decide (x ∈ gone)) (fun x => .str x) (fun R hR => ?_) ?_ ?_ ?_ ?_ ?_ ?_
    · exact ⟨_, by rw [map_str]; exact hs2, Nat.lt_of_le_of_lt (show (tg ++ (later.map (·.args)).flatten).length + 1 ≤ 1000 by rw [List.length_append]; omega) (by decide), hR⟩
    · rw [List.map_map]; rfl
    · exact trivial
    · exact Nat.lt_of_le_of_lt (TX.sortU_le _) (Nat.lt_of_le_of_lt (show (tg ++ (later.map (·.args)).flatten).length ≤ 1000 by rw [List.length_append]; omega) (by decide))
    · intro x _ K h
      refine in_strs (y := .d (.list (gone.map PyData.str))) (xs := gone) (fun z e => ?_) rfl ?_
      · cases e
      · exact h
    · exact fun x _ _ K h => h
    refine ⟨_, _, rfl, allD_map _, ?_⟩
    have lls : (lv ss tg).length = ss.length := by unfold lv; rw [List.length_map, List.length_range]
    refine ⟨_, hf2, ?_, ?_⟩
    · unfold dLv
      rw [List.length_map, List.length_map, List.length_take, lls]
      exact Nat.lt_of_le_of_lt (show min i ss.length ≤ 60 by omega) (by decide)
    · have ltf := lstAt_lt hf2
      refine ⟨_, _, _, _, _, rfl, hi2, ?_, by rw [List.length_set]; exact ltf, fun j hj => by rw [List.getElem?_set_ne (by omega)]; exact hk2 j hj⟩
      rw [lstAt_set ltf]
      have e : (lv ss tg)[i]? = some (lvAt ss tg i) := by
        unfold lv
        rw [List.getElem?_map, List.getElem?_range hi2]
        rfl
      rw [List.take_add_one, e]
      unfold dLv
      rw [List.map_append, List.map_append]
      congr 1
      unfold lvAt
      rw [hlater, hgone]
      rfl
  · rintro sl ow' ⟨e3, e4, e5, e6, e7, rfl, hi1, hf, hlt, hkp⟩
    rw [rangeR_len] at hf
    have lls : (lv ss tg).length = ss.length := by unfold lv; rw [List.length_map, List.length_range]
    rw [List.length_map, List.length_map, Int.toNat_natCast, ← lls, List.take_length] at hf
    refine ⟨_, _, hf, allD_map _, ?_⟩
    exact k _ (by rw [List.length_set]; omega) fun j hj => by rw [List.getElem?_set_ne (by omega)]; exact hkp j (by omega)
theorem sc__law_live_due : FnScope N__law_live_due ["_law_deeds", "_law_goal"] (defScope s__law_live_due) := ⟨rfl, rfl, rfl, by decide +kernel, rfl, by decide +kernel, by decide +kernel⟩
theorem ok__law_live_due {P : Program} {w : World} {K : FG} {mg : Str → Option Value} {base : Heap} {f : Addr} {fd : FuncData} (F : FunD K "_law_live_due" "_law_live_due" (defArgs s__law_live_due) (defBody s__law_live_due) (defScope s__law_live_due) [] [] f fd) (T : Txt mg)  :
    FnG P w K mg base (L2.CX P w) false 1 f fd ["_law_deeds", "_law_goal"] (lift K sp__law_live_due) := by
  refine okD (k := 0) F sc__law_live_due len__law_live_due fun cdv A outer s H E F0 as rs ow QD QX hr hgd tk h => ⟨r__law_live_due, ?_, pl__law_live_due h⟩
  have m : Cm (dxOf P w K mg base N__law_live_due "_law_live_due" (defScope s__law_live_due) f cdv A outer s H E F0 as).toCx := ⟨rfl, by have := hr.un; show (A.deeper _).units + 150 < cLine; omega⟩
  have sc := sc__law_live_due
  exact (db_cons (ds_set (i := 2) sc.nd rfl (Or.inl rfl) (de_lstO da_nil))
    (db_cons (ds_for (passes_of rfl) rfl (di_rng1 rfl T.b_range (da_cons (de_len rfl T.b_len (da_cons (dn 0) da_nil)) da_nil)) (dg_name (i := 3) sc.nd rfl (Or.inl rfl))
      (db_cut (ds_set (i := 4) sc.nd rfl (Or.inl rfl) (de_lstFO rfl T.b_list (da_cons (dn 1) da_nil)))
      (db_cut (ds_for (passes_of rfl) rfl (di_any (de_slice (dn 0) (do_some (de_add (dn 3) de_int)) do_none)) (dg_name (i := 5) sc.nd rfl (Or.inl rfl))
        (db_one (ds_expr (de_ext (dn 4) (da_cons (de_lstF rfl T.b_list (da_cons (de_ix (dn 5) de_int) da_nil)) da_nil)))))
      (db_cut (ds_set (i := 6) sc.nd rfl (Or.inr rfl) (de_lcP (de_lc (own := [("_law_step", 5)]) m sc.nd (blkOk_by (N := N__law_live_due) (sc := defScope s__law_live_due) (by decide +kernel)) (by decide) (di_any (de_slice (dn 0) (do_some (dn 3)) do_none)) (fun _ _ _ _ _ => pg_name (i := 5) sc.nd rfl (Or.inl rfl) (Or.inr rfl)) DTs.nil (fun _ _ _ _ _ => (de_ix (dn 5) de_int)))))
      (db_one (ds_expr (de_app (dn 2) (da_cons (de_tupF rfl T.b_tuple (da_cons (de_lcP (de_lc (own := [("_law_one", 7)]) m sc.nd (blkOk_by (N := N__law_live_due) (sc := defScope s__law_live_due) (by decide +kernel)) (by decide) (di_any (de_sortSet m rfl T.b_sorted rfl T.b_set (dn 4))) (fun _ _ _ _ _ => pg_name (i := 7) sc.nd rfl (Or.inl rfl) (Or.inr rfl)) (DTs.one fun _ _ _ _ _ => (dt_notIn (dn 7) (dn 6))) (fun _ _ _ _ _ => (dn 7)))) da_nil)) da_nil))))))))
    (db_one (ds_retF (dn 2)))))

/-! ### live_values -/
abbrev s_live_values : Stmt := top 1
def N_live_values : List Str := ["steps", "target", "found", "needed", "value", "operation", "arguments", "result"]
def finLV (own : Bool) (te : TX) : TX := if own = true then dRevO te else dRevY te
def r_live_values (own : Bool) : TM :=
  (dSeq (dSet 2 (dLstO dNil))
    (dCut (dSet 3 (dDc (diAny (dVar 1)) 4 dYes (dVar 4) (dK (.bool true)) [4]))
    (dSeq (dFor (diAny (dRevY (dVar 0))) (dgTup 3 (dgCons (dgName 5) (dgCons (dgName 6) (dgCons (dgName 7) dgNil))))
      (dCut (dLockS (dSet 3 (dDc (diAny (dVar 3)) 4 (dB (dOp (rEqR true) (dVar 4) (dVar 7))) (dVar 4) (dK (.bool true)) [4])))
      (dCut (dDrop (dMeth isL rAppD (dVar 2) (dCons (dCB rTupF (dCons (dCB rSortDct (dCons (dVar 3) dNil)) dNil)) dNil)))
      (dDrop (dMeth isDct rUpdD (dVar 3) (dCons (dDc (diAny (dVar 6)) 4 dYes (dVar 4) (dK (.bool true)) [4]) dNil))))))
    (dRet (finLV own (dVar 2))))))

/-- the keys of the dict at n are the texts ks, each once -/
def DctK (ow : OW) (n : Nat) (ks : List Str) : Prop := ∃ kvs, dctAt ow n = some kvs ∧ kvs.map (·.1) = ks.map Sum.inr ∧ ks.Nodup
/-- live values, from the last step on: rev the steps behind the first, ks what is needed -/
def lvR : List Step → List Str → List (List Str)
  | [], _ => []
  | s :: r, ks => TX.sortU (ks.filter fun x => !decide (x = s.res)) :: lvR r ((ks.filter fun x => !decide (x = s.res)) ++ s.args)
theorem lvR_ext : ∀ (r : List Step) {ks ls : List Str}, (∀ x, x ∈ ks ↔ x ∈ ls) → lvR r ks = lvR r ls
  | [], _, _, _ => rfl
  | s :: r, ks, ls, h => by
    have h1 : ∀ x, x ∈ ks.filter (fun x => !decide (x = s.res)) ↔ x ∈ ls.filter (fun x => !decide (x = s.res)) := fun x => by rw [List.mem_filter, List.mem_filter, h x]
    unfold lvR
    rw [TX.sortU_ext h1, lvR_ext r (ks := (ks.filter fun x => !decide (x = s.res)) ++ s.args) (ls := (ls.filter fun x => !decide (x = s.res)) ++ s.args) fun x => by rw [List.mem_append, List.mem_append, h1 x]]
def sp_live_values : DSp := fun rs ow Q _ => ∃ (ss : List Step) (tg U : List Str) (own : Bool), rs = [.d (.tuple (ss.map dStep)), .d (.tuple (tg.map PyData.str))] ∧ ss.length ≤ 60 ∧ U.length < 60 ∧ (∀ s ∈ ss, s.args.length ≤ 3 ∧ ∀ a ∈ s.args, a ∈ U) ∧ (∀ x ∈ tg, x ∈ U) ∧ tg.length ≤ 20 ∧
  ∀ ow', ow.length ≤ ow'.length → (∀ i, i < ow.length → ow'[i]? = ow[i]?) →
    if own = true then Q (.o ow'.length) (ow' ++ [.lst ((dLv (lvR ss.reverse tg).reverse).map Rv.d)]) else Q (.d (.list (dLv (lvR ss.reverse tg).reverse))) ow'
theorem len_live_values : ∀ rs ow Q E, sp_live_values rs ow Q E → rs.length = 2 := fun rs ow Q E ⟨_, _, _, _, h, _⟩ => by rw [h]; rfl
theorem pl_live_values {ss : List Step} {tg U : List Str} {own : Bool} {ow QD} (hl : ss.length ≤ 60) (hU : U.length < 60) (ha : ∀ s ∈ ss, s.args.length ≤ 3 ∧ ∀ a ∈ s.args, a ∈ U) (ht : ∀ x ∈ tg, x ∈ U) (htl : tg.length ≤ 20)
    (k : ∀ ow' : OW, ow.length ≤ ow'.length → (∀ i, i < ow.length → ow'[i]? = ow[i]?) → if own = true then QD (.o ow'.length) (ow' ++ [.lst ((dLv (lvR ss.reverse tg).reverse).map Rv.d)]) else QD (.d (.list (dLv (lvR ss.reverse tg).reverse))) ow') :
    r_live_values own { nx := fun _ ow' => QD (.d .none) ow', rt := QD } (startR N_live_values [.d (.tuple (ss.map dStep)), .d (.tuple (tg.map PyData.str))]) ow := by
  generalize hfo : ow.length = fo
  have fol : fo < (ow ++ [OD.lst []]).length := by rw [List.length_append, hfo]; exact Nat.lt_succ_self _
  have dlen : ∀ (r : List Step) (ks : List Str), (lvR r ks).length = r.length := fun r => by
    induction r with
    | nil => intro _; rfl
    | cons s r ih => intro ks; show (lvR r _).length + 1 = _; rw [ih]; rfl
  refine ⟨szr rfl, ?_⟩
  refine ⟨fun sl ow1 => ∃ no ks, sl = [some (.d (.tuple (ss.map dStep))), some (.d (.tuple (tg.map PyData.str))), some (.o fo), some (.o no), none, none, none, none] ∧ DctK ow1 no ks ∧ (∀ x, x ∈ ks ↔ x ∈ tg) ∧ fo < no ∧ lstAt ow1 fo = some [] ∧ ∀ j, j < fo → ow1[j]? = ow[j]?, ?_, ?_⟩
  · refine dc_keys ((tg.map PyData.str).map Rv.d) iaTru tg (fun _ => true) (fun R hR => hR) ?_ trivial (Nat.lt_of_le_of_lt htl (by decide)) (fun x _ K h => h) (fun x _ K h => h) (fun x _ K h => h) fun kvs ks h1 h2 h3 h4 => ?_
    · rw [List.map_map]; rfl
    · refine ⟨_, ks, by rw [hfo]; rfl, ⟨kvs, dctAt_new, h1, h2⟩, fun x => by rw [h3 x]; exact ⟨And.left, fun z => ⟨z, rfl⟩⟩, fol, by rw [lstAt_app fol, ← hfo]; exact lstAt_new, fun j hj => by rw [List.getElem?_append_left (by omega), List.getElem?_append_left (by omega)]⟩
  rintro sl ow1 ⟨no, ks0, rfl, hD0, hks0, hno0, hf0, hk0⟩
  generalize hrv : ss.reverse = rv at k
  have rvl : rv.length = ss.length := by rw [← hrv, List.length_reverse]
  refine ⟨fun i sl ow' => ∃ (no : Nat) (ks : List Str) (e4 e5 e6 e7 : Option Rv), sl = [some (.d (.tuple (ss.map dStep))), some (.d (.tuple (tg.map PyData.str))), some (.o fo), some (.o no), e4, e5, e6, e7] ∧ i ≤ rv.length ∧ DctK ow' no ks ∧ (∀ x ∈ ks, x ∈ U) ∧ lvR (rv.drop i) ks = (lvR rv tg).drop i ∧ fo < no ∧ lstAt ow' fo = some ((dLv ((lvR rv tg).take i)).map Rv.d) ∧ ∀ j, j < fo → ow'[j]? = ow[j]?, ?_, ?_, ?_, ?_⟩
  · exact ⟨no, ks0, none, none, none, none, rfl, Nat.zero_le _, hD0, fun x hx => ht x ((hks0 x).mp hx), lvR_ext rv hks0, hno0, hf0, hk0⟩
  · exact fun i sl ow' _ => trivial
  · rintro i r sl ow' hi ⟨no, ks, e4, e5, e6, e7, rfl, hir, ⟨kvs, hd, hkk, hnd⟩, hkU, hlv, hno, hf, hk⟩
    have hi : ((((ss.map dStep).reverse).map Rv.d))[i]? = some r := hi
    rw [← List.map_reverse, hrv, List.getElem?_map, List.getElem?_map] at hi
    obtain ⟨d, hd1, rfl⟩ := Option.map_eq_some_iff.mp hi
    obtain ⟨s, hs, rfl⟩ := Option.map_eq_some_iff.mp hd1
    have hsm : s ∈ ss := by
      have := List.mem_of_getElem? hs
      rw [← hrv] at this
      exact List.mem_reverse.mp this
    have hilt := (List.getElem?_eq_some_iff.mp hs).1
    have hdrop : rv.drop i = s :: rv.drop (i + 1) := List.drop_eq_getElem_cons hilt |>.trans (by rw [(List.getElem?_eq_some_iff.mp hs).2])
    have hkl : ks.length < 60 := Nat.lt_of_le_of_lt (nodup_in ks U hnd hkU) hU
    refine ⟨rfl, rfl, ?_⟩
    have hnl := dctAt_lt hd
    -- without the result
    refine ⟨fun sl ow2 => ∃ no2, sl = [some (.d (.tuple (ss.map dStep))), some (.d (.tuple (tg.map PyData.str))), some (.o fo), some (.o no2), e4, some (.d (.str s.op)), some (.d (.tuple (s.args.map PyData.str))), some (.d (.str s.res))] ∧ (∃ ks2, DctK ow2 no2 ks2 ∧ (∀ x, x ∈ ks2 ↔ x ∈ ks ∧ (!decide (x = s.res)) = true)) ∧ fo < no2 ∧ lstAt ow2 fo = some ((dLv ((lvR rv tg).take i)).map Rv.d) ∧ ∀ j, j < fo → ow2[j]? = ow[j]?, ?_, ?_⟩
    · refine ⟨no, kvs, hd, ?_⟩
      have hfd : fdctAt (ow'.set no (.fdct kvs)) no = some kvs := fdctAt_set hnl
      have eK : kvs.map (fun kv => rK kv.1) = ks.map fun x => .d (.str x) := by
        have : kvs.map (fun kv => rK kv.1) = (kvs.map (·.1)).map rK := by rw [List.map_map]; rfl
        rw [this, hkk, List.map_map]
        rfl
      refine dc_keys (kvs.map fun kv => rK kv.1) (fun ow2 => fdctAt ow2 no = some kvs) ks (fun x => !decide (x = s.res)) (fun R hR => .inr ⟨kvs, hfd, hR⟩) eK hfd (Nat.lt_trans hkl (by decide)) (fun x _ K h => ⟨trivial, h⟩) (fun x _ K h => h) (fun x _ K h => h) fun kvs2 ks2 h1 h2 h3 h4 => ?_
      have hsl : (ow'.set no (.fdct kvs)).length = ow'.length := List.length_set ..
      have hfol := lstAt_lt hf
      refine ⟨kvs, by rw [fdctAt_app (by rw [hsl]; exact hnl)]; exact hfd, ow'.length, by rw [hsl]; rfl, ⟨ks2, ⟨kvs2, ?_, h1, h2⟩, h3⟩, by omega, ?_, fun j hj => ?_⟩
      · rw [dctAt_ne (by omega), ← hsl]
        exact dctAt_new
      · rw [lstAt_ne (by omega), lstAt_app (by rw [hsl]; omega), lstAt_ne (by omega)]
        exact hf
      · rw [List.getElem?_set_ne (by omega), List.getElem?_append_left (by rw [hsl]; omega), List.getElem?_set_ne (by omega)]
        exact hk j hj
    rintro sl ow2 ⟨no2, rfl, ⟨ks2, ⟨kvs2, hd2, hkk2, hnd2⟩, hks2⟩, hno2, hf2, hk2⟩
    have hk2U : ∀ x ∈ ks2, x ∈ U := fun x hx => hkU x ((hks2 x).mp hx).1
    have hkl2 : ks2.length < 60 := Nat.lt_of_le_of_lt (nodup_in ks2 U hnd2 hk2U) hU
    have hnl2 := dctAt_lt hd2
    have hfl2 := lstAt_lt hf2
    have hmem2 : ∀ x, x ∈ ks2 ↔ x ∈ ks.filter fun x => !decide (x = s.res) := fun x => by rw [hks2 x, List.mem_filter]
    have hnext : lvR (rv.drop i) ks = TX.sortU ks2 :: lvR (rv.drop (i + 1)) (ks2 ++ s.args) := by
      rw [hdrop]
      show TX.sortU (ks.filter fun x => !decide (x = s.res)) :: lvR _ _ = _
      rw [← TX.sortU_ext hmem2, lvR_ext (rv.drop (i + 1)) (ks := (ks.filter fun x => !decide (x = s.res)) ++ s.args) (ls := ks2 ++ s.args) fun x => by rw [List.mem_append, List.mem_append, hmem2 x]]
    have hat : (lvR rv tg)[i]? = some (TX.sortU ks2) ∧ (lvR rv tg).drop (i + 1) = lvR (rv.drop (i + 1)) (ks2 ++ s.args) := by
      rw [hlv] at hnext
      refine ⟨?_, ?_⟩
      · have := congrArg (fun l => l[0]?) hnext
        simpa using this
      · have := congrArg (List.drop 1) hnext
        rw [List.drop_drop] at this
        simpa using this
    -- found
    refine ⟨fun sl ow3 => sl = [some (.d (.tuple (ss.map dStep))), some (.d (.tuple (tg.map PyData.str))), some (.o fo), some (.o no2), e4, some (.d (.str s.op)), some (.d (.tuple (s.args.map PyData.str))), some (.d (.str s.res))] ∧ dctAt ow3 no2 = some kvs2 ∧ lstAt ow3 fo = some ((dLv ((lvR rv tg).take (i + 1))).map Rv.d) ∧ ∀ j, j < fo → ow3[j]? = ow[j]?, ?_, ?_⟩
    · refine ⟨⟨_, hf2⟩, ?_⟩
      refine ⟨kvs2, ks2, hd2, hkk2, hnd2, by omega, ?_⟩
      refine ⟨_, _, rfl, allD_map _, ?_⟩
      refine ⟨_, hf2, ?_, rfl, by rw [dctAt_ne (by omega)]; exact hd2, ?_, fun j hj => by rw [List.getElem?_set_ne (by omega)]; exact hk2 j hj⟩
      · unfold dLv
        rw [List.length_map, List.length_map, List.length_take]
        exact Nat.lt_of_le_of_lt (show min i (lvR rv tg).length ≤ 60 by omega) (by decide)
      · rw [lstAt_set hfl2, List.take_add_one, hat.1]
        unfold dLv
        rw [List.map_append, List.map_append]
        rfl
    rintro sl ow3 ⟨rfl, hd3, hf3, hk3⟩
    have hnl3 := dctAt_lt hd3
    have hfl3 := lstAt_lt hf3
    refine ⟨⟨_, _, rfl, hd3⟩, ?_⟩
    have has := ha s hsm
    refine dc_keys ((s.args.map PyData.str).map Rv.d) iaTru s.args (fun _ => true) (fun R hR => hR) ?_ trivial (Nat.lt_of_le_of_lt has.1 (by decide)) (fun x _ K h => h) (fun x _ K h => h) (fun x _ K h => h) fun kvs4 ks4 h1 h2 h3 h4 => ?_
    · rw [List.map_map]; rfl
    have e2 := congrArg List.length hkk2
    have e4' := congrArg List.length h1
    rw [List.length_map, List.length_map] at e2 e4'
    refine ⟨by omega, kvs2, kvs4, by rw [dctAt_app hnl3]; exact hd3, dctAt_new, by rw [e2, e4']; exact Nat.le_trans (show ks2.length + ks4.length ≤ 100 by omega) (by decide), ?_⟩
    have fd := TX.fold_dedS ks4 ks2
    refine ⟨no2, ks4.foldl TX.stepS ks2, _, _, _, _, rfl, hilt, ⟨mergeR kvs2 kvs4, dctAt_set (by rw [List.length_append]; omega), mergeR_keys _ _ _ _ h1 hkk2, fd.2.1 hnd2⟩, fun x hx => ?_, ?_, hno2, ?_, fun j hj => ?_⟩
    · rcases (fd.1 x).mp hx with z | z
      · exact hk2U x z
      · exact has.2 x ((h3 x).mp z).1
    · rw [hat.2]
      exact lvR_ext _ fun x => by rw [fd.1 x, List.mem_append, h3 x]; exact ⟨fun z => z.imp id And.left, fun z => z.imp id fun y => ⟨y, rfl⟩⟩
    · rw [lstAt_ne (by omega), lstAt_app hfl3]
      exact hf3
    · rw [List.getElem?_set_ne (by omega), List.getElem?_append_left (by omega)]
      exact hk3 j hj
  · rintro sl ow' ⟨no, ks, e4, e5, e6, e7, rfl, hir, _, _, _, _, hf, hk⟩
    have hlen : (((ss.map dStep).reverse).map Rv.d).length = (lvR rv tg).length := by rw [dlen, List.length_map, List.length_reverse, List.length_map, rvl]
    have hf : lstAt ow' fo = some ((dLv ((lvR rv tg).take (((ss.map dStep).reverse).map Rv.d).length)).map Rv.d) := hf
    rw [hlen, List.take_length] at hf
    have hrr : ((dLv (lvR rv tg)).map Rv.d).reverse = (dLv (lvR rv tg).reverse).map Rv.d := by
      unfold dLv
      rw [← List.map_reverse, ← List.map_reverse]
    have hk' := k ow' (by have := lstAt_lt hf; omega) fun j hj => hk j (by omega)
    cases own with
    | true =>
      refine ⟨_, hf, ?_⟩
      rw [hrr]
      exact hk'
    | false =>
      refine ⟨_, _, hf, allD_map _, ?_⟩
      have : (dLv (lvR rv tg)).reverse = dLv (lvR rv tg).reverse := by unfold dLv; rw [← List.map_reverse]
      rw [this]
      exact hk'
theorem sc_live_values : FnScope N_live_values ["steps", "target"] (defScope s_live_values) := ⟨rfl, rfl, rfl, by decide +kernel, rfl, by decide +kernel, by decide +kernel⟩
theorem ok_live_values {P : Program} {w : World} {K : FG} {mg : Str → Option Value} {base : Heap} {f : Addr} {fd : FuncData} {dvs : List V} (F : FunD K "live_values" "live_values" (defArgs s_live_values) (defBody s_live_values) (defScope s_live_values) dvs [] f fd) (T : Txt mg) :
    FnG P w K mg base (L2.CX P w) false 1 f fd ["steps", "target"] (lift K sp_live_values) := by
  refine okD (k := 0) F sc_live_values len_live_values fun cdv A outer s H E F0 as rs ow QD QX hr hgd tk h => ?_
  have m : Cm (dxOf P w K mg base N_live_values "live_values" (defScope s_live_values) f cdv A outer s H E F0 as).toCx := ⟨rfl, by have := hr.un; show (A.deeper _).units + 150 < cLine; omega⟩
  have sc := sc_live_values
  obtain ⟨ss, tg, U, own, rfl, hl, hU, ha, ht, htl, k⟩ := h
  cases own with
  | true =>
    refine ⟨r_live_values true, ?_, pl_live_values hl hU ha ht htl k⟩
    exact (db_cons (ds_set (i := 2) sc.nd rfl (Or.inl rfl) (de_lstO da_nil))
      (db_cut (ds_dc (own := [("value", 4)]) m sc.nd (k := 3) rfl rfl (swd_true rfl rfl rfl (by decide +kernel)) (blkOk_by (N := N_live_values) (sc := defScope s_live_values) (by decide +kernel)) (by decide) (di_any (dn 1)) (fun _ _ _ _ _ => pg_name (i := 4) sc.nd rfl (Or.inl rfl) (Or.inr rfl)) DTs.nil (fun _ _ _ _ _ => (dn 4)) (fun _ _ _ _ _ => de_bl))
      (db_cons (ds_for (passes_of rfl) rfl (di_any (de_revY (dn 0))) (dg_tup rfl (dgs_cons (dg_name (i := 5) sc.nd rfl (Or.inl rfl)) (dgs_cons (dg_name (i := 6) sc.nd rfl (Or.inl rfl)) (dgs_cons (dg_name (i := 7) sc.nd rfl (Or.inr rfl)) dgs_nil))))
        (db_cut (ds_lock (ds_dc (own := [("value", 4)]) m sc.nd (k := 3) rfl rfl (swd_true rfl rfl rfl (by decide +kernel)) (blkOk_by (N := N_live_values) (sc := defScope s_live_values) (by decide +kernel)) (by decide) (di_any (dn 3)) (fun _ _ _ _ _ => pg_name (i := 4) sc.nd rfl (Or.inl rfl) (Or.inr rfl)) (DTs.one fun _ _ _ _ _ => (dt_ne ⟨m.calm, m.un⟩ (dn 4) (dn 7))) (fun _ _ _ _ _ => (dn 4)) (fun _ _ _ _ _ => de_bl)))
        (db_cut (ds_expr (de_app (dn 2) (da_cons (de_tupF rfl T.b_tuple (da_cons (de_sortDct m rfl T.b_sorted (da_cons (dn 3) da_nil)) da_nil)) da_nil)))
        (db_one (ds_expr (de_upd (dn 3) (da_cons (de_dc (own := [("value", 4)]) m sc.nd (blkOk_by (N := N_live_values) (sc := defScope s_live_values) (by decide +kernel)) (by decide) (di_any (dn 6)) (fun _ _ _ _ _ => pg_name (i := 4) sc.nd rfl (Or.inl rfl) (Or.inr rfl)) DTs.nil (fun _ _ _ _ _ => (dn 4)) (fun _ _ _ _ _ => de_bl)) da_nil)))))))
      (db_one (ds_ret (de_revLO (dn 2)))))))
  | false =>
    refine ⟨r_live_values false, ?_, pl_live_values hl hU ha ht htl k⟩
    exact (db_cons (ds_set (i := 2) sc.nd rfl (Or.inl rfl) (de_lstO da_nil))
      (db_cut (ds_dc (own := [("value", 4)]) m sc.nd (k := 3) rfl rfl (swd_true rfl rfl rfl (by decide +kernel)) (blkOk_by (N := N_live_values) (sc := defScope s_live_values) (by decide +kernel)) (by decide) (di_any (dn 1)) (fun _ _ _ _ _ => pg_name (i := 4) sc.nd rfl (Or.inl rfl) (Or.inr rfl)) DTs.nil (fun _ _ _ _ _ => (dn 4)) (fun _ _ _ _ _ => de_bl))
      (db_cons (ds_for (passes_of rfl) rfl (di_any (de_revY (dn 0))) (dg_tup rfl (dgs_cons (dg_name (i := 5) sc.nd rfl (Or.inl rfl)) (dgs_cons (dg_name (i := 6) sc.nd rfl (Or.inl rfl)) (dgs_cons (dg_name (i := 7) sc.nd rfl (Or.inr rfl)) dgs_nil))))
        (db_cut (ds_lock (ds_dc (own := [("value", 4)]) m sc.nd (k := 3) rfl rfl (swd_true rfl rfl rfl (by decide +kernel)) (blkOk_by (N := N_live_values) (sc := defScope s_live_values) (by decide +kernel)) (by decide) (di_any (dn 3)) (fun _ _ _ _ _ => pg_name (i := 4) sc.nd rfl (Or.inl rfl) (Or.inr rfl)) (DTs.one fun _ _ _ _ _ => (dt_ne ⟨m.calm, m.un⟩ (dn 4) (dn 7))) (fun _ _ _ _ _ => (dn 4)) (fun _ _ _ _ _ => de_bl)))
        (db_cut (ds_expr (de_app (dn 2) (da_cons (de_tupF rfl T.b_tuple (da_cons (de_sortDct m rfl T.b_sorted (da_cons (dn 3) da_nil)) da_nil)) da_nil)))
        (db_one (ds_expr (de_upd (dn 3) (da_cons (de_dc (own := [("value", 4)]) m sc.nd (blkOk_by (N := N_live_values) (sc := defScope s_live_values) (by decide +kernel)) (by decide) (di_any (dn 6)) (fun _ _ _ _ _ => pg_name (i := 4) sc.nd rfl (Or.inl rfl) (Or.inr rfl)) DTs.nil (fun _ _ _ _ _ => (dn 4)) (fun _ _ _ _ _ => de_bl)) da_nil)))))))
      (db_one (ds_ret (de_revY (dn 2)))))))
/-! ### the two are alike -/
/-- needed ahead of the steps -/
def nd : List Step → List Str → List Str
  | [], tg => tg
  | s :: r, tg => ((nd r tg).filter fun x => !decide (x = s.res)) ++ s.args
def outF : List Step → List Str → List (List Str)
  | [], _ => []
  | s :: r, tg => TX.sortU ((nd r tg).filter fun x => !decide (x = s.res)) :: outF r tg
theorem lvR_app : ∀ (l : List Step) (s : Step) (ks : List Str), lvR (l ++ [s]) ks = lvR l ks ++ [TX.sortU ((l.foldl (fun ks s => (ks.filter fun x => !decide (x = s.res)) ++ s.args) ks).filter fun x => !decide (x = s.res))]
  | [], s, ks => rfl
  | a :: l, s, ks => by
    show _ :: lvR (l ++ [s]) _ = _ :: lvR l _ ++ _
    rw [lvR_app l s]
    rfl
theorem nd_fold : ∀ (ss : List Step) (tg : List Str), ss.reverse.foldl (fun ks s => (ks.filter fun x => !decide (x = s.res)) ++ s.args) tg = nd ss tg
  | [], _ => rfl
  | s :: r, tg => by
    rw [List.reverse_cons, List.foldl_append, nd_fold r tg]
    rfl
theorem lvR_out : ∀ (ss : List Step) (tg : List Str), (lvR ss.reverse tg).reverse = outF ss tg
  | [], _ => rfl
  | s :: r, tg => by
    rw [List.reverse_cons, lvR_app, nd_fold, List.reverse_append, lvR_out r tg]
    rfl
/-- no argument is the result of its step or a later one -/
def wf : List Step → Prop
  | [] => True
  | s :: r => (∀ a ∈ s.args, ∀ t ∈ s :: r, a ≠ t.res) ∧ wf r
theorem mem_nd : ∀ {ss : List Step} {tg : List Str} {x : Str}, wf ss → (x ∈ nd ss tg ↔ x ∈ tg ++ (ss.map (·.args)).flatten ∧ x ∉ ss.map (·.res))
  | [], tg, x, _ => by simp [nd]
  | s :: r, tg, x, h => by
    unfold nd
    rw [List.mem_append, List.mem_filter, mem_nd h.2, List.map_cons, List.map_cons, List.flatten_cons, List.mem_append, List.mem_append, List.mem_append, List.mem_cons]
    constructor
    · rintro (⟨⟨a, b⟩, c⟩ | a)
      · refine ⟨a.elim .inl fun z => .inr (.inr z), fun z => ?_⟩
        rcases z with z | z
        · rw [z] at c
          simp at c
        · exact b z
      · refine ⟨.inr (.inl a), fun z => ?_⟩
        rcases z with z | z
        · exact h.1 x a s List.mem_cons_self z
        · obtain ⟨t, ht, e⟩ := List.mem_map.mp z
          exact h.1 x a t (List.mem_cons_of_mem _ ht) e.symm
    · rintro ⟨a, b⟩
      rcases a with a | a | a
      · exact .inl ⟨⟨.inl a, fun z => b (.inr z)⟩, by simp; exact fun z => b (.inl z)⟩
      · exact .inr a
      · exact .inl ⟨⟨.inr a, fun z => b (.inr z)⟩, by simp; exact fun z => b (.inl z)⟩
theorem lv_out : ∀ {ss : List Step} {tg : List Str}, wf ss → lv ss tg = outF ss tg
  | [], _, _ => rfl
  | s :: r, tg, h => by
    have e : lv (s :: r) tg = lvAt (s :: r) tg 0 :: lv r tg := by
      unfold lv
      rw [List.length_cons, List.range_succ_eq_map, List.map_cons, List.map_map]
      rfl
    rw [e, lv_out h.2]
    show lvAt (s :: r) tg 0 :: outF r tg = TX.sortU ((nd r tg).filter fun x => !decide (x = s.res)) :: outF r tg
    congr 1
    unfold lvAt
    refine TX.asc_ext ((TX.asc_sortU _).sublist List.filter_sublist) (TX.asc_sortU _) fun x => ?_
    rw [List.mem_filter, TX.mem_sortU, TX.mem_sortU, List.mem_filter, mem_nd h.2]
    show (x ∈ tg ++ ((r.map (·.args)).flatten) ∧ (!decide (x ∈ (s :: r).map (·.res))) = true) ↔ _
    rw [List.map_cons]
    simp only [Bool.not_eq_true', decide_eq_false_iff_not, List.mem_cons, not_or]
    constructor
    · rintro ⟨a, b, c⟩
      exact ⟨⟨a, c⟩, b⟩
    · rintro ⟨⟨a, c⟩, b⟩
      exact ⟨a, b, c⟩
theorem wf_of : ∀ {ss : List Step} {j : Nat}, (∀ i s, ss[i]? = some s → results12[j + i]? = some s.res ∧ ∀ a ∈ s.args, Known (j + i) a) → wf ss
  | [], _, _ => trivial
  | s :: r, j, h => by
    refine ⟨fun a ha t ht e => ?_, wf_of (j := j + 1) fun i s hs => by have := h (i + 1) s hs; rwa [show j + (i + 1) = j + 1 + i by omega] at this⟩
    obtain ⟨i, hi⟩ := List.mem_iff_getElem?.mp ht
    have h1 := (h i t hi).1
    have h2 := (h 0 s rfl).2 a ha
    rcases h2 with z | ⟨i', hi', z⟩
    · have : ∀ x ∈ names6, x ∉ results12 := by decide +kernel
      exact this a z (by rw [e]; exact List.mem_of_getElem? h1)
    · have nd : results12.Nodup := by decide +kernel
      rw [e] at z
      have := (List.getElem?_inj (l := results12) (List.getElem?_eq_some_iff.mp z).1 nd).mp (z.trans h1.symm)
      omega
theorem Steps.wf {ss : List Step} (h : Steps ss) : wf ss := wf_of (j := 0) fun i s hs => by
  rw [Nat.zero_add]
  exact ⟨(h i s hs).2.1, (h i s hs).2.2.2⟩
theorem alike {ss : List Step} {tg : List Str} (h : wf ss) : (lvR ss.reverse tg).reverse = lv ss tg := by rw [lvR_out, lv_out h]
/-! ### law -/
def gd_live_values_1_target (rs qs : List Rv) : List Rv := rs ++ qs
def gd_live_values_0_steps (rs qs : List Rv) : List Rv := qs ++ [.d (.tuple [])]
def gd_live_values_1 (rs qs : List Rv) : List Rv := rs ++ [.d (.tuple [])]
abbrev s_law : Stmt := top 9
def N_law : List Str := ["_law_script", "_law_pen", "_law_turn", "_law_start", "_law_deeds", "_law_known", "_law_goal", "_law_shown", "_law_due", "_law_changed", "_law_letters", "_law_names", "_law_one", "_law_long", "_law_k"]
def r_law : TM :=
  (dSeq (dSet 1 (dCall 1 (fun rs _ => rs) sp__law_pen_of noX (dCons (dVar 0) dNil)))
    (dSeq (dFor (diRng1 (dCons (dK (.int 6)) dNil)) (dgName 2)
      (dSeq (dSet 3 (dCall 1 (fun rs _ => rs) sp__law_start_drawn noX (dCons (dVar 1) dNil)))
      (dSeq (dAsg (dCall 3 (fun rs _ => rs) sp__law_steps_drawn noX (dCons (dVar 1) (dCons (dVar 3) (dCons (dOp rIxR (dLst (dCons (dK (.int 0)) (dCons (dK (.int 1)) (dCons (dK (.int 2)) (dCons (dK (.int 5)) (dCons (dK (.int 12)) (dCons (dCall 2 (fun rs _ => rs) sp__law_draw noX (dCons (dVar 1) (dCons (dK (.int 13)) dNil))) dNil))))))) (dCall 2 (fun rs _ => rs) sp__law_draw noX (dCons (dVar 1) (dCons (dK (.int 6)) dNil)))) dNil)))) (dgTup 2 (dgCons (dgName 4) (dgCons (dgName 5) dgNil))))
      (dCut (dSet 6 (dOp rAdd (dCall 2 (fun rs _ => rs) sp__law_target_drawn noX (dCons (dVar 1) (dCons (dVar 5) dNil))) (dOp rIxR (dLst (dCons (dTup dNil) (dCons (dTup (dCons (dK (.str "lost")) (dCons (dK (.str "lost")) dNil))) dNil))) (dCB rIntF (dCons (dOp (rEqR false) (dCall 2 (fun rs _ => rs) sp__law_draw noX (dCons (dVar 1) (dCons (dK (.int 4)) dNil))) (dK (.int 0))) dNil)))))
      (dSeq (dSet 7 (dCB rReprF (dCons (dTup (dCons (dVar 4) (dCons (dVar 6) dNil))) dNil)))
      (dSeq (dSet 8 (dCall 2 (fun rs _ => rs) sp__law_live_due noX (dCons (dVar 4) (dCons (dVar 6) dNil))))
      (dSeq (dIf (dB (dOp (rEqR true) (dCB rReprF (dCons (dLst (dCons (dCall 2 (fun rs _ => rs) sp_live_values noX (dCons (dVar 4) (dCons (dVar 6) dNil))) (dCons (dCallK 1 1 gd_live_values_1_target sp_live_values noX (dCons (dVar 4) dNil) (dCons (dVar 6) dNil)) dNil))) dNil)) (dCB rReprF (dCons (dLst (dCons (dVar 8) (dCons (dVar 8) dNil))) dNil))))
        (dRet (dK (.bool false)))
        dNext)
      (dSeq (dSet 9 (dCallK 0 1 gd_live_values_0_steps sp_live_values noX dNil (dCons (dVar 4) dNil)))
      (dSeq (dDrop (dMeth isL rAppD (dVar 9) (dCons (dTup (dCons (dK (.str "a")) dNil)) dNil)))
      (dSeq (dSetIx (dK .none) (dVar 9) (dK (.int 0)))
      (dIf (dOr (dB (dOp (rEqR true) (dCB rReprF (dCons (dCall 1 (gd_live_values_1) sp_live_values noX (dCons (dVar 4) dNil)) dNil)) (dCB rReprF (dCons (dCall 2 (fun rs _ => rs) sp__law_live_due noX (dCons (dVar 4) (dCons (dTup dNil) dNil))) dNil)))) (dB (dOp (rEqR true) (dCB rReprF (dCons (dTup (dCons (dVar 4) (dCons (dVar 6) dNil))) dNil)) (dVar 7))))
        (dRet (dK (.bool false)))
        dNext)))))))))))
    (dSeq (dSet 10 (dK (.str "abcdefghijklmnopqrstuvwxyz")))
    (dSeq (dSet 11 (dOp rAdd (dLcP (diAny (dVar 10)) 12 dYes (dOp rAdd (dK (.str "a")) (dVar 12)) [12]) (dLcP (diAny (dVar 10)) 12 dYes (dOp rAdd (dK (.str "b")) (dVar 12)) [12])))
    (dSeq (dSet 13 (dCB rTupF (dCons (dLcP (diRng1 (dCons (dK (.int 51)) dNil)) 14 dYes (dTup (dCons (dK (.str "f")) (dCons (dTup (dCons (dOp rIxR (dVar 11) (dVar 14)) (dCons (dOp rIxR (dVar 11) (dK (.int 0))) dNil))) (dCons (dOp rIxR (dVar 11) (dOp rAdd (dVar 14) (dK (.int 1)))) dNil)))) [14]) dNil)))
    (dRet (dAndV (dOp (rEqR false) (dCall 1 (gd_live_values_1) sp_live_values noX (dCons (dTup dNil) dNil)) (dLst dNil)) (dOp (rEqR false) (dCall 1 (gd_live_values_1) sp_live_values noX (dCons (dVar 13) dNil)) (dOp rAdd (dOp rMul (dLst (dCons (dTup (dCons (dK (.str "aa")) dNil)) dNil)) (dK (.int 50))) (dLst (dCons (dTup dNil) dNil)))))))))))

def sp_law : DSp := fun rs ow Q _ => ∃ ns, rs = [.f ns] ∧ ow = [] ∧ ∀ ow', Q (.d (.bool true)) ow'
theorem len_law : ∀ rs ow Q E, sp_law rs ow Q E → rs.length = 1 := fun rs ow Q E ⟨_, h, _⟩ => by rw [h]; rfl
/-- the texts that occur -/
def U19 : List Str := names6 ++ results12 ++ [("lost" : Str)]
theorem u19_ok : ∀ x ∈ U19, PyData.strOk x = true ∧ x.length ≤ 8 := by decide +kernel
theorem w6_ok : ∀ x ∈ words6, PyData.strOk x = true ∧ x.length ≤ 8 := by decide +kernel
theorem Known.u {j : Nat} {x : Str} (h : Known j x) : x ∈ U19 := by
  rcases h with h | ⟨i, _, h⟩
  · exact List.mem_append_left _ (List.mem_append_left _ h)
  · exact List.mem_append_left _ (List.mem_append_right _ (List.mem_of_getElem? h))
theorem gd_str {x : Str} (h : x ∈ U19) : GD 8 0 (.str x) := .str (u19_ok x h).1 (u19_ok x h).2
theorem gd_strs {xs : List Str} {l n : Nat} (h : ∀ x ∈ xs, x ∈ U19) (hl : xs.length ≤ l) (hn : l * 9 ≤ n := by decide) : GD n 1 (.tuple (xs.map PyData.str)) :=
  GD.tup (m := 8) (k := 0) (l := l) (fun d hd => by
    obtain ⟨x, hx, rfl⟩ := List.mem_map.mp hd
    exact gd_str (h x hx)) (by rw [List.length_map]; exact hl) hn
theorem gd_step {ss : List Step} (h : Steps ss) {s : Step} (hs : s ∈ ss) : GD 84 2 (dStep s) := by
  obtain ⟨i, hi⟩ := List.mem_iff_getElem?.mp hs
  obtain ⟨h1, h2, h3, h4⟩ := h i s hi
  refine GD.tup (m := 27) (k := 1) (l := 3) (fun d hd => ?_) (Nat.le_refl _)
  simp only [List.mem_cons, List.not_mem_nil, or_false] at hd
  rcases hd with rfl | rfl | rfl
  · exact (GD.str (n := 8) (w6_ok _ h1).1 (w6_ok _ h1).2).mono
  · exact gd_strs (fun a ha => (h4 a ha).u) h3
  · exact (gd_str (Known.u (j := i + 1) (.inr ⟨i, Nat.lt_succ_self _, h2⟩))).mono
theorem gd_steps {ss : List Step} (h : Steps ss) (hl : ss.length ≤ 12) : GD 1020 3 (.tuple (ss.map dStep)) :=
  GD.tup (m := 84) (k := 2) (l := 12) (fun d hd => by
    obtain ⟨s, hs, rfl⟩ := List.mem_map.mp hd
    exact gd_step h hs) (by rw [List.length_map]; exact hl)
theorem steps_args {ss : List Step} (h : Steps ss) : ∀ s ∈ ss, s.args.length ≤ 3 ∧ ∀ a ∈ s.args, a ∈ U19 := fun s hs => by
  obtain ⟨i, hi⟩ := List.mem_iff_getElem?.mp hs
  exact ⟨(h i s hi).2.2.1, fun a ha => ((h i s hi).2.2.2 a ha).u⟩
theorem flat_len : ∀ {l : List Step}, (∀ s ∈ l, s.args.length ≤ 3) → ((l.map (·.args)).flatten).length ≤ 3 * l.length
  | [], _ => Nat.zero_le _
  | s :: r, h => by
    have h1 := h s List.mem_cons_self
    have h2 := flat_len (l := r) fun x hx => h x (List.mem_cons_of_mem _ hx)
    rw [List.map_cons, List.flatten_cons, List.length_append, List.length_cons]
    omega
theorem gd_lv {ss : List Step} {tg : List Str} (h : Steps ss) (hl : ss.length ≤ 12) (ht : ∀ x ∈ tg, x ∈ U19) (htl : tg.length ≤ 10) : GD 4980 2 (.list (dLv (lv ss tg))) := by
  refine GD.lst (m := 414) (k := 1) (l := 12) (fun d hd => ?_) (by unfold dLv lv; rw [List.length_map, List.length_map, List.length_range]; exact hl)
  obtain ⟨xs, hx, rfl⟩ := List.mem_map.mp hd
  obtain ⟨k, _, rfl⟩ := List.mem_map.mp hx
  have ha := steps_args h
  refine gd_strs (l := 46) (fun x hx => ?_) ?_
  · have := TX.mem_sortU.mp (List.mem_filter.mp hx).1
    rcases List.mem_append.mp this with z | z
    · exact ht x z
    · obtain ⟨as, has, hxa⟩ := List.mem_flatten.mp z
      obtain ⟨s, hs, rfl⟩ := List.mem_map.mp has
      exact (ha s (List.mem_of_mem_drop hs)).2 x hxa
  · refine Nat.le_trans (List.length_filter_le _ _) (Nat.le_trans (TX.sortU_le _) ?_)
    rw [List.length_append]
    have := flat_len (l := ss.drop (k + 1)) fun s hs => (ha s (List.mem_of_mem_drop hs)).1
    rw [List.length_drop] at this
    omega
theorem gd_two {n k : Nat} {d e : PyData} (h : GD n k d) (h' : GD n k e) {m : Nat} (hm : 2 * (n + 1) ≤ m := by decide) : GD m (k + 1) (.list [d, e]) ∧ GD m (k + 1) (.tuple [d, e]) := by
  have : ∀ x ∈ [d, e], GD n k x := fun x hx => by
    simp only [List.mem_cons, List.not_mem_nil, or_false] at hx
    rcases hx with rfl | rfl
    · exact h
    · exact h'
  exact ⟨GD.lst this (Nat.le_refl _) hm, GD.tup this (Nat.le_refl _) hm⟩
theorem pen_ext {ow ow' : OW} {n : Nat} {b : Int} (h : PenA ow n b) (k : ∀ i, i < ow.length → ow'[i]? = ow[i]?) : PenA ow' n b := by
  obtain ⟨p, h1, h2⟩ := h
  refine ⟨p, ?_, h2⟩
  unfold lstAt at h1 ⊢
  rw [k n (lstAt_lt (xs := p) h1)]
  exact h1
def lets : Str := "abcdefghijklmnopqrstuvwxyz"
def names52 : List Str := lets.cps.toList.map (fun c => ("a" : Str) ++ (⟨#[c]⟩ : Str)) ++ lets.cps.toList.map (fun c => ("b" : Str) ++ (⟨#[c]⟩ : Str))
def long51 : List Step := (List.range 51).map fun k => ⟨"f", [names52.getD k "", names52.getD 0 ""], names52.getD (k + 1) ""⟩
theorem szb {n : Nat} (h : n ≤ 100) : n ≤ sizeLine := Nat.le_trans h (by decide)
theorem pl_law {rs ow QD QX} (h : sp_law rs ow QD QX) : r_law { nx := fun _ ow' => QD (.d .none) ow', rt := QD } (startR N_law rs) ow := by
  obtain ⟨ns, rfl, rfl, k⟩ := h
  refine ⟨rfl, ns, rfl, fun cells => ?_⟩
  refine ⟨by decide, by decide, ?_⟩
  refine ⟨fun i sl ow' => ∃ e2 e3 e4 e5 e6 e7 e8 e9, sl = [some (.f ns), some (.o 0), e2, e3, e4, e5, e6, e7, e8, e9, none, none, none, none, none] ∧ PenA ow' 0 (300 * i), ?_, ?_, ?_, ?_⟩
  · exact ⟨none, none, none, none, none, none, none, none, rfl, _, rfl, cells, 0, 0, rfl, by decide, by decide, by decide⟩
  · exact fun i sl ow' _ => trivial
  · rintro i r sl ow' hi ⟨e2, e3, e4, e5, e6, e7, e8, e9, rfl, hp⟩
    obtain ⟨hi1, rfl⟩ := rangeR_get hi
    have hi1 : i < 6 := hi1
    refine ⟨rfl, 0, _, rfl, hp, by omega, fun st ow1 hst hsl d1 => ?_⟩
    refine ⟨rfl, 0, _, 13, rfl, d1.2, by omega, by decide, by decide, fun r2 ow2 r20 r21 d2 => ?_⟩
    refine ⟨szr rfl, ?_⟩
    refine ⟨rfl, 0, _, 6, rfl, d2.2, by omega, by decide, by decide, fun r3 ow3 r30 r31 d3 => ?_⟩
    refine ix_l r30 r31 fun d hd => ?_
    have hd2 : ∃ m : Nat, d = .int (m : Int) ∧ m ≤ 12 := by
      have := List.mem_of_getElem? hd
      simp only [List.mem_cons, List.not_mem_nil, or_false] at this
      rcases this with rfl | rfl | rfl | rfl | rfl | rfl
      · exact ⟨0, rfl, by decide⟩
      · exact ⟨1, rfl, by decide⟩
      · exact ⟨2, rfl, by decide⟩
      · exact ⟨5, rfl, by decide⟩
      · exact ⟨12, rfl, by decide⟩
      · exact ⟨r2.toNat, by rw [Int.toNat_of_nonneg r20], by omega⟩
    obtain ⟨m, rfl, hm⟩ := hd2
    refine ⟨rfl, 0, _, st, m, rfl, d3.2, by omega, hsl, hst, by omega, fun ss kn ow4 hsm hS hkl hkn d4 => ?_⟩
    refine ⟨rfl, rfl, ?_⟩
    refine ⟨fun sl ow5 => ∃ tg : List Str, sl = [some (.f ns), some (.o 0), some (.d (.int (0 + (i : Int)))), some (.d (.tuple (st.map PyData.str))), some (.d (.tuple (ss.map dStep))), some (.d (.list (kn.map PyData.str))), some (.d (.tuple (tg.map PyData.str))), e7, e8, e9, none, none, none, none, none] ∧ (∀ x ∈ tg, x ∈ U19) ∧ tg.length ≤ 10 ∧ PenA ow5 0 (300 * ((i + 1 : Nat) : Int)), ?_, ?_⟩
    · refine ⟨rfl, 0, _, kn, rfl, d4.2, by omega, by omega, fun x hx => (hkn x hx).ok, fun tg ow5 htg htl d5 => ?_⟩
      refine ⟨szr rfl, szr rfl, szr rfl, ?_⟩
      refine ⟨rfl, 0, _, 4, rfl, d5.2, by omega, by decide, by decide, fun r6 ow6 r60 r61 d6 => ?_⟩
      refine ⟨trivial, ?_⟩
      have fin : ∀ l : List Str, (∀ x ∈ l, x ∈ U19) → l.length ≤ 2 → ∃ tg2 : List Str, (tg ++ l) = tg2 ∧ (∀ x ∈ tg2, x ∈ U19) ∧ tg2.length ≤ 10 := fun l hl1 hl2 => ⟨_, rfl, fun x hx => by
        rcases List.mem_append.mp hx with hx | hx
        · exact (hkn x (htg x hx)).u
        · exact hl1 x hx, by rw [List.length_append]; omega⟩
      generalize (if false = true then !eqD (PyData.int r6) (PyData.int 0) else eqD (PyData.int r6) (PyData.int 0)) = c
      cases c with
      | false =>
        refine ⟨_, _, rfl, rfl, ?_⟩
        obtain ⟨tg2, e, h1, h2⟩ := fin [] (by decide) (by decide)
        refine ⟨szb (by rw [List.length_map]; show tg.length + 0 ≤ 100; omega), ?_⟩
        exact ⟨tg2, by rw [← e, List.map_append]; rfl, h1, h2, d6.2.le (by omega)⟩
      | true =>
        refine ⟨_, _, rfl, rfl, ?_⟩
        obtain ⟨tg2, e, h1, h2⟩ := fin ["lost", "lost"] (by decide +kernel) (by decide)
        refine ⟨szb (by rw [List.length_map]; show tg.length + 2 ≤ 100; omega), ?_⟩
        exact ⟨tg2, by rw [← e, List.map_append]; rfl, h1, h2, d6.2.le (by omega)⟩
    rintro sl ow5 ⟨tg, rfl, htg, htl, hp5⟩
    have gss := gd_steps hS (by omega)
    have gtg : GD 1020 3 (.tuple (tg.map PyData.str)) := (gd_strs (n := 90) htg htl).mono
    have gpr := (gd_two (m := 2042) gss gtg).2
    refine ⟨szr rfl, ?_⟩
    refine repr_i rfl rfl gpr ?_
    have hss : ss.length ≤ 60 := by omega
    have hargs := fun s hs => (steps_args hS s hs).1
    refine ⟨rfl, ss, tg, rfl, hss, by omega, hargs, fun ow7 h7l h7 => ?_⟩
    have hal := alike (tg := tg) hS.wf
    have hU : U19.length < 60 := by decide +kernel
    refine ⟨rfl, ss, tg, U19, false, rfl, hss, hU, steps_args hS, htg, by omega, fun ow8 h8l h8 => ?_⟩
    refine ⟨rfl, rfl, ss, tg, U19, false, rfl, hss, hU, steps_args hS, htg, by omega, fun ow9 h9l h9 => ?_⟩
    refine ⟨szr rfl, ?_⟩
    have glv := gd_lv hS (by omega) htg htl
    have glv2 := (gd_two (m := 9962) glv glv).1
    refine repr_i (d := .list [.list (dLv (lv ss tg)), .list (dLv (lv ss tg))]) ?_ rfl glv2 ?_
    · show some _ = some _
      rw [hal]
    refine ⟨szr rfl, ?_⟩
    refine repr_i rfl rfl glv2 ?_
    refine ⟨trivial, iteB (fun hne => ?_) (fun _ => ?_)⟩
    · exfalso
      have hne : (!eqD (.str (PyData.shown (.list [.list (dLv (lv ss tg)), .list (dLv (lv ss tg))]))) (.str (PyData.shown (.list [.list (dLv (lv ss tg)), .list (dLv (lv ss tg))])))) = true := hne
      simp [eqD] at hne
    refine ⟨rfl, rfl, ss, [], U19, true, rfl, hss, hU, steps_args hS, fun x hx => by simp at hx, by decide, fun ow10 h10l h10 => ?_⟩
    generalize hno : ow10.length = no
    have l1 : lstAt (ow10 ++ [OD.lst ((dLv (lvR ss.reverse []).reverse).map Rv.d)]) no = some ((dLv (lvR ss.reverse []).reverse).map Rv.d) := by rw [← hno]; exact lstAt_new
    have lln : ((dLv (lvR ss.reverse []).reverse).map Rv.d).length ≤ 12 := by
      rw [alike hS.wf]
      unfold dLv lv
      rw [List.length_map, List.length_map, List.length_map, List.length_range]
      omega
    generalize (dLv (lvR ss.reverse []).reverse).map Rv.d = own at l1 lln
    refine ⟨⟨_, l1⟩, ?_⟩
    refine ⟨szr rfl, ?_⟩
    refine ⟨_, l1, Nat.lt_of_le_of_lt lln (by decide), ?_⟩
    have l1l := lstAt_lt l1
    have l2 := lstAt_set (ow := ow10 ++ [OD.lst own]) (n := no) (xs := own ++ [.d (.tuple [.str ("a" : Str)])]) l1l
    refine ⟨_, 0, l2, ?_, ?_⟩
    · rw [List.length_append]
      show ixN (own.length + 1) 0 = some 0
      unfold ixN
      simp
    rw [List.set_set]
    generalize hw : ((own ++ [Rv.d (.tuple [.str ("a" : Str)])]).set 0 (.d .none)) = own2
    have hp6 : PenA ((ow10 ++ [OD.lst own]).set no (.lst own2)) 0 (300 * ((i + 1 : Nat) : Int)) := by
      have := hp5.lt
      refine pen_ext hp5 fun j hj => ?_
      rw [List.getElem?_set_ne (by omega), List.getElem?_append_left (by omega), h10 j (by omega), h9 j (by omega), h8 j (by omega), h7 j (by omega)]
    generalize ((ow10 ++ [OD.lst own]).set no (.lst own2)) = ow11 at hp6
    refine ⟨rfl, ss, [], U19, false, rfl, hss, hU, steps_args hS, fun x hx => by simp at hx, by decide, fun ow12 h12l h12 => ?_⟩
    have glv0 := gd_lv (tg := []) hS (by omega) (fun x hx => by simp at hx) (by decide)
    refine repr_i (d := .list (dLv (lv ss []))) ?_ rfl glv0 ?_
    · show some _ = some _
      rw [alike hS.wf]
    refine ⟨szr rfl, rfl, ss, [], rfl, hss, by decide, hargs, fun ow13 h13l h13 => ?_⟩
    refine repr_i rfl rfl glv0 ?_
    refine ⟨trivial, iteB (fun hne => ?_) (fun _ => ?_)⟩
    · exfalso
      have hne : (!eqD (.str (PyData.shown (.list (dLv (lv ss []))))) (.str (PyData.shown (.list (dLv (lv ss [])))))) = true := hne
      simp [eqD] at hne
    refine ⟨szr rfl, ?_⟩
    refine repr_i rfl rfl gpr ?_
    refine ⟨trivial, iteB (fun hne => ?_) (fun _ => ?_)⟩
    · exfalso
      have hne : (!eqD (.str (PyData.shown (PyData.tuple [PyData.tuple (List.map dStep ss), PyData.tuple (List.map PyData.str tg)]))) (.str (PyData.shown (PyData.tuple [PyData.tuple (List.map dStep ss), PyData.tuple (List.map PyData.str tg)])))) = true := hne
      simp [eqD] at hne
    refine ⟨_, _, _, _, _, _, _, _, rfl, ?_⟩
    have := hp6.lt
    exact pen_ext hp6 fun j hj => by rw [h13 j (by omega), h12 j (by omega)]
  · rintro sl ow' ⟨e2, e3, e4, e5, e6, e7, e8, e9, rfl, hp⟩
    refine lc_pureP (signsR lets) iaTru lets.cps.toList (fun c => .d (.str ⟨#[c]⟩)) (fun _ => true) (fun c => .str (("a" : Str) ++ (⟨#[c]⟩ : Str))) (fun R hR => hR) rfl trivial (by decide +kernel) (fun c _ K h => h) (fun c _ _ K h => ⟨szr rfl, h⟩) ?_
    refine lc_pureP (signsR lets) iaTru lets.cps.toList (fun c => .d (.str ⟨#[c]⟩)) (fun _ => true) (fun c => .str (("b" : Str) ++ (⟨#[c]⟩ : Str))) (fun R hR => hR) rfl trivial (by decide +kernel) (fun c _ K h => h) (fun c _ _ K h => ⟨szr rfl, h⟩) ?_
    refine ⟨by decide +kernel, ?_⟩
    have e52 : (lets.cps.toList.filter fun _ => true).map (fun c => PyData.str (("a" : Str) ++ (⟨#[c]⟩ : Str))) ++ (lets.cps.toList.filter fun _ => true).map (fun c => PyData.str (("b" : Str) ++ (⟨#[c]⟩ : Str))) = names52.map PyData.str := by
      rw [List.filter_eq_self.mpr fun _ _ => rfl]
      unfold names52
      rw [List.map_append, List.map_map, List.map_map]
      rfl
    rw [e52]
    have n52 : names52.length = 52 := by decide +kernel
    have at52 : ∀ k : Int, 0 ≤ k → k < 52 → atI ((names52.map PyData.str).map Rv.d) k = some (.d (.str (names52.getD k.toNat ""))) := fun k h0 h1 => by
      obtain ⟨x, e1, e2⟩ := atI_nn (l := (names52.map PyData.str).map Rv.d) h0 (by rw [List.length_map, List.length_map, n52]; exact h1)
      rw [e2, ← e1, List.getElem?_map, List.getElem?_map, List.getD_eq_getElem?_getD, List.getElem?_eq_getElem (show k.toNat < names52.length by omega)]
      rfl
    refine lc_pureP (rangeR 0 51) iaTru (List.range 51) (fun k => .d (.int (0 + (k : Int)))) (fun _ => true) (fun k => dStep ⟨"f", [names52.getD k "", names52.getD 0 ""], names52.getD (k + 1) ""⟩) (fun R hR => ⟨by decide, by decide, hR⟩) rfl trivial (by decide +kernel) (fun c _ K h => h) (fun k hk _ K h => ?_) ?_
    · have hk : k < 51 := List.mem_range.mp hk
      refine ⟨_, _, rfl, at52 (0 + (k : Int)) (by omega) (by omega), ?_⟩
      refine ⟨_, _, rfl, at52 0 (by omega) (by omega), ?_⟩
      refine ⟨szr rfl, ?_⟩
      refine ⟨_, _, rfl, at52 (0 + (k : Int) + 1) (by omega) (by omega), ?_⟩
      refine ⟨szr rfl, ?_⟩
      rw [show (0 + (k : Int)).toNat = k by omega, show (0 + (k : Int) + 1).toNat = k + 1 by omega]
      exact h
    refine ⟨_, _, rfl, allD_map _, ?_⟩
    have e51 : ((List.range 51).filter fun _ => true).map (fun k => dStep ⟨"f", [names52.getD k "", names52.getD 0 ""], names52.getD (k + 1) ""⟩) = long51.map dStep := by
      rw [List.filter_eq_self.mpr fun _ _ => rfl]
      unfold long51
      rw [List.map_map]
      rfl
    rw [e51]
    refine ⟨szr rfl, rfl, [], [], [], false, rfl, by decide, by decide, fun s hs => by simp at hs, fun s hs => by simp at hs, by decide, fun ow1 h1l h1 => ?_⟩
    refine ⟨szr rfl, ⟨rfl, rfl⟩, ?_⟩
    refine iteB (fun _ => ?_) (fun hne => by have hne : PyData.eqv (.list []) (.list []) = false := hne; rw [eq_nil] at hne; simp at hne)
    have h51 : ∀ s ∈ long51, s.args.length ≤ 3 ∧ ∀ a ∈ s.args, a ∈ names52 := by decide +kernel
    refine ⟨rfl, long51, [], names52, false, rfl, by decide +kernel, by decide +kernel, h51, fun s hs => by simp at hs, by decide, fun ow2 h2l h2 => ?_⟩
    have ee : PyData.eqv (.list (dLv (lvR long51.reverse []).reverse)) (.list ((List.replicate 50 [PyData.tuple [.str ("aa" : Str)]]).flatten ++ [.tuple []])) = true := by decide +kernel
    have es : SeqAt.shaped (.list (dLv (lvR long51.reverse []).reverse)) = true := by decide +kernel
    have es2 : SeqAt.shaped (.list ((List.replicate 50 [PyData.tuple [.str ("aa" : Str)]]).flatten ++ [.tuple []])) = true := by decide +kernel
    refine ⟨szr rfl, szr rfl, ⟨by decide, by decide, szr rfl⟩, ?_⟩
    refine ⟨szr rfl, szr rfl, ?_⟩
    refine ⟨by decide +kernel, ⟨es, es2⟩, ?_⟩
    have kk := k ow2
    rw [← ee] at kk
    exact kk
theorem sc_law : FnScope N_law ["_law_script"] (defScope s_law) := ⟨rfl, rfl, rfl, by decide +kernel, rfl, by decide +kernel, by decide +kernel⟩
theorem ok_law {P : Program} {w : World} {K : FG} {mg : Str → Option Value} {base : Heap} {f : Addr} {fd : FuncData} (F : FunD K "law" "law" (defArgs s_law) (defBody s_law) (defScope s_law) [] [] f fd) (T : Txt mg) (h__law_draw : DFn P w K mg base false 1 "_law_draw" 2 [] (fun rs _ => rs) sp__law_draw) (h__law_live_due : DFn P w K mg base false 1 "_law_live_due" 2 [] (fun rs _ => rs) sp__law_live_due) (h__law_pen_of : DFn P w K mg base false 1 "_law_pen_of" 1 [] (fun rs _ => rs) sp__law_pen_of) (h__law_start_drawn : DFn P w K mg base false 2 "_law_start_drawn" 1 [] (fun rs _ => rs) sp__law_start_drawn) (h__law_steps_drawn : DFn P w K mg base false 2 "_law_steps_drawn" 3 [] (fun rs _ => rs) sp__law_steps_drawn) (h__law_target_drawn : DFn P w K mg base false 2 "_law_target_drawn" 2 [] (fun rs _ => rs) sp__law_target_drawn) (h_live_values : DFn P w K mg base false 1 "live_values" 2 [] (fun rs _ => rs) sp_live_values) (h_live_values_0_steps : DFn P w K mg base false 1 "live_values" 0 ["steps"] gd_live_values_0_steps sp_live_values) (h_live_values_1 : DFn P w K mg base false 1 "live_values" 1 [] gd_live_values_1 sp_live_values) (h_live_values_1_target : DFn P w K mg base false 1 "live_values" 1 ["target"] gd_live_values_1_target sp_live_values) :
    FnG P w K mg base (L2.CX P w) true 3 f fd ["_law_script"] (lift K sp_law) := by
  refine okD (k := 2) F sc_law len_law fun cdv A outer s H E F0 as rs ow QD QX hr hgd tk h => ⟨r_law, ?_, pl_law h⟩
  have m : Cm (dxOf P w K mg base N_law "law" (defScope s_law) f cdv A outer s H E F0 as).toCx := ⟨rfl, by have := hr.un; show (A.deeper _).units + 150 < cLine; omega⟩
  have sc := sc_law
  exact (db_cons (ds_set (i := 1) sc.nd rfl (Or.inl rfl) (de_call h__law_pen_of (hr.mono (by decide)) (fun z => nomatch z) tk_none rfl (da_cons (dn 0) da_nil)))
    (db_cons (ds_for (passes_of rfl) rfl (di_rng1 rfl T.b_range (da_cons de_int da_nil)) (dg_name (i := 2) sc.nd rfl (Or.inl rfl))
      (db_cons (ds_set (i := 3) sc.nd rfl (Or.inl rfl) (de_call h__law_start_drawn (hr.mono (by decide)) (fun z => nomatch z) tk_none rfl (da_cons (dn 1) da_nil)))
      (db_cons (ds_asg (de_call h__law_steps_drawn (hr.mono (by decide)) (fun z => nomatch z) tk_none rfl (da_cons (dn 1) (da_cons (dn 3) (da_cons (de_ix (de_lst (da_cons de_int (da_cons de_int (da_cons de_int (da_cons de_int (da_cons de_int (da_cons (de_call h__law_draw (hr.mono (by decide)) (fun z => nomatch z) tk_none rfl (da_cons (dn 1) (da_cons de_int da_nil))) da_nil))))))) (de_call h__law_draw (hr.mono (by decide)) (fun z => nomatch z) tk_none rfl (da_cons (dn 1) (da_cons de_int da_nil)))) da_nil)))) (dg_tup rfl (dgs_cons (dg_name (i := 4) sc.nd rfl (Or.inl rfl)) (dgs_cons (dg_name (i := 5) sc.nd rfl (Or.inl rfl)) dgs_nil))))
      (db_cut (ds_set (i := 6) sc.nd rfl (Or.inl rfl) (de_add (de_call h__law_target_drawn (hr.mono (by decide)) (fun z => nomatch z) tk_none rfl (da_cons (dn 1) (da_cons (dn 5) da_nil))) (de_ix (de_lst (da_cons (de_tup da_nil) (da_cons (de_tup (da_cons de_str (da_cons de_str da_nil))) da_nil))) (de_intF rfl T.b_int (da_cons (de_eq m (de_call h__law_draw (hr.mono (by decide)) (fun z => nomatch z) tk_none rfl (da_cons (dn 1) (da_cons de_int da_nil))) de_int) da_nil)))))
      (db_cons (ds_set (i := 7) sc.nd rfl (Or.inl rfl) (de_repr m (hgd rfl) rfl T.b_repr (da_cons (de_tup (da_cons (dn 4) (da_cons (dn 6) da_nil))) da_nil)))
      (db_cons (ds_set (i := 8) sc.nd rfl (Or.inl rfl) (de_call h__law_live_due (hr.mono (by decide)) (fun z => nomatch z) tk_none rfl (da_cons (dn 4) (da_cons (dn 6) da_nil))))
      (db_cons (ds_if (dt_ne m (de_repr m (hgd rfl) rfl T.b_repr (da_cons (de_lst (da_cons (de_call h_live_values (hr.mono (by decide)) (fun z => nomatch z) tk_none rfl (da_cons (dn 4) (da_cons (dn 6) da_nil))) (da_cons (de_callK h_live_values_1_target (hr.mono (by decide)) (fun z => nomatch z) tk_none rfl (da_cons (dn 4) da_nil) (dk_cons (dn 6) dk_nil)) da_nil))) da_nil)) (de_repr m (hgd rfl) rfl T.b_repr (da_cons (de_lst (da_cons (dn 8) (da_cons (dn 8) da_nil))) da_nil)))
        (db_one (ds_ret de_bl))
        db_nil)
      (db_cons (ds_set (i := 9) sc.nd rfl (Or.inl rfl) (de_callK0 h_live_values_0_steps (hr.mono (by decide)) (fun z => nomatch z) tk_none rfl (dk_cons (dn 4) dk_nil)))
      (db_cons (ds_expr (de_app (dn 9) (da_cons (de_tup (da_cons de_str da_nil)) da_nil)))
      (db_cons (ds_setIx de_non (dn 9) de_int (fun _ => rfl))
      (db_one (ds_if (DW.dt (dw_or (dt_ne m (de_repr m (hgd rfl) rfl T.b_repr (da_cons (de_call h_live_values_1 (hr.mono (by decide)) (fun z => nomatch z) tk_none rfl (da_cons (dn 4) da_nil)) da_nil)) (de_repr m (hgd rfl) rfl T.b_repr (da_cons (de_call h__law_live_due (hr.mono (by decide)) (fun z => nomatch z) tk_none rfl (da_cons (dn 4) (da_cons (de_tup da_nil) da_nil))) da_nil))) (dw_or1 (dt_ne m (de_repr m (hgd rfl) rfl T.b_repr (da_cons (de_tup (da_cons (dn 4) (da_cons (dn 6) da_nil))) da_nil)) (dn 7)))))
        (db_one (ds_ret de_bl))
        db_nil))))))))))))
    (db_cons (ds_set (i := 10) sc.nd rfl (Or.inl rfl) de_str)
    (db_cons (ds_set (i := 11) sc.nd rfl (Or.inr rfl) (de_add (de_lcP (de_lc (own := [("_law_one", 12)]) m sc.nd (blkOk_by (N := N_law) (sc := defScope s_law) (by decide +kernel)) (by decide) (di_any (dn 10)) (fun _ _ _ _ _ => pg_name (i := 12) sc.nd rfl (Or.inl rfl) (Or.inr rfl)) DTs.nil (fun _ _ _ _ _ => (de_add de_str (dn 12))))) (de_lcP (de_lc (own := [("_law_one", 12)]) m sc.nd (blkOk_by (N := N_law) (sc := defScope s_law) (by decide +kernel)) (by decide) (di_any (dn 10)) (fun _ _ _ _ _ => pg_name (i := 12) sc.nd rfl (Or.inl rfl) (Or.inr rfl)) DTs.nil (fun _ _ _ _ _ => (de_add de_str (dn 12)))))))
    (db_cons (ds_set (i := 13) sc.nd rfl (Or.inl rfl) (de_tupF rfl T.b_tuple (da_cons (de_lcP (de_lc (own := [("_law_k", 14)]) m sc.nd (blkOk_by (N := N_law) (sc := defScope s_law) (by decide +kernel)) (by decide) (di_rng1 rfl T.b_range (da_cons de_int da_nil)) (fun _ _ _ _ _ => pg_name (i := 14) sc.nd rfl (Or.inl rfl) (Or.inr rfl)) DTs.nil (fun _ _ _ _ _ => (de_tup (da_cons de_str (da_cons (de_tup (da_cons (de_ix (dn 11) (dn 14)) (da_cons (de_ix (dn 11) de_int) da_nil))) (da_cons (de_ix (dn 11) (de_add (dn 14) de_int)) da_nil))))))) da_nil)))
    (db_one (ds_ret (de_and (de_eq m (de_call h_live_values_1 (hr.mono (by decide)) (fun z => nomatch z) tk_none rfl (da_cons (de_tup da_nil) da_nil)) (de_lst da_nil)) (de_one (de_eq m (de_call h_live_values_1 (hr.mono (by decide)) (fun z => nomatch z) tk_none rfl (da_cons (dn 13) da_nil)) (de_add (de_mul (de_lst (da_cons (de_tup (da_cons de_str da_nil)) da_nil)) de_int) (de_lst (da_cons (de_tup da_nil) da_nil)))))))))))))

theorem end_law (ns : List Int) (_ : ns.length ≤ 63) (_ : ∀ z ∈ ns, Builtin.Int.intBits z ≤ 1048576) : sp_law [.f ns] [] (fun r _ => r = .d (.bool true)) fun _ _ _ => False := ⟨ns, rfl, rfl, fun _ => rfl⟩
theorem all_mk {l : PySem.W.OpenLaw} {w : World} {K : FG} {h : Heap} {mg : Str → Option Value} {fa : Addr} (X : K.In h) (G : h.Ns mainGlobals mg) (hfa : mg "law" = some (.ref fa))
    {f0 : Addr} {od0 an0 : Option Addr} {sl0 : Array (Option Value)} {oc0 kV0 dc0 pm0 cd0 ct0 : Value}
    {t0 : Addr}
    {t0_0 : Addr}
    (a0 : PySem.W.nsIn K mainGlobals "live_values" = some (some (.ref f0)))
    (l0 : K.lookup f0 = some ⟨oc0, od0, .func (PySem.W.fnOf "live_values" "live_values" (defArgs s_live_values) (defBody s_live_values) (defScope s_live_values) (.ref t0) kV0 dc0 pm0 an0 cd0 ct0), sl0⟩)
    (c0 : PySem.W.codeIn K cd0 "live_values" = true) (k0 : PySem.W.keepIn K (.ref f0) = true)
    {toc0 : Value} {tod0 : Option Addr} {tn0 : Nat} {tsl0 : Array (Option Value)} (tl0 : K.lookup t0 = some ⟨toc0, tod0, .seq #[.ref t0_0] tn0, tsl0⟩)
    {od0_0 : Option Addr} {n0_0 : Nat} {sl0_0 : Array (Option Value)} (tl0_0 : K.lookup t0_0 = some ⟨.type "tuple", od0_0, .seq #[] n0_0, sl0_0⟩)
    {f1 : Addr} {od1 an1 : Option Addr} {sl1 : Array (Option Value)} {oc1 kV1 dc1 pm1 cd1 ct1 : Value}
    (a1 : PySem.W.nsIn K mainGlobals "_law_pen_of" = some (some (.ref f1)))
    (l1 : K.lookup f1 = some ⟨oc1, od1, .func (PySem.W.fnOf "_law_pen_of" "_law_pen_of" (defArgs s__law_pen_of) (defBody s__law_pen_of) (defScope s__law_pen_of) .none kV1 dc1 pm1 an1 cd1 ct1), sl1⟩)
    (c1 : PySem.W.codeIn K cd1 "_law_pen_of" = true) (k1 : PySem.W.keepIn K (.ref f1) = true)
    {f2 : Addr} {od2 an2 : Option Addr} {sl2 : Array (Option Value)} {oc2 kV2 dc2 pm2 cd2 ct2 : Value}
    (a2 : PySem.W.nsIn K mainGlobals "_law_draw" = some (some (.ref f2)))
    (l2 : K.lookup f2 = some ⟨oc2, od2, .func (PySem.W.fnOf "_law_draw" "_law_draw" (defArgs s__law_draw) (defBody s__law_draw) (defScope s__law_draw) .none kV2 dc2 pm2 an2 cd2 ct2), sl2⟩)
    (c2 : PySem.W.codeIn K cd2 "_law_draw" = true) (k2 : PySem.W.keepIn K (.ref f2) = true)
    {f3 : Addr} {od3 an3 : Option Addr} {sl3 : Array (Option Value)} {oc3 kV3 dc3 pm3 cd3 ct3 : Value}
    (a3 : PySem.W.nsIn K mainGlobals "_law_steps_drawn" = some (some (.ref f3)))
    (l3 : K.lookup f3 = some ⟨oc3, od3, .func (PySem.W.fnOf "_law_steps_drawn" "_law_steps_drawn" (defArgs s__law_steps_drawn) (defBody s__law_steps_drawn) (defScope s__law_steps_drawn) .none kV3 dc3 pm3 an3 cd3 ct3), sl3⟩)
    (c3 : PySem.W.codeIn K cd3 "_law_steps_drawn" = true) (k3 : PySem.W.keepIn K (.ref f3) = true)
    {f4 : Addr} {od4 an4 : Option Addr} {sl4 : Array (Option Value)} {oc4 kV4 dc4 pm4 cd4 ct4 : Value}
    (a4 : PySem.W.nsIn K mainGlobals "_law_target_drawn" = some (some (.ref f4)))
    (l4 : K.lookup f4 = some ⟨oc4, od4, .func (PySem.W.fnOf "_law_target_drawn" "_law_target_drawn" (defArgs s__law_target_drawn) (defBody s__law_target_drawn) (defScope s__law_target_drawn) .none kV4 dc4 pm4 an4 cd4 ct4), sl4⟩)
    (c4 : PySem.W.codeIn K cd4 "_law_target_drawn" = true) (k4 : PySem.W.keepIn K (.ref f4) = true)
    {f5 : Addr} {od5 an5 : Option Addr} {sl5 : Array (Option Value)} {oc5 kV5 dc5 pm5 cd5 ct5 : Value}
    (a5 : PySem.W.nsIn K mainGlobals "_law_start_drawn" = some (some (.ref f5)))
    (l5 : K.lookup f5 = some ⟨oc5, od5, .func (PySem.W.fnOf "_law_start_drawn" "_law_start_drawn" (defArgs s__law_start_drawn) (defBody s__law_start_drawn) (defScope s__law_start_drawn) .none kV5 dc5 pm5 an5 cd5 ct5), sl5⟩)
    (c5 : PySem.W.codeIn K cd5 "_law_start_drawn" = true) (k5 : PySem.W.keepIn K (.ref f5) = true)
    {f6 : Addr} {od6 an6 : Option Addr} {sl6 : Array (Option Value)} {oc6 kV6 dc6 pm6 cd6 ct6 : Value}
    (a6 : PySem.W.nsIn K mainGlobals "_law_live_due" = some (some (.ref f6)))
    (l6 : K.lookup f6 = some ⟨oc6, od6, .func (PySem.W.fnOf "_law_live_due" "_law_live_due" (defArgs s__law_live_due) (defBody s__law_live_due) (defScope s__law_live_due) .none kV6 dc6 pm6 an6 cd6 ct6), sl6⟩)
    (c6 : PySem.W.codeIn K cd6 "_law_live_due" = true) (k6 : PySem.W.keepIn K (.ref f6) = true)
    {f7 : Addr} {od7 an7 : Option Addr} {sl7 : Array (Option Value)} {oc7 kV7 dc7 pm7 cd7 ct7 : Value}
    (a7 : PySem.W.nsIn K mainGlobals "law" = some (some (.ref f7)))
    (l7 : K.lookup f7 = some ⟨oc7, od7, .func (PySem.W.fnOf "law" "law" (defArgs s_law) (defBody s_law) (defScope s_law) .none kV7 dc7 pm7 an7 cd7 ct7), sl7⟩)
    (c7 : PySem.W.codeIn K cd7 "law" = true) (k7 : PySem.W.keepIn K (.ref f7) = true)
    (z_tuple : PySem.W.nsIn K mainGlobals "tuple" = some none)
    (z_sorted : PySem.W.nsIn K mainGlobals "sorted" = some none)
    (z_list : PySem.W.nsIn K mainGlobals "list" = some none)
    (z_len : PySem.W.nsIn K mainGlobals "len" = some none)
    (z_abs : PySem.W.nsIn K mainGlobals "abs" = some none)
    (z_set : PySem.W.nsIn K mainGlobals "set" = some none)
    (z_range : PySem.W.nsIn K mainGlobals "range" = some none)
    (z_int : PySem.W.nsIn K mainGlobals "int" = some none)
    (z_repr : PySem.W.nsIn K mainGlobals "repr" = some none) :
    ∃ fd : FuncData, (∀ (s : Shared) (v : Value), BindsTo s fd ⟨[v], []⟩ [("_law_script", v)]) ∧ ∀ base : Heap, K.In base → base.Ns mainGlobals mg → FnG l.prog w K mg base (L2.CX l.prog w) true 3 fa fd ["_law_script"] (lift K sp_law) := by
  have e := hfa.symm.trans (PySem.W.mg_of X G a7)
  have e2 : f7 = fa := by
    cases e
    rfl
  subst e2
  have T : Txt mg := ⟨PySem.W.mg_none_of X G z_tuple, PySem.W.mg_none_of X G z_sorted, PySem.W.mg_none_of X G z_list, PySem.W.mg_none_of X G z_len, PySem.W.mg_none_of X G z_abs, PySem.W.mg_none_of X G z_set, PySem.W.mg_none_of X G z_range, PySem.W.mg_none_of X G z_int, PySem.W.mg_none_of X G z_repr⟩
  have F0 : FunD K "live_values" "live_values" (defArgs s_live_values) (defBody s_live_values) (defScope s_live_values) [.ref t0_0] [] f0 _ := ⟨⟨oc0, od0, _, kV0, dc0, pm0, an0, cd0, ct0, sl0, rfl, l0, c0, .inr ⟨by simp, t0, _, [.ref t0_0], tn0, rfl, tl0, rfl, (.cons rfl .nil)⟩, .inl rfl⟩, k0⟩
  have F1 : FunD K "_law_pen_of" "_law_pen_of" (defArgs s__law_pen_of) (defBody s__law_pen_of) (defScope s__law_pen_of) [] [] f1 _ := ⟨⟨oc1, od1, _, kV1, dc1, pm1, an1, cd1, ct1, sl1, rfl, l1, c1, .inl ⟨rfl, rfl⟩, .inl rfl⟩, k1⟩
  have F2 : FunD K "_law_draw" "_law_draw" (defArgs s__law_draw) (defBody s__law_draw) (defScope s__law_draw) [] [] f2 _ := ⟨⟨oc2, od2, _, kV2, dc2, pm2, an2, cd2, ct2, sl2, rfl, l2, c2, .inl ⟨rfl, rfl⟩, .inl rfl⟩, k2⟩
  have F3 : FunD K "_law_steps_drawn" "_law_steps_drawn" (defArgs s__law_steps_drawn) (defBody s__law_steps_drawn) (defScope s__law_steps_drawn) [] [] f3 _ := ⟨⟨oc3, od3, _, kV3, dc3, pm3, an3, cd3, ct3, sl3, rfl, l3, c3, .inl ⟨rfl, rfl⟩, .inl rfl⟩, k3⟩
  have F4 : FunD K "_law_target_drawn" "_law_target_drawn" (defArgs s__law_target_drawn) (defBody s__law_target_drawn) (defScope s__law_target_drawn) [] [] f4 _ := ⟨⟨oc4, od4, _, kV4, dc4, pm4, an4, cd4, ct4, sl4, rfl, l4, c4, .inl ⟨rfl, rfl⟩, .inl rfl⟩, k4⟩
  have F5 : FunD K "_law_start_drawn" "_law_start_drawn" (defArgs s__law_start_drawn) (defBody s__law_start_drawn) (defScope s__law_start_drawn) [] [] f5 _ := ⟨⟨oc5, od5, _, kV5, dc5, pm5, an5, cd5, ct5, sl5, rfl, l5, c5, .inl ⟨rfl, rfl⟩, .inl rfl⟩, k5⟩
  have F6 : FunD K "_law_live_due" "_law_live_due" (defArgs s__law_live_due) (defBody s__law_live_due) (defScope s__law_live_due) [] [] f6 _ := ⟨⟨oc6, od6, _, kV6, dc6, pm6, an6, cd6, ct6, sl6, rfl, l6, c6, .inl ⟨rfl, rfl⟩, .inl rfl⟩, k6⟩
  have F7 : FunD K "law" "law" (defArgs s_law) (defBody s_law) (defScope s_law) [] [] f7 _ := ⟨⟨oc7, od7, _, kV7, dc7, pm7, an7, cd7, ct7, sl7, rfl, l7, c7, .inl ⟨rfl, rfl⟩, .inl rfl⟩, k7⟩
  refine ⟨PySem.W.fnOf "law" "law" (defArgs s_law) (defBody s_law) (defScope s_law) .none kV7 dc7 pm7 an7 cd7 ct7, fun s v => .of_eq rfl, fun base _ _ => ?_⟩
  have h__law_draw : DFn l.prog w K mg base false 1 "_law_draw" 2 [] (fun rs _ => rs) sp__law_draw := ⟨_, _, _, ok__law_draw F2 T , PySem.W.mg_of X G a2, k2, DBn.all fun us hl => match us, hl with | [_, _], _ => rfl⟩
  have h__law_live_due : DFn l.prog w K mg base false 1 "_law_live_due" 2 [] (fun rs _ => rs) sp__law_live_due := ⟨_, _, _, ok__law_live_due F6 T , PySem.W.mg_of X G a6, k6, DBn.all fun us hl => match us, hl with | [_, _], _ => rfl⟩
  have h__law_pen_of : DFn l.prog w K mg base false 1 "_law_pen_of" 1 [] (fun rs _ => rs) sp__law_pen_of := ⟨_, _, _, ok__law_pen_of F1 T , PySem.W.mg_of X G a1, k1, DBn.all fun us hl => match us, hl with | [_], _ => rfl⟩
  have h__law_start_drawn : DFn l.prog w K mg base false 2 "_law_start_drawn" 1 [] (fun rs _ => rs) sp__law_start_drawn := ⟨_, _, _, ok__law_start_drawn F5 T h__law_draw, PySem.W.mg_of X G a5, k5, DBn.all fun us hl => match us, hl with | [_], _ => rfl⟩
  have h__law_steps_drawn : DFn l.prog w K mg base false 2 "_law_steps_drawn" 3 [] (fun rs _ => rs) sp__law_steps_drawn := ⟨_, _, _, ok__law_steps_drawn F3 T h__law_draw, PySem.W.mg_of X G a3, k3, DBn.all fun us hl => match us, hl with | [_, _, _], _ => rfl⟩
  have h__law_target_drawn : DFn l.prog w K mg base false 2 "_law_target_drawn" 2 [] (fun rs _ => rs) sp__law_target_drawn := ⟨_, _, _, ok__law_target_drawn F4 T h__law_draw, PySem.W.mg_of X G a4, k4, DBn.all fun us hl => match us, hl with | [_, _], _ => rfl⟩
  have h_live_values : DFn l.prog w K mg base false 1 "live_values" 2 [] (fun rs _ => rs) sp_live_values := ⟨_, _, _, ok_live_values F0 T , PySem.W.mg_of X G a0, k0, kbinds1 F0 2 [] (fun vs _ _ => vs) (by simp) (by intro _ _ G _ _ _ _ _ _ h1 h2 h3; exact h1) (fun F as => .cons (show RvOk _ F as _ (.d (.tuple [])) from dd_nilK tl0_0 rfl rfl F) .nil) fun T kV doc pm an cdv ct us its ws hu hi hw => match us, its, ws, hu, hi, hw with | [_, _], [_], [], _, _, _ => ⟨_, rfl, rfl⟩⟩
  have h_live_values_0_steps : DFn l.prog w K mg base false 1 "live_values" 0 ["steps"] gd_live_values_0_steps sp_live_values := ⟨_, _, _, ok_live_values F0 T , PySem.W.mg_of X G a0, k0, kbinds1 F0 0 ["steps"] (fun _ ds zs => zs ++ ds) (by simp) (by intro _ _ G _ _ _ _ _ _ h1 h2 h3; exact Paired.app2 h3 h2) (fun F as => .cons (show RvOk _ F as _ (.d (.tuple [])) from dd_nilK tl0_0 rfl rfl F) .nil) fun T kV doc pm an cdv ct us its ws hu hi hw => match us, its, ws, hu, hi, hw with | [], [_], [_], _, _, _ => ⟨_, rfl, rfl⟩⟩
  have h_live_values_1 : DFn l.prog w K mg base false 1 "live_values" 1 [] gd_live_values_1 sp_live_values := ⟨_, _, _, ok_live_values F0 T , PySem.W.mg_of X G a0, k0, kbinds1 F0 1 [] (fun vs ds _ => vs ++ ds) (by simp) (by intro _ _ G _ _ _ _ _ _ h1 h2 h3; exact Paired.app2 h1 h2) (fun F as => .cons (show RvOk _ F as _ (.d (.tuple [])) from dd_nilK tl0_0 rfl rfl F) .nil) fun T kV doc pm an cdv ct us its ws hu hi hw => match us, its, ws, hu, hi, hw with | [_], [_], [], _, _, _ => ⟨_, rfl, rfl⟩⟩
  have h_live_values_1_target : DFn l.prog w K mg base false 1 "live_values" 1 ["target"] gd_live_values_1_target sp_live_values := ⟨_, _, _, ok_live_values F0 T , PySem.W.mg_of X G a0, k0, kbinds1 F0 1 ["target"] (fun vs _ zs => vs ++ zs) (by simp) (by intro _ _ G _ _ _ _ _ _ h1 h2 h3; exact Paired.app2 h1 h3) (fun F as => .cons (show RvOk _ F as _ (.d (.tuple [])) from dd_nilK tl0_0 rfl rfl F) .nil) fun T kV doc pm an cdv ct us its ws hu hi hw => match us, its, ws, hu, hi, hw with | [_], [_], [_], _, _, _ => ⟨_, rfl, rfl⟩⟩
  exact ok_law F7 T h__law_draw h__law_live_due h__law_pen_of h__law_start_drawn h__law_steps_drawn h__law_target_drawn h_live_values h_live_values_0_steps h_live_values_1 h_live_values_1_target
end K68
open PySem PySem.W PyProof.Rows
set_option maxRecDepth 100000 in
set_option maxHeartbeats 0 in
theorem PySem.Challenge.cw_deepedge_k68_live_values_holds : PySem.Challenge.rw_deepedge_k68_live_values.Holds := by
  w_on; o_law; k_head; (case hw => w_witness2)
  k_fill
  refine DL.walk_d (l := PySem.Challenge.rw_deepedge_k68_live_values) (n := 63) (k := 3) (x := "_law_script") (S := K68.sp_law) rfl (by decide) rfl ⟨rfl, by decide, by decide⟩ (fun w h Y => PySem.W.kIn_of Y) ?F (fun ns hl hb => K68.end_law ns hl hb)
  case F =>
    intro w mg fa h KX G hmg
    refine' K68.all_mk KX G hmg ?a0 ?l0 ?c0 ?k0 ?tl0 ?tl0_0 ?a1 ?l1 ?c1 ?k1 ?a2 ?l2 ?c2 ?k2 ?a3 ?l3 ?c3 ?k3 ?a4 ?l4 ?c4 ?k4 ?a5 ?l5 ?c5 ?k5 ?a6 ?l6 ?c6 ?k6 ?a7 ?l7 ?c7 ?k7 ?z_tuple ?z_sorted ?z_list ?z_len ?z_abs ?z_set ?z_range ?z_int ?z_repr
    (case a0 => k_is)
    (case l0 => k_is)
    (case c0 => k_is)
    (case k0 => k_is)
    (case tl0 => k_is)
    (case tl0_0 => k_is)
    (case a1 => k_is)
    (case l1 => k_is)
    (case c1 => k_is)
    (case k1 => k_is)
    (case a2 => k_is)
    (case l2 => k_is)
    (case c2 => k_is)
    (case k2 => k_is)
    (case a3 => k_is)
    (case l3 => k_is)
    (case c3 => k_is)
    (case k3 => k_is)
    (case a4 => k_is)
    (case l4 => k_is)
    (case c4 => k_is)
    (case k4 => k_is)
    (case a5 => k_is)
    (case l5 => k_is)
    (case c5 => k_is)
    (case k5 => k_is)
    (case a6 => k_is)
    (case l6 => k_is)
    (case c6 => k_is)
    (case k6 => k_is)
    (case a7 => k_is)
    (case l7 => k_is)
    (case c7 => k_is)
    (case k7 => k_is)
    (case z_tuple => k_is)
    (case z_sorted => k_is)
    (case z_list => k_is)
    (case z_len => k_is)
    (case z_abs => k_is)
    (case z_set => k_is)
    (case z_range => k_is)
    (case z_int => k_is)
    (case z_repr => k_is)
end
