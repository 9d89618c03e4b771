import PyProof.Rows.All
import Wide.All
import OpenK.AllK
import Wide.FinOn
import HandS.ForMost
import HandS.Star
import HandS.Strs
import HandS.SetFor
import HandS.TupSets
import HandS.IsInst
import HandS.Deep
import HandS.Defaults
import HandS.Nested
import HandS.TupAny
import KE.SortData
import KE.DataMinMax
import KE.KTupSum
import KE.GoesEnum
import KE.KStateDown
import HandS.Base
import HandS.Call
import HandS.Ends
import HandS.More
import HandS.Words
import HandS.WordsExc
import HandS.Head0
import HandS.Head1
import HandS.Head2
import HandS.HeadEnd
import HandS.HeadHook1
import HandS.HeadHook2
import HandS.HeadHook3
import HandS.HeadHook4
import HandS.Lambda
import HandS.CallLocal
import KE.KLam
import KE.KNest
import HandS.HeadWalk
import PySem.Challenge.RW_introducers_k95_whole_greedy_rows
/-! part DwA -/
set_option Elab.async false
set_option linter.all false
set_option maxRecDepth 100000
set_option maxHeartbeats 4000000
/-! A layer of data over the hand layer: slots hold immutable data or one's own lists of such; no heap is seen. -/
namespace Dw
open PySem PySem.Spec PyProof.Rows L2

/-! ### immutable data -/
mutual
def imm : PyData → Bool
  | .none => true
  | .bool _ => true
  | .int _ => true
  | .str _ => true
  | .tuple xs => immAll xs
  | .list _ => false
  | .dict _ => false
def immAll : List PyData → Bool
  | [] => true
  | x :: xs => imm x && immAll xs
end
theorem immAll_append : ∀ {xs ys : List PyData}, immAll (xs ++ ys) = (immAll xs && immAll ys)
  | [], ys => by simp [immAll]
  | x :: xs, ys => by
    rw [List.cons_append]
    show (imm x && immAll (xs ++ ys)) = ((imm x && immAll xs) && immAll ys)
    rw [immAll_append, Bool.and_assoc]
theorem immAll_iff : ∀ {xs : List PyData}, immAll xs = true ↔ ∀ x ∈ xs, imm x = true
  | [] => by simp [immAll]
  | x :: xs => by
    show (imm x && immAll xs) = true ↔ _
    rw [Bool.and_eq_true, immAll_iff (xs := xs)]
    simp
theorem immAll_map {α : Type} {f : α → PyData} (h : ∀ a, imm (f a) = true) (xs : List α) : immAll (xs.map f) = true := immAll_iff.mpr fun x hx => by
  obtain ⟨a, _, rfl⟩ := List.mem_map.mp hx
  exact h a
theorem imm_tup_map {α : Type} {f : α → PyData} (h : ∀ a, imm (f a) = true) (xs : List α) : imm (.tuple (xs.map f)) = true := immAll_map h xs

/-! ### what a slot holds -/
inductive W where
  | d (x : PyData)
  | l (xs : List PyData)
def W.isL : W → Bool
  | .d _ => false
  | .l _ => true

section
variable {T : List NdefX.NTab} {K : PySem.W.Frag}
/-- all that is known stays, but for the tables of code objects -/
structure Ext (T : List NdefX.NTab) (H H' : Hp) : Prop where
  kp : ∀ b o, H b = some o → (∀ ps, o ≠ .tbl ps) → H' b = some o
  dm : ∀ b, H' b = none → H b = none
  tb : NdefX.TabsN T H → NdefX.TabsN T H'
theorem Ext.refl (H : Hp) : Ext T H H := ⟨fun _ _ h _ => h, fun _ h => h, fun h => h⟩
theorem Ext.trans {H H1 H2 : Hp} (a : Ext T H H1) (b : Ext T H1 H2) : Ext T H H2 :=
  ⟨fun c o h n => b.kp c o (a.kp c o h n) n, fun c h => a.dm c (b.dm c h), fun h => b.tb (a.tb h)⟩
theorem Ext.of {H H' : Hp} (e : ∀ b o, H b = some o → H' b = some o) : Ext T H H' := by
  refine ⟨fun b o h _ => e b o h, fun b h => ?_, fun h => h.ext e⟩
  cases q : H b with
  | none => rfl
  | some o =>
    rw [e b o q] at h
    cases h
theorem Ext.new {H : Hp} {p : Addr} {o : HO} (h : H p = none) : Ext T H (upd H p o) := Ext.of fun b u e => by
  rw [upd_ne (ne_of_none e h)]
  exact e
theorem tabs_lst {H : Hp} {p : Addr} {xs : List V} {o : HO} (h : H p = some (.lst xs)) (t : NdefX.TabsN T H) : NdefX.TabsN T (upd H p o) := fun q hq => by
  obtain ⟨ps, hP, tr, hc⟩ := t q hq
  refine ⟨ps, ?_, tr, fun pos cv e => ?_⟩
  · rw [upd_ne (ne_of hP h (fun z => nomatch z))]
    exact hP
  · obtain ⟨c, e1, e2⟩ := hc pos cv e
    refine ⟨c, e1, ?_⟩
    rw [upd_ne (ne_of e2 h (fun z => nomatch z))]
    exact e2
theorem Ext.mut {H H' : Hp} {p : Addr} {xs : List V} {o : HO} (e : Ext T H H') (h : H p = none) (hl : H' p = some (.lst xs)) : Ext T H (upd H' p o) := by
  refine ⟨fun a u ha n => ?_, fun a ha => ?_, fun t => tabs_lst hl (e.tb t)⟩
  · rw [upd_ne (ne_of_none ha h)]
    exact e.kp a u ha n
  · by_cases q : a = p
    · rw [q]
      exact h
    · rw [upd_ne q] at ha
      exact e.dm a ha
theorem Ext.lst {H H' : Hp} {p : Addr} {xs : List V} (e : Ext T H H') (h : H p = some (.lst xs)) : H' p = some (.lst xs) := e.kp p _ h fun _ z => nomatch z
theorem Ext.sqT {H H' : Hp} {p : Addr} {xs : List V} (e : Ext T H H') (h : SqT K H p xs) : SqT K H' p xs := by
  rcases h with (h | ⟨o, h⟩) | h
  · exact .inl (.inl (e.kp _ _ h fun _ z => nomatch z))
  · exact .inl (.inr ⟨o, e.kp _ _ h fun _ z => nomatch z⟩)
  · exact .inr h
theorem Ext.sqL {H H' : Hp} {p : Addr} {xs : List V} (e : Ext T H H') (h : SqL K H p xs) : SqL K H' p xs := by
  rcases h with (h | ⟨o, h⟩) | h
  · exact .inl (.inl (e.kp _ _ h fun _ z => nomatch z))
  · exact .inl (.inr ⟨o, e.kp _ _ h fun _ z => nomatch z⟩)
  · exact .inr h

/-! ### data under a change of the heap: the tuples stay -/
/-- the tuples of H stand in H' -/
def TupE (K : PySem.W.Frag) (H H' : Hp) : Prop := ∀ a xs, SqT K H a xs → SqT K H' a xs
mutual
theorem Dp.tups {H H' : Hp} (k : TupE K H H') : ∀ (d : PyData) (v : V), imm d = true → Dp K H v d → Dp K H' v d
  | .none, _, _, h => by
    cases h
    exact .non
  | .bool b, _, _, h => by
    cases h
    exact .bl b
  | .int i, _, _, h => by
    cases h
    exact .int i
  | .str x, _, _, h => by
    cases h
    exact .str x
  | .list ds, _, i, _ => by
    exact absurd i (by simp [imm])
  | .dict ds, _, i, _ => by
    exact absurd i (by simp [imm])
  | .tuple ds, _, i, h => by
    cases h with
    | tup hs ha => exact .tup (k _ _ hs) (DpAll.tups k ds _ i ha)
theorem DpAll.tups {H H' : Hp} (k : TupE K H H') : ∀ (ds : List PyData) (vs : List V), immAll ds = true → DpAll K H vs ds → DpAll K H' vs ds
  | [], _, _, h => by
    cases h
    exact .nil
  | d :: ds, _, i, h => by
    cases h with
    | cons h1 h2 =>
      have i2 : (imm d && immAll ds) = true := i
      rw [Bool.and_eq_true] at i2
      exact .cons (Dp.tups k d _ i2.1 h1) (DpAll.tups k ds _ i2.2 h2)
end
theorem Ext.tupE {H H' : Hp} (e : Ext T H H') : TupE K H H' := fun _ _ h => e.sqT h
theorem tupE_lst {H : Hp} {p : Addr} {xs : List V} {o : HO} (h : H p = some (.lst xs)) : TupE K H (upd H p o) := fun a ys ht => by
  rcases ht with (q | ⟨u, q⟩) | q
  · refine .inl (.inl ?_)
    rw [upd_ne (ne_of q h (fun z => nomatch z))]
    exact q
  · refine .inl (.inr ⟨u, ?_⟩)
    rw [upd_ne (ne_of q h (fun z => nomatch z))]
    exact q
  · exact .inr q
theorem DpAll.length {H : Hp} : ∀ {vs : List V} {ds : List PyData}, DpAll K H vs ds → vs.length = ds.length
  | _, _, .nil => rfl
  | _, _, .cons _ t => congrArg Nat.succ (DpAll.length t)
theorem DpAll.get {H : Hp} : ∀ {vs : List V} {ds : List PyData} {i : Nat} {d : PyData}, DpAll K H vs ds → ds[i]? = some d → ∃ v, vs[i]? = some v ∧ Dp K H v d
  | _, _, _, _, .nil, h => by simp at h
  | _, _, 0, d, .cons h _, e => by
    simp at e
    subst e
    exact ⟨_, rfl, h⟩
  | _, _, i + 1, d, .cons _ t, e => by
    obtain ⟨v, h1, h2⟩ := DpAll.get (i := i) (d := d) t (by simpa using e)
    exact ⟨v, by simpa using h1, h2⟩
theorem DpAll.getV {H : Hp} : ∀ {vs : List V} {ds : List PyData} {i : Nat} {v : V}, DpAll K H vs ds → vs[i]? = some v → ∃ d, ds[i]? = some d ∧ Dp K H v d
  | _, _, _, _, .nil, h => by simp at h
  | _, _, 0, d, .cons h _, e => by
    simp at e
    subst e
    exact ⟨_, rfl, h⟩
  | _, _, i + 1, d, .cons _ t, e => by
    obtain ⟨v, h1, h2⟩ := DpAll.getV (i := i) (v := d) t (by simpa using e)
    exact ⟨v, by simpa using h1, h2⟩
theorem DpAll.append {H : Hp} : ∀ {vs us : List V} {ds es : List PyData}, DpAll K H vs ds → DpAll K H us es → DpAll K H (vs ++ us) (ds ++ es)
  | _, _, _, _, .nil, h => h
  | _, _, _, _, .cons h t, g => .cons h (DpAll.append t g)
theorem DpAll.take {H : Hp} : ∀ {vs : List V} {ds : List PyData} (n : Nat), DpAll K H vs ds → DpAll K H (vs.take n) (ds.take n)
  | _, _, 0, _ => .nil
  | _, _, _ + 1, .nil => .nil
  | _, _, n + 1, .cons h t => .cons h (DpAll.take n t)
theorem DpAll.drop {H : Hp} : ∀ {vs : List V} {ds : List PyData} (n : Nat), DpAll K H vs ds → DpAll K H (vs.drop n) (ds.drop n)
  | _, _, 0, h => h
  | _, _, _ + 1, .nil => .nil
  | _, _, n + 1, .cons _ t => DpAll.drop n t
theorem DpAll.set {H : Hp} {v : V} {d : PyData} (h : Dp K H v d) : ∀ {vs : List V} {ds : List PyData} (n : Nat), DpAll K H vs ds → DpAll K H (vs.set n v) (ds.set n d)
  | _, _, _, .nil => .nil
  | _, _, 0, .cons _ t => .cons h t
  | _, _, n + 1, .cons q t => .cons q (DpAll.set h n t)
theorem DpAll.ints {H : Hp} : ∀ {vs : List V} {ns : List Int}, DpAll K H vs (ns.map .int) → vs = ns.map V.int
  | _, [], .nil => rfl
  | _, n :: ns, .cons h t => by
    cases h
    rw [DpAll.ints t]
    rfl
theorem dpAll_ints {H : Hp} : ∀ (ns : List Int), DpAll K H (ns.map V.int) (ns.map .int)
  | [] => .nil
  | n :: ns => .cons (.int n) (dpAll_ints ns)
theorem DpAll.strs {H : Hp} : ∀ {vs : List V} {ns : List Str}, DpAll K H vs (ns.map .str) → vs = ns.map V.str
  | _, [], .nil => rfl
  | _, n :: ns, .cons h t => by
    cases h
    rw [DpAll.strs t]
    rfl
theorem dpAll_strs {H : Hp} : ∀ (ns : List Str), DpAll K H (ns.map V.str) (ns.map .str)
  | [] => .nil
  | n :: ns => .cons (.str n) (dpAll_strs ns)
theorem DpAll.bls {H : Hp} : ∀ {vs : List V} {ns : List Bool}, DpAll K H vs (ns.map .bool) → vs = ns.map V.bl
  | _, [], .nil => rfl
  | _, n :: ns, .cons h t => by
    cases h
    rw [DpAll.bls t]
    rfl
theorem immAll_get {ds : List PyData} {i : Nat} {d : PyData} (h : immAll ds = true) (e : ds[i]? = some d) : imm d = true := immAll_iff.mp h d (List.mem_of_getElem? e)

/-! ### a value for what a slot holds -/
def RW (K : PySem.W.Frag) (H : Hp) (v : V) : W → Prop
  | .d x => imm x = true ∧ Dp K H v x
  | .l xs => ∃ p vs, v = .ref p ∧ H p = some (.lst vs) ∧ DpAll K H vs xs ∧ immAll xs = true
theorem RW.ext {H H' : Hp} {v : V} {w : W} (h : RW K H v w) (e : Ext T H H') : RW K H' v w := by
  cases w with
  | d x => exact ⟨h.1, Dp.tups e.tupE _ _ h.1 h.2⟩
  | l xs =>
    obtain ⟨p, vs, e1, e2, e3, e4⟩ := h
    exact ⟨p, vs, e1, e.lst e2, DpAll.tups e.tupE _ _ e4 e3, e4⟩
inductive RWs (K : PySem.W.Frag) (H : Hp) : List V → List W → Prop
  | nil : RWs K H [] []
  | cons {v : V} {vs : List V} {w : W} {ws : List W} : RW K H v w → RWs K H vs ws → RWs K H (v :: vs) (w :: ws)
theorem RWs.ext {H H' : Hp} (e : Ext T H H') : ∀ {vs : List V} {ws : List W}, RWs K H vs ws → RWs K H' vs ws
  | _, _, .nil => .nil
  | _, _, .cons h t => .cons (h.ext e) (RWs.ext e t)
theorem RWs.length {H : Hp} : ∀ {vs : List V} {ws : List W}, RWs K H vs ws → vs.length = ws.length
  | _, _, .nil => rfl
  | _, _, .cons _ t => congrArg Nat.succ (RWs.length t)
theorem RWs.get {H : Hp} : ∀ {vs : List V} {ws : List W} {i : Nat} {w : W}, RWs K H vs ws → ws[i]? = some w → ∃ v, vs[i]? = some v ∧ RW K H v w
  | _, _, _, _, .nil, h => by simp at h
  | _, _, 0, d, .cons h _, e => by
    simp at e
    subst e
    exact ⟨_, rfl, h⟩
  | _, _, i + 1, d, .cons _ t, e => by
    obtain ⟨v, h1, h2⟩ := RWs.get (i := i) (w := d) t (by simpa using e)
    exact ⟨v, by simpa using h1, h2⟩

/-! ### the slots -/
abbrev Rho := List (Option (W × Bool))
structure RepS (T : List NdefX.NTab) (K : PySem.W.Frag) (H0 H : Hp) (σ : L2.St) (ρ : Rho) : Prop where
  ex : Ext T H0 H
  tb : NdefX.TabsN T H
  len : σ.length = ρ.length
  at_ : ∀ (i : Nat) (w : W) (o : Bool), ρ[i]? = some (some (w, o)) → ∃ v, σ[i]? = some (some v) ∧ RW K H v w ∧ (w.isL = true → (o = true → ∀ p, v = .ref p → H0 p = none) ∧ (o = false → RW K H0 v w))
  sep : ∀ (i j : Nat) (xs ys : List PyData) (p : Addr), ρ[i]? = some (some (.l xs, true)) → ρ[j]? = some (some (.l ys, true)) → σ[i]? = some (some (.ref p)) → σ[j]? = some (some (.ref p)) → i = j
variable {H0 H H1 : Hp} {σ : L2.St} {ρ : Rho}
theorem RepS.ext (r : RepS T K H0 H σ ρ) (e : Ext T H H1) : RepS T K H0 H1 σ ρ := by
  refine ⟨r.ex.trans e, e.tb r.tb, r.len, fun i w o h => ?_, r.sep⟩
  obtain ⟨v, h1, h2, h3⟩ := r.at_ i w o h
  exact ⟨v, h1, h2.ext e, h3⟩
theorem set_at {α : Type} {l : List α} {i j : Nat} {x y : α} (h : (l.set i x)[j]? = some y) : (i = j ∧ x = y ∧ i < l.length) ∨ (i ≠ j ∧ l[j]? = some y) := by
  rw [List.getElem?_set] at h
  by_cases q : i = j
  · subst q
    rw [if_pos rfl] at h
    by_cases hl : i < l.length
    · rw [if_pos hl] at h
      exact .inl ⟨rfl, Option.some.inj h, hl⟩
    · rw [if_neg hl] at h
      cases h
  · rw [if_neg q] at h
    exact .inr ⟨q, h⟩
/-- a store: of a datum, or of a list that stood nowhere ahead -/
theorem RepS.set {v : V} {w : W} (r : RepS T K H0 H σ ρ) (e : Ext T H H1) (h : RW K H1 v w) (fr : w.isL = true → ∀ p, v = .ref p → H p = none) (i : Nat) : RepS T K H0 H1 (σ.set i (some v)) (ρ.set i (some (w, true))) := by
  have r1 := r.ext e
  refine ⟨r1.ex, r1.tb, by rw [List.length_set, List.length_set, r.len], fun j u o hj => ?_, fun j k xs ys p hj hk ej ek => ?_⟩
  · rcases set_at hj with ⟨rfl, e1, hl⟩ | ⟨ne, hj⟩
    · cases e1
      refine ⟨v, ?_, h, fun q => ⟨fun _ p ep => r.ex.dm p (fr q p ep), fun z => nomatch z⟩⟩
      rw [List.getElem?_set, if_pos rfl, if_pos (by rw [r.len]; exact hl)]
    · obtain ⟨u1, a, b, c⟩ := r1.at_ j u o hj
      refine ⟨u1, ?_, b, c⟩
      rw [List.getElem?_set, if_neg ne]
      exact a
  · have old : ∀ (m : Nat) (zs : List PyData), ρ[m]? = some (some (.l zs, true)) → σ[m]? = some (some (.ref p)) → ∃ vs, H p = some (.lst vs) := fun m zs hm em => by
      obtain ⟨u1, a, b, _⟩ := r.at_ m _ _ hm
      obtain ⟨q, vs, e1, e2, _⟩ := b
      rw [em] at a
      cases a
      cases e1
      exact ⟨vs, e2⟩
    rcases set_at hj with ⟨rfl, e1, hl⟩ | ⟨ne, hj2⟩
    · rcases set_at hk with ⟨rfl, _, _⟩ | ⟨ne2, hk2⟩
      · rfl
      · cases e1
        rw [List.getElem?_set, if_pos rfl] at ej
        rw [List.getElem?_set, if_neg ne2] at ek
        obtain ⟨vs, z⟩ := old k ys hk2 ek
        split at ej
        · cases ej
          rw [fr rfl p rfl] at z
          cases z
        · cases ej
    · rcases set_at hk with ⟨rfl, e1, hl⟩ | ⟨ne2, hk2⟩
      · cases e1
        rw [List.getElem?_set, if_pos rfl] at ek
        rw [List.getElem?_set, if_neg ne] at ej
        obtain ⟨vs, z⟩ := old j xs hj2 ej
        split at ek
        · cases ek
          rw [fr rfl p rfl] at z
          cases z
        · cases ek
      · rw [List.getElem?_set, if_neg ne] at ej
        rw [List.getElem?_set, if_neg ne2] at ek
        exact r.sep j k xs ys p hj2 hk2 ej ek
/-- one's own list changes -/
theorem RepS.mut {i : Nat} {xs ys : List PyData} {p : Addr} {vs us : List V} (r : RepS T K H0 H σ ρ) (hi : ρ[i]? = some (some (.l xs, true))) (ei : σ[i]? = some (some (.ref p))) (hp : H p = some (.lst vs)) (hy : DpAll K H us ys) (im : immAll ys = true) :
    RepS T K H0 (upd H p (.lst us)) σ (ρ.set i (some (.l ys, true))) := by
  have h0 : H0 p = none := by
    obtain ⟨v, a, b, c⟩ := r.at_ i _ _ hi
    rw [ei] at a
    cases a
    exact (c rfl).1 rfl p rfl
  have tu : TupE K H (upd H p (.lst us)) := tupE_lst hp
  refine ⟨r.ex.mut h0 hp, tabs_lst hp r.tb, by rw [List.length_set, r.len], fun j w o hj => ?_, fun j k as bs q hj hk ej ek => ?_⟩
  · rcases set_at hj with ⟨rfl, e1, hl⟩ | ⟨ne, hj⟩
    · cases e1
      exact ⟨.ref p, ei, ⟨p, us, rfl, upd_same, DpAll.tups tu _ _ im hy, im⟩, fun _ => ⟨fun _ q e => by cases e; exact h0, fun z => nomatch z⟩⟩
    · obtain ⟨v, a, b, c⟩ := r.at_ j w o hj
      cases w with
      | d x => exact ⟨v, a, ⟨b.1, Dp.tups tu _ _ b.1 b.2⟩, fun z => nomatch z⟩
      | l zs =>
        refine ⟨v, a, ?_, c⟩
        obtain ⟨q, ws, e1, e2, e3, e4⟩ := b
        have nq : q ≠ p := fun z => by
          subst z
          subst e1
          cases o with
          | true => exact ne (r.sep i j xs zs q hi hj ei a)
          | false =>
            obtain ⟨q2, ws2, f1, f2, _⟩ := (c rfl).2 rfl
            cases f1
            rw [h0] at f2
            cases f2
        exact ⟨q, ws, e1, by rw [upd_ne nq]; exact e2, DpAll.tups tu _ _ e4 e3, e4⟩
  · rcases set_at hj with ⟨rfl, e1, hl⟩ | ⟨ne, hj⟩
    · rcases set_at hk with ⟨rfl, _, _⟩ | ⟨ne2, hk⟩
      · rfl
      · exact r.sep _ k xs bs q hi hk ej ek
    · rcases set_at hk with ⟨rfl, e1, hl⟩ | ⟨ne2, hk⟩
      · exact r.sep j _ as xs q hj hi ej ek
      · exact r.sep j k as bs q hj hk ej ek
/-- a slot forgotten -/
theorem RepS.drop (r : RepS T K H0 H σ ρ) (i : Nat) : RepS T K H0 H (σ.set i none) (ρ.set i none) := by
  refine ⟨r.ex, r.tb, by rw [List.length_set, List.length_set, r.len], fun j u o hj => ?_, fun j k xs ys p hj hk ej ek => ?_⟩
  · rcases set_at hj with ⟨rfl, e1, hl⟩ | ⟨ne, hj⟩
    · cases e1
    · obtain ⟨u1, a, b, c⟩ := r.at_ j u o hj
      refine ⟨u1, ?_, b, c⟩
      rw [List.getElem?_set, if_neg ne]
      exact a
  · rcases set_at hj with ⟨rfl, e1, hl⟩ | ⟨ne, hj⟩
    · cases e1
    · rcases set_at hk with ⟨rfl, e1, hl⟩ | ⟨ne2, hk⟩
      · cases e1
      · rw [List.getElem?_set, if_neg ne] at ej
        rw [List.getElem?_set, if_neg ne2] at ek
        exact r.sep j k xs ys p hj hk ej ek
/-- one's own lists: their addresses -/
def OwnA (σ : L2.St) (ρ : Rho) (a : Addr) : Prop := ∃ (i : Nat) (xs : List PyData), ρ[i]? = some (some (W.l xs, true)) ∧ σ[i]? = some (some (V.ref a))
open Classical in
/-- a new base: all that stands, but for one's own lists -/
noncomputable def strip (H : Hp) (S : Addr → Prop) : Hp := fun a => if S a then none else H a
theorem strip_no {S : Addr → Prop} {a : Addr} (h : ¬ S a) : strip H S a = H a := by
  unfold strip
  rw [if_neg h]
theorem strip_yes {S : Addr → Prop} {a : Addr} (h : S a) : strip H S a = none := by
  unfold strip
  rw [if_pos h]
theorem strip_some {S : Addr → Prop} {a : Addr} {o : HO} (h : strip H S a = some o) : ¬ S a ∧ H a = some o := by
  by_cases q : S a
  · rw [strip_yes q] at h
    cases h
  · rw [strip_no q] at h
    exact ⟨q, h⟩
theorem RepS.own_lst (r : RepS T K H0 H σ ρ) {a : Addr} (h : OwnA σ ρ a) : H0 a = none ∧ ∃ vs, H a = some (.lst vs) := by
  obtain ⟨i, xs, h1, h2⟩ := h
  obtain ⟨v, a1, b, c⟩ := r.at_ i _ _ h1
  rw [h2] at a1
  cases a1
  obtain ⟨p, vs, e1, e2, _⟩ := b
  cases e1
  exact ⟨(c rfl).1 rfl _ rfl, vs, e2⟩
theorem tupE_strip {S : Addr → Prop} (hS : ∀ a, S a → ∃ vs, H a = some (.lst vs)) : TupE K H (strip H S) := fun a ys ht => by
  have no : ∀ o, H a = some o → (∀ vs, o ≠ .lst vs) → ¬ S a := fun o h n z => by
    obtain ⟨vs, e⟩ := hS a z
    rw [h] at e
    exact n vs (Option.some.inj e)
  rcases ht with (q | ⟨u, q⟩) | q
  · exact .inl (.inl (by rw [strip_no (no _ q fun _ z => nomatch z)]; exact q))
  · exact .inl (.inr ⟨u, by rw [strip_no (no _ q fun _ z => nomatch z)]; exact q⟩)
  · exact .inr q
theorem RepS.rebase (r : RepS T K H0 H σ ρ) : Ext T H0 (strip H (OwnA σ ρ)) ∧ RepS T K (strip H (OwnA σ ρ)) H σ ρ := by
  have hS : ∀ a, OwnA σ ρ a → ∃ vs, H a = some (.lst vs) := fun a h => (r.own_lst h).2
  have hN : ∀ a, OwnA σ ρ a → H0 a = none := fun a h => (r.own_lst h).1
  have tu : TupE K H (strip H (OwnA σ ρ)) := tupE_strip hS
  refine ⟨⟨fun b o h n => ?_, fun b h => ?_, fun t p hp => ?_⟩, ⟨Ext.of (T := T) fun b o h => (strip_some h).2, r.tb, r.len, fun i w o h => ?_, r.sep⟩⟩
  · rw [strip_no (fun z => by rw [hN b z] at h; cases h)]
    exact r.ex.kp b o h n
  · by_cases q : OwnA σ ρ b
    · exact hN b q
    · rw [strip_no q] at h
      exact r.ex.dm b h
  · obtain ⟨ps, hP, tr, hc⟩ := r.ex.tb t p hp
    have no : ∀ (a : Addr) (o : HO), H a = some o → (∀ vs, o ≠ .lst vs) → strip H (OwnA σ ρ) a = some o := fun a o h n => by
      rw [strip_no fun z => ?_]
      · exact h
      · obtain ⟨vs, e⟩ := hS a z
        rw [h] at e
        exact n vs (Option.some.inj e)
    refine ⟨ps, no _ _ hP (fun _ z => nomatch z), tr, fun pos cv e => ?_⟩
    obtain ⟨c, e1, e2⟩ := hc pos cv e
    exact ⟨c, e1, no _ _ e2 fun _ z => nomatch z⟩
  · obtain ⟨v, a, b, c⟩ := r.at_ i w o h
    refine ⟨v, a, b, fun q => ⟨fun ho p ep => ?_, fun ho => ?_⟩⟩
    · subst ho
      cases w with
      | d x => cases q
      | l xs =>
        subst ep
        exact strip_yes ⟨i, xs, h, a⟩
    · subst ho
      cases w with
      | d x => cases q
      | l xs =>
        obtain ⟨p, vs, e1, e2, e3, e4⟩ := (c q).2 rfl
        refine ⟨p, vs, e1, ?_, DpAll.tups (fun a ys ht => tu a ys (r.ex.sqT ht)) _ _ e4 e3, e4⟩
        rw [strip_no fun z => ?_]
        · exact r.ex.lst e2
        · rw [hN p z] at e2
          cases e2
end
end Dw

/-! part DwB -/
set_option Elab.async false
set_option linter.all false
set_option maxRecDepth 100000
set_option maxHeartbeats 4000000
namespace Dw
open PySem PySem.Spec PyProof.Rows L2

/-! ### readings over data -/
abbrev DT := Rho → (W → Nat → Prop) → Prop
abbrev DB := Rho → (Bool → Prop) → Prop
abbrev DA := Rho → (List W → Prop) → Prop
structure DE where
  nx : Rho → Prop
  rt : W → Prop
  bk : Rho → Prop := fun _ => False
  ct : Rho → Prop := fun _ => False
abbrev DS := DE → Rho → Prop
abbrev DI := Rho → (List PyData → Nat → Prop) → Prop
abbrev DG := PyData → Rho → (Rho → Prop) → Prop
abbrev F1 := W → (W → Prop) → Prop
abbrev F2 := W → W → (W → Prop) → Prop
/-- 0: a list that was handed in; 1: one's own list; 2: a new one -/
def FrsP (H0 H : Hp) (v : V) (w : W) (n : Nat) : Prop := w.isL = true → ∀ p, v = .ref p → (1 ≤ n → H0 p = none) ∧ (2 ≤ n → H p = none) ∧ (n = 0 → H0 p ≠ none)
def NewP (H : Hp) (v : V) (w : W) : Prop := w.isL = true → ∀ p, v = .ref p → H p = none
section
variable {T : List NdefX.NTab} {K : PySem.W.Frag}
def can (T : List NdefX.NTab) (K : PySem.W.Frag) (t : DT) : TE := fun σ H Q => ∃ H0 ρ R, RepS T K H0 H σ ρ ∧ t ρ R ∧ ∀ v H2 w n, Ext T H H2 → RW K H2 v w → FrsP H0 H v w n → R w n → Q v H2
def canB (T : List NdefX.NTab) (K : PySem.W.Frag) (t : DB) : TT := fun σ H Q => ∃ H0 ρ R, RepS T K H0 H σ ρ ∧ t ρ R ∧ ∀ b H2, Ext T H H2 → R b → Q b H2
def canA (T : List NdefX.NTab) (K : PySem.W.Frag) (t : DA) : TA := fun σ H Q => ∃ H0 ρ R, RepS T K H0 H σ ρ ∧ t ρ R ∧ ∀ vs H2 ws, Ext T H H2 → RWs K H2 vs ws → R ws → Q vs H2
def canS (T : List NdefX.NTab) (K : PySem.W.Frag) (t : DS) : TS := fun D σ H => ∃ H0 ρ E, RepS T K H0 H σ ρ ∧ t E ρ ∧ (∀ H0' σ' H' ρ', Ext T H0 H0' → RepS T K H0' H' σ' ρ' → E.nx ρ' → D.nx σ' H') ∧
  (∀ v H' w, Ext T H0 H' → RW K H' v w → NewP H0 v w → E.rt w → D.rt v H') ∧ (∀ H0' σ' H' ρ', Ext T H0 H0' → RepS T K H0' H' σ' ρ' → E.bk ρ' → D.bk σ' H') ∧ (∀ H0' σ' H' ρ', Ext T H0 H0' → RepS T K H0' H' σ' ρ' → E.ct ρ' → D.ct σ' H')
def ItOk (T : List NdefX.NTab) (K : PySem.W.Frag) (J : It) (Hb : Hp) (xs : List PyData) : Prop :=
  ∀ H', Ext T Hb H' → (∀ i, i < xs.length → J.go i H') ∧ J.stop xs.length H' ∧ ∀ i x v H'', xs[i]? = some x → J.yld i H' v H'' → Ext T H' H'' ∧ Dp K H'' v x ∧ imm x = true
def canI (T : List NdefX.NTab) (K : PySem.W.Frag) (t : DI) : TI := fun σ H R => ∃ H0 ρ k, RepS T K H0 H σ ρ ∧ t ρ k ∧ ∀ J H1 xs n, Ext T H H1 → k xs n →
  (∀ S : Addr → Prop, (∀ a, S a → H0 a = none ∧ ∃ vs, H a = some (.lst vs)) → (n = 1 → ∀ a, ¬ S a) → ItOk T K J (strip H1 S) xs) → R J H1
/-- a target of data -/
def GOk (T : List NdefX.NTab) (K : PySem.W.Frag) (g : TG) (dg : DG) : Prop := ∀ (v : V) (x : PyData) (H0 Hb H : Hp) (σ : L2.St) (ρ : Rho) (k : Rho → Prop) (Q : L2.St → Hp → Prop), RepS T K H0 Hb σ ρ → Ext T Hb H → Dp K Hb v x → imm x = true → dg x ρ k →
  (∀ σ' ρ', RepS T K H0 Hb σ' ρ' → k ρ' → Q σ' H) → g v σ H Q

variable {X : Cx} {e a b c : Expr} {es : List Expr} {pos : Pos}
theorem PE_imp {te te' : TE} (h : PE X e te) (k : ∀ σ H Q, te' σ H Q → te σ H Q) : PE X e te' := ⟨fun pins s σ H Q I q => h.run pins s σ H Q I (k σ H Q q)⟩
theorem PT_imp {te te' : TT} (h : PT X e te) (k : ∀ σ H Q, te' σ H Q → te σ H Q) : PT X e te' := ⟨fun pins s σ H Q I q => h.run pins s σ H Q I (k σ H Q q)⟩
theorem PW_imp {te te' : TT} (h : PW X e te) (k : ∀ σ H Q, te' σ H Q → te σ H Q) : PW X e te' := ⟨fun wh pins s σ H Q I q => h.run wh pins s σ H Q I (k σ H Q q)⟩
theorem PA_imp {te te' : TA} (h : PA X es te) (k : ∀ σ H Q, te' σ H Q → te σ H Q) : PA X es te' := ⟨fun p pins s σ H Q I q => h.run p pins s σ H Q I (k σ H Q q)⟩
theorem PS_imp {st : Stmt} {te te' : TS} (h : PS X st te) (k : ∀ D σ H, te' D σ H → te D σ H) : PS X st te' := ⟨fun pins s σ H D I q => h.run pins s σ H D I (k D σ H q)⟩
theorem PSs_imp {st : List Stmt} {te te' : TS} (h : PSs X st te) (k : ∀ D σ H, te' D σ H → te D σ H) : PSs X st te' := ⟨fun pins s σ H D I q => h.run pins s σ H D I (k D σ H q)⟩
theorem PI_imp {tg : Expr} {te te' : TI} (h : PI X tg e te) (k : ∀ σ H R, te' σ H R → te σ H R) : PI X tg e te' := ⟨fun pins s σ H Q I q => h.run pins s σ H Q I (k σ H Q q)⟩

/-! ### names, constants -/
variable {H0 H H2 : Hp} {σ : L2.St} {ρ : Rho}
theorem frs_new {v : V} {w : W} (r : RepS T K H0 H σ ρ) (e : Ext T H H2) (h : NewP H2 v w) : FrsP H0 H v w 2 := fun q p ep =>
  have e1 := e.dm p (h q p ep)
  ⟨fun _ => r.ex.dm p e1, fun _ => e1, fun z => nomatch z⟩
theorem frs_d {v : V} {x : PyData} {n : Nat} : FrsP H0 H v (.d x) n := fun q => nomatch q
theorem new_d {v : V} {x : PyData} : NewP H v (.d x) := fun q => nomatch q
def dVar (i : Nat) : DT := fun ρ R => ∃ w o, ρ[i]? = some (some (w, o)) ∧ R w (if o = true then 1 else 0)
theorem x_var (i : Nat) {x : Str} (hN : X.N[i]? = some x := by rfl) (hv : Vis X.env.scope x := by first | exact Or.inl rfl | exact Or.inr (Or.inl rfl) | exact Or.inr (Or.inr rfl)) (hd : (x == ("__debug__" : Str)) = false := by decide)
    (hcd : (x == ("__classdict__" : Str)) = false := by decide) : PE X (.Name x pos) (can T X.K (dVar i)) := PE_imp (pe_var hN hv hd hcd) fun σ H Q ⟨H0, ρ, R, rep, ⟨w, o, e, r⟩, k⟩ => by
  obtain ⟨v, e1, e2, e3⟩ := rep.at_ i w o e
  refine ⟨v, e1, k v H w _ (Ext.refl H) e2 (fun q p ep => ?_) r⟩
  cases o with
  | true => exact ⟨fun _ => (e3 q).1 rfl p ep, fun z => absurd z (by decide), fun z => nomatch z⟩
  | false =>
    refine ⟨fun z => absurd z (by decide), fun z => absurd z (by decide), fun _ z => ?_⟩
    cases w with
    | d x => cases q
    | l xs =>
      obtain ⟨p2, vs, f1, f2, _⟩ := (e3 rfl).2 rfl
      subst f1
      cases ep
      rw [z] at f2
      cases f2
def dC (x : PyData) : DT := fun _ R => R (.d x) 2
theorem canC {v : V} {x : PyData} (h : ∀ H, Dp K H v x) (i : imm x = true) : ∀ σ H Q, can T K (dC x) σ H Q → tC v σ H Q := fun σ H Q ⟨H0, ρ, R, rep, r, k⟩ => k v H (.d x) 2 (Ext.refl H) ⟨i, h H⟩ frs_d r
theorem x_int {i j pos} : PE X (.Constant (.int i) j pos) (can T X.K (dC (.int i))) := PE_imp pe_int (canC (fun _ => .int i) rfl)
theorem x_bl {i j pos} : PE X (.Constant (.bool i) j pos) (can T X.K (dC (.bool i))) := PE_imp pe_bl (canC (fun _ => .bl i) rfl)
theorem x_non {j pos} : PE X (.Constant .none j pos) (can T X.K (dC .none)) := PE_imp pe_non (canC (fun _ => .non) rfl)
theorem x_str {i j pos} : PE X (.Constant (.str i) j pos) (can T X.K (dC (.str i))) := PE_imp pe_str (canC (fun _ => .str i) rfl)
/-- a number of the module -/
theorem x_gint {x : Str} {i : Int} (hm : ∃ t, X.mg x = some (.int i t)) (hg : Gl X x := by rfl) (hd : (x == ("__debug__" : Str)) = false := by decide) : PE X (.Name x pos) (can T X.K (dC (.int i))) := by
  obtain ⟨t, hm⟩ := hm
  exact PE_imp (pe_glob (v := .int i) hg hm ⟨t, rfl⟩ hd) (canC (fun _ => .int i) rfl)
/-- a tuple of the module -/
theorem x_gtup {x : Str} {a : Addr} {d : PyData} (hm : X.mg x = some (.ref a)) (hd : ∀ H, Dp X.K H (.ref a) d) (im : imm d = true) (hg : Gl X x := by rfl) (hdb : (x == ("__debug__" : Str)) = false := by decide) : PE X (.Name x pos) (can T X.K (dC d)) :=
  PE_imp (pe_glob (v := .ref a) hg hm rfl hdb) (canC hd im)

/-! ### one operand, two operands, by what they do to data -/
def dU (f : F1) (t : DT) : DT := fun ρ R => t ρ fun w _ => f w fun z => R z 2
def U1 (T : List NdefX.NTab) (K : PySem.W.Frag) (r : List V → Hp → VK → Prop) (f : F1) : Prop := ∀ (v : V) (H : Hp) (w : W) (k : W → Prop) (Q : VK), NdefX.TabsN T H → RW K H v w → f w k → (∀ v' H' z, k z → Ext T H H' → RW K H' v' z → NewP H v' z → Q v' H') → r [v] H Q
theorem canU {r : List V → Hp → VK → Prop} {f : F1} {t : DT} (hu : U1 T K r f) : ∀ σ H Q, can T K (dU f t) σ H Q → tCB r (tCons (can T K t) tNil) σ H Q := fun σ H Q ⟨H0, ρ, R, rep, ht, k⟩ =>
  ⟨H0, ρ, _, rep, ht, fun v H2 w n e rw' fr hf => hu v H2 w _ Q (e.tb rep.tb) rw' hf fun v' H' z kz e' rw2 nw => k v' H' z 2 (e.trans e') rw2 (frs_new rep e nw) kz⟩
theorem x_cb {x : Str} {id : String} {r : List V → Hp → VK → Prop} {f : F1} {t : DT} {p pos : Pos} (hu : U1 T X.K r f) (hc : CallR X (.builtin id) r) (hm : X.mg x = none) (ha : PE X e (can T X.K t)) (hv : bootBuiltins x = some (.builtin id) := by decide +kernel) (hg : Gl X x := by rfl)
    (hn : x ≠ "__name__" := by decide) (hdb : (x == ("__debug__" : Str)) = false := by decide) (hs : starEach [e] X.env = (false, eval e X.env) :: starEach [] X.env := by rfl) (hpl : (backTo pos (starEach [] X.env)).any (·.1) = false := by rfl) :
    PE X (.Call (.Name x p) [e] [] pos) (can T X.K (dU f t)) := PE_imp (pe_callB hc hg hm hv (pa_cons ha pa_nil hs) hn hdb hs hpl) (canU hu)
theorem x_ct {x : Str} {id : String} {r : List V → Hp → VK → Prop} {f : F1} {t : DT} {p pos : Pos} (hu : U1 T X.K r f) (hc : CallR X (.type id) r) (hm : X.mg x = none) (ha : PE X e (can T X.K t)) (hv : bootBuiltins x = some (.type id) := by decide +kernel) (hg : Gl X x := by rfl)
    (hn : x ≠ "__name__" := by decide) (hdb : (x == ("__debug__" : Str)) = false := by decide) (hs : starEach [e] X.env = (false, eval e X.env) :: starEach [] X.env := by rfl) (hpl : (backTo pos (starEach [] X.env)).any (·.1) = false := by rfl) :
    PE X (.Call (.Name x p) [e] [] pos) (can T X.K (dU f t)) := PE_imp (pe_callTy hc hg hm hv (pa_cons ha pa_nil hs) hn hdb hs hpl) (canU hu)
def dOp (f : F2) (ta tb : DT) : DT := fun ρ R => ta ρ fun x _ => tb ρ fun y _ => f x y fun z => R z 2
def O2 (T : List NdefX.NTab) (K : PySem.W.Frag) (r : R2) (f : F2) : Prop := ∀ (v u : V) (H : Hp) (x y : W) (k : W → Prop) (Q : VK), NdefX.TabsN T H → RW K H v x → RW K H u y → f x y k → (∀ v' H' z, k z → Ext T H H' → RW K H' v' z → NewP H v' z → Q v' H') → r v u H Q
theorem canOp {r : R2} {f : F2} {ta tb : DT} (hu : O2 T K r f) : ∀ σ H Q, can T K (dOp f ta tb) σ H Q → tOp r (can T K ta) (can T K tb) σ H Q := fun σ H Q ⟨H0, ρ, R, rep, ht, k⟩ =>
  ⟨H0, ρ, _, rep, ht, fun v H1 x n e rx _ hb => ⟨H0, ρ, _, rep.ext e, hb, fun u H2 y m e2 ry _ hf => hu v u H2 x y _ Q (e2.tb (e.tb rep.tb)) (rx.ext e2) ry hf fun v' H' z kz e' rw2 nw =>
    k v' H' z 2 ((e.trans e2).trans e') rw2 (frs_new rep (e.trans e2) nw) kz⟩⟩
theorem x_op {op : Operator} {r : R2} {f : F2} {ta tb : DT} (hu : O2 T X.K r f) (ho : OpR X (binaryOp op) r) (ha : PE X a (can T X.K ta)) (hb : PE X b (can T X.K tb)) : PE X (.BinOp a op b pos) (can T X.K (dOp f ta tb)) := PE_imp (pe_op ho ha hb) (canOp hu)
theorem x_cmp {op : CmpOp} {r : R2} {f : F2} {ta tb : DT} (hu : O2 T X.K r f) (ho : OpR X (compareOp op) r) (ha : PE X a (can T X.K ta)) (hb : PE X b (can T X.K tb)) (hm : behindInMarks op b = false := by first | exact nobehind _ (by decide) (by decide) | rfl) :
    PE X (.Compare a [op] [b] pos) (can T X.K (dOp f ta tb)) := PE_imp (pe_cmpR ho ha hb hm) (canOp hu)
theorem x_ix {r : R2} {f : F2} {ta tb : DT} (hu : O2 T X.K r f) (ho : IxR X r) (ha : PE X a (can T X.K ta)) (hb : PE X b (can T X.K tb)) (hs : PlainIx b := by exact fun _ _ => rfl) : PE X (.Subscript a b pos) (can T X.K (dOp f ta tb)) := PE_imp (pe_ix ho ha hb hs) (canOp hu)
def dU1 (f : F1) (t : DT) : DT := dU f t
def Un1 (T : List NdefX.NTab) (K : PySem.W.Frag) (r : V → Hp → VK → Prop) (f : F1) : Prop := ∀ (v : V) (H : Hp) (w : W) (k : W → Prop) (Q : VK), RW K H v w → f w k → (∀ v' H' z, k z → Ext T H H' → RW K H' v' z → NewP H v' z → Q v' H') → r v H Q
theorem x_un {op : UnaryOp} {r : V → Hp → VK → Prop} {f : F1} {t : DT} (hu : Un1 T X.K r f) (ho : UnR X (unaryOp op) r) (ha : PE X a (can T X.K t)) : PE X (.UnaryOp op a pos) (can T X.K (dU f t)) := PE_imp (pe_un ho ha) fun σ H Q ⟨H0, ρ, R, rep, ht, k⟩ =>
  ⟨H0, ρ, _, rep, ht, fun v H2 w n e rw' fr hf => hu v H2 w _ Q rw' hf fun v' H' z kz e' rw2 nw => k v' H' z 2 (e.trans e') rw2 (frs_new rep e nw) kz⟩

/-! ### tests -/
def dTst (t : DT) : DB := fun ρ R => t ρ fun w _ => ∃ b, w = .d (.bool b) ∧ R b
theorem rw_bool {v : V} {b : Bool} (h : RW K H v (.d (.bool b))) : v = .bl b := by
  obtain ⟨_, h⟩ := h
  cases h
  rfl
theorem rw_int {v : V} {b : Int} (h : RW K H v (.d (.int b))) : v = .int b := by
  obtain ⟨_, h⟩ := h
  cases h
  rfl
theorem rw_str {v : V} {b : Str} (h : RW K H v (.d (.str b))) : v = .str b := by
  obtain ⟨_, h⟩ := h
  cases h
  rfl
theorem canTst {t : DT} : ∀ σ H Q, canB T K (dTst t) σ H Q → can T K t σ H (fun x H' => ∃ k, x = .bl k ∧ Q k H') := fun σ H Q ⟨H0, ρ, R, rep, ht, k⟩ =>
  ⟨H0, ρ, _, rep, ht, fun v H2 w n e rw' _ ⟨b, eb, r⟩ => by
    subst eb
    exact ⟨b, rw_bool rw', k b H2 e r⟩⟩
theorem b_cmp {op : CmpOp} {r : R2} {f : F2} {ta tb : DT} (hu : O2 T X.K r f) (ho : OpR X (compareOp op) r) (ha : PE X a (can T X.K ta)) (hb : PE X b (can T X.K tb)) (hm : behindInMarks op b = false := by first | exact nobehind _ (by decide) (by decide) | rfl) :
    PT X (.Compare a [op] [b] pos) (canB T X.K (dTst (dOp f ta tb))) := PT_imp (pt_cmpR ho ha hb hm) fun σ H Q h => canOp hu σ H _ (canTst σ H Q h)
theorem b_val {t : DT} (h : PE X e (can T X.K t)) (he : ∀ whole, isTrue e X.env whole = (do let v ← whole; standAt e.pos; holding [v] (truthy v)) := by intro _; rfl) : PT X e (canB T X.K (dTst t)) := PT_imp (pt_val h he) fun σ H Q h => canTst σ H Q h
def dAnd (t u : DB) : DB := fun ρ R => t ρ fun c => if c = true then u ρ R else R false
def dOr (t u : DB) : DB := fun ρ R => t ρ fun c => if c = true then R true else u ρ R
def dNot (t : DB) : DB := fun ρ R => t ρ fun c => R (!c)
variable {rest : List Expr}
theorem b_and1 {t : DB} (ha : PT X a (canB T X.K t)) : PW X (.BoolOp .And [a] pos) (canB T X.K t) := pw_and1 ha
theorem b_or1 {t : DB} (ha : PT X a (canB T X.K t)) : PW X (.BoolOp .Or [a] pos) (canB T X.K t) := pw_or1 ha
theorem b_and {t u : DB} (ha : PT X a (canB T X.K t)) (hb : PW X (.BoolOp .And (b :: rest) pos) (canB T X.K u)) : PW X (.BoolOp .And (a :: b :: rest) pos) (canB T X.K (dAnd t u)) := PW_imp (pw_and ha hb) fun σ H Q ⟨H0, ρ, R, rep, ht, k⟩ =>
  ⟨H0, ρ, _, rep, ht, fun b' H2 e hb' => by
    cases b' with
    | true => exact iteT ⟨H0, ρ, R, rep.ext e, by simpa using hb', fun b2 H3 e2 r => k b2 H3 (e.trans e2) r⟩
    | false => exact iteF (k false H2 e (by simpa using hb'))⟩
theorem b_or {t u : DB} (ha : PT X a (canB T X.K t)) (hb : PW X (.BoolOp .Or (b :: rest) pos) (canB T X.K u)) : PW X (.BoolOp .Or (a :: b :: rest) pos) (canB T X.K (dOr t u)) := PW_imp (pw_or ha hb) fun σ H Q ⟨H0, ρ, R, rep, ht, k⟩ =>
  ⟨H0, ρ, _, rep, ht, fun b' H2 e hb' => by
    cases b' with
    | true => exact iteT (k true H2 e (by simpa using hb'))
    | false => exact iteF ⟨H0, ρ, R, rep.ext e, by simpa using hb', fun b2 H3 e2 r => k b2 H3 (e.trans e2) r⟩⟩
theorem b_not {t : DB} (ha : PT X a (canB T X.K t)) : PT X (.UnaryOp .Not a pos) (canB T X.K (dNot t)) := PT_imp (pt_not ha) fun σ H Q ⟨H0, ρ, R, rep, ht, k⟩ => ⟨H0, ρ, _, rep, ht, fun b' H2 e hb' => k (!b') H2 e hb'⟩
/-! .. as values -/
def dAndV (ta tb : DT) : DT := fun ρ R => ta ρ fun w _ => ∃ c, w = .d (.bool c) ∧ if c = true then tb ρ R else R (.d (.bool false)) 2
def dNotV (ta : DT) : DT := fun ρ R => ta ρ fun w _ => ∃ c, w = .d (.bool c) ∧ R (.d (.bool (!c))) 2
theorem frs_mono {v : V} {w : W} {n : Nat} {H1 : Hp} (e : Ext T H H1) (h : FrsP H0 H1 v w n) : FrsP H0 H v w n := fun q p ep => let ⟨a, b, c⟩ := h q p ep; ⟨a, fun z => e.dm p (b z), c⟩
theorem x_one {op} {t : TE} (h : PE X a t) : PE X (.BoolOp op [a] pos) t := pe_one h
theorem x_and {t u : DT} (ha : PE X a (can T X.K t)) (hb : PE X (.BoolOp .And (b :: rest) pos) (can T X.K u)) : PE X (.BoolOp .And (a :: b :: rest) pos) (can T X.K (dAndV t u)) := PE_imp (pe_and ha hb) fun σ H Q ⟨H0, ρ, R, rep, ht, k⟩ =>
  ⟨H0, ρ, _, rep, ht, fun v H2 w n e rw' _ ⟨c, ec, hc⟩ => by
    subst ec
    refine ⟨c, rw_bool rw', ?_⟩
    cases c with
    | true => exact iteT ⟨H0, ρ, R, rep.ext e, by simpa using hc, fun v' H3 w' n' e2 r2 f2 q => k v' H3 w' n' (e.trans e2) r2 (frs_mono e f2) q⟩
    | false => exact iteF (k _ H2 (.d (.bool false)) 2 e ⟨rfl, .bl false⟩ frs_d (by simpa using hc))⟩
theorem x_not {t : DT} (ha : PE X a (can T X.K t)) : PE X (.UnaryOp .Not a pos) (can T X.K (dNotV t)) := PE_imp (pe_not ha) fun σ H Q ⟨H0, ρ, R, rep, ht, k⟩ =>
  ⟨H0, ρ, _, rep, ht, fun v H2 w n e rw' _ ⟨c, ec, hc⟩ => by
    subst ec
    exact ⟨c, rw_bool rw', k _ H2 (.d (.bool (!c))) 2 e ⟨rfl, .bl _⟩ frs_d hc⟩⟩
def dChain (f f' : F2) (ta tb tc : DT) : DT := fun ρ R => ta ρ fun x _ => tb ρ fun y _ => f x y fun z => ∃ k, z = .d (.bool k) ∧ if k = true then tc ρ fun w _ => f' y w fun z' => R z' 2 else R (.d (.bool false)) 2
theorem x_chain {op op' : CmpOp} {r r' : R2} {f f' : F2} {ta tb tc : DT} (hu : O2 T X.K r f) (hu' : O2 T X.K r' f') (ho : OpR X (compareOp op) r) (ho' : OpR X (compareOp op') r') (ha : PE X a (can T X.K ta)) (hb : PE X b (can T X.K tb)) (hc : PE X c (can T X.K tc)) (hm : lastMarks [op, op'] [b, c] = false := by with_unfolding_all rfl) :
    PE X (.Compare a [op, op'] [b, c] pos) (can T X.K (dChain f f' ta tb tc)) := PE_imp (pe_chain ho ho' ha hb hc hm) fun σ H Q ⟨H0, ρ, R, rep, ht, k⟩ =>
  ⟨H0, ρ, _, rep, ht, fun v H1 x n e rx _ hb => ⟨H0, ρ, _, rep.ext e, hb, fun u H2 y m e2 ry _ hf => hu v u H2 x y _ _ (e2.tb (e.tb rep.tb)) (rx.ext e2) ry hf fun v' H' z kz e' rw2 nw => by
    obtain ⟨b, eb, hb⟩ := kz
    subst eb
    refine ⟨b, rw_bool rw2, ?_⟩
    cases b with
    | true =>
      refine iteT ⟨H0, ρ, _, rep.ext ((e.trans e2).trans e'), by simpa using hb, fun u3 H3 w3 n3 e3 r3 _ h3 => ?_⟩
      exact hu' u u3 H3 y w3 _ Q (((e.trans e2).trans e').trans e3 |>.tb rep.tb) ((ry.ext e').ext e3) r3 h3 fun v4 H4 z4 k4 e4 r4 n4 => k v4 H4 z4 2 ((((e.trans e2).trans e').trans e3).trans e4) r4 (frs_new rep (((e.trans e2).trans e').trans e3) n4) k4
    | false => exact iteF (k _ H' (.d (.bool false)) 2 ((e.trans e2).trans e') ⟨rfl, .bl false⟩ frs_d (by simpa using hb))⟩⟩
def dIf (t : DB) (ta tb : DT) : DT := fun ρ R => t ρ fun c => if c = true then ta ρ R else tb ρ R
theorem x_if {t : DB} {ta tb : DT} (hc : PT X c (canB T X.K t)) (ha : PE X a (can T X.K ta)) (hb : PE X b (can T X.K tb)) : PE X (.IfExp c a b pos) (can T X.K (dIf t ta tb)) := PE_imp (pe_ifExp hc ha hb) fun σ H Q ⟨H0, ρ, R, rep, ht, k⟩ =>
  ⟨H0, ρ, _, rep, ht, fun c' H2 e hc => by
    cases c' with
    | true => exact iteT ⟨H0, ρ, R, rep.ext e, by simpa using hc, fun v' H3 w' n' e2 r2 f2 q => k v' H3 w' n' (e.trans e2) r2 (frs_mono e f2) q⟩
    | false => exact iteF ⟨H0, ρ, R, rep.ext e, by simpa using hc, fun v' H3 w' n' e2 r2 f2 q => k v' H3 w' n' (e.trans e2) r2 (frs_mono e f2) q⟩⟩

/-! ### arguments, displays -/
def dNil : DA := fun _ R => R []
def dCons (t : DT) (u : DA) : DA := fun ρ R => t ρ fun w _ => u ρ fun ws => R (w :: ws)
def dStar (t : DT) (u : DA) : DA := fun ρ R => t ρ fun w _ => ∃ xs, w = .d (.tuple xs) ∧ u ρ fun ws => R (xs.map W.d ++ ws)
theorem a_nil : PA X [] (canA T X.K dNil) := PA_imp pa_nil fun σ H Q ⟨H0, ρ, R, rep, ht, k⟩ => k [] H [] (Ext.refl H) .nil ht
theorem a_cons {t : DT} {u : DA} (ha : PE X e (can T X.K t)) (hr : PA X es (canA T X.K u)) (hs : starEach (e :: es) X.env = (false, eval e X.env) :: starEach es X.env := by rfl) : PA X (e :: es) (canA T X.K (dCons t u)) := PA_imp (pa_cons ha hr hs) fun σ H Q ⟨H0, ρ, R, rep, ht, k⟩ =>
  ⟨H0, ρ, _, rep, ht, fun v H1 w n e rw' _ hu => ⟨H0, ρ, _, rep.ext e, hu, fun vs H2 ws e2 rs hr => k _ H2 _ (e.trans e2) (.cons (rw'.ext e2) rs) hr⟩⟩
theorem rws_data : ∀ {xs : List PyData} {vs : List V}, immAll xs = true → DpAll K H vs xs → RWs K H vs (xs.map W.d)
  | [], _, _, .nil => .nil
  | x :: xs, _, i, .cons h t => by
    have i2 : (imm x && immAll xs) = true := i
    rw [Bool.and_eq_true] at i2
    exact .cons ⟨i2.1, h⟩ (rws_data i2.2 t)
theorem RWs.append : ∀ {vs us : List V} {ws zs : List W}, RWs K H vs ws → RWs K H us zs → RWs K H (vs ++ us) (ws ++ zs)
  | _, _, _, _, .nil, h => h
  | _, _, _, _, .cons h t, g => .cons h (RWs.append t g)
theorem a_star {t : DT} {u : DA} {p : Pos} (ha : PE X e (can T X.K t)) (hr : PA X es (canA T X.K u)) (hs : starEach (.Starred e p :: es) X.env = (true, eval e X.env) :: starEach es X.env := by rfl) : PA X (.Starred e p :: es) (canA T X.K (dStar t u)) := PA_imp (StX.pa_star ha hr hs) fun σ H Q ⟨H0, ρ, R, rep, ht, k⟩ =>
  ⟨H0, ρ, _, rep, ht, fun v H1 w n e rw' _ hu => by
    obtain ⟨xs, ew, hu⟩ := hu
    subst ew
    obtain ⟨im, dp⟩ := rw'
    cases dp with
    | @tup a vs _ hs ha =>
      refine ⟨a, vs, rfl, .inl hs, H0, ρ, _, rep.ext e, hu, fun us H2 ws e2 rs hr => k _ H2 _ (e.trans e2) (RWs.append ((rws_data im ha).ext e2) rs) hr⟩⟩
/-- all of them data -/
def unD : List W → Option (List PyData)
  | [] => some []
  | .d x :: r => (unD r).map (x :: ·)
  | .l _ :: _ => none
theorem unD_map : ∀ (xs : List PyData), unD (xs.map W.d) = some xs
  | [] => rfl
  | x :: xs => by
    show (unD (xs.map W.d)).map (x :: ·) = _
    rw [unD_map xs]
    rfl
theorem unD_append : ∀ (xs : List PyData) (ws : List W), unD (xs.map W.d ++ ws) = (unD ws).map (xs ++ ·)
  | [], ws => by
    show unD ws = _
    cases unD ws <;> rfl
  | x :: xs, ws => by
    show (unD (xs.map W.d ++ ws)).map (x :: ·) = _
    rw [unD_append xs ws]
    cases unD ws <;> rfl
theorem rws_un : ∀ {ws : List W} {xs : List PyData} {vs : List V}, unD ws = some xs → RWs K H vs ws → DpAll K H vs xs ∧ immAll xs = true ∧ vs.length = xs.length
  | [], xs, _, e, .nil => by
    cases e
    exact ⟨.nil, rfl, rfl⟩
  | .d x :: r, xs, _, e, .cons h t => by
    have e2 : (unD r).map (x :: ·) = some xs := e
    cases q : unD r with
    | none =>
      rw [q] at e2
      cases e2
    | some ys =>
      rw [q] at e2
      cases e2
      obtain ⟨a, b, c⟩ := rws_un q t
      exact ⟨.cons h.2 a, by show (imm x && immAll ys) = true; rw [h.1, b]; rfl, congrArg Nat.succ c⟩
  | .l x :: r, xs, _, e, .cons h t => by cases e
theorem big_of {n : Nat} (h : n ≤ 100000) : n ≤ sizeLine := Nat.le_trans h (by decide)
theorem big_lt {n : Nat} (h : n < 100000) : n < sizeLine := Nat.lt_of_lt_of_le h (by decide)
def dTup (t : DA) : DT := fun ρ R => t ρ fun ws => ∃ xs, unD ws = some xs ∧ xs.length ≤ 100000 ∧ R (.d (.tuple xs)) 2
def dLst (t : DA) : DT := fun ρ R => t ρ fun ws => ∃ xs, unD ws = some xs ∧ xs.length ≤ 100000 ∧ R (.l xs) 2
theorem x_tup {t : DA} {x1} (h : PA X es (canA T X.K t)) : PE X (.Tuple es x1 pos) (can T X.K (dTup t)) := PE_imp (pe_tup h) fun σ H Q ⟨H0, ρ, R, rep, ht, k⟩ =>
  ⟨H0, ρ, _, rep, ht, fun vs H1 ws e rs ⟨xs, ex, hl, r⟩ => by
    obtain ⟨a, b, c⟩ := rws_un ex rs
    refine ⟨by rw [c]; exact big_of hl, fun p hp => k _ _ (.d (.tuple xs)) 2 (e.trans (Ext.new hp)) ⟨b, ?_⟩ frs_d r⟩
    exact .tup (.inl (.inl upd_same)) (DpAll.tups (Ext.new (T := T) hp).tupE _ _ b a)⟩
theorem x_lst {t : DA} (h : PA X es (canA T X.K t)) : PE X (.List es pos) (can T X.K (dLst t)) := PE_imp (pe_lst h) fun σ H Q ⟨H0, ρ, R, rep, ht, k⟩ =>
  ⟨H0, ρ, _, rep, ht, fun vs H1 ws e rs ⟨xs, ex, hl, r⟩ => by
    obtain ⟨a, b, c⟩ := rws_un ex rs
    refine ⟨by rw [c]; exact big_of hl, fun p hp => k _ _ (.l xs) 2 (e.trans (Ext.new hp)) ⟨p, vs, rfl, upd_same, DpAll.tups (Ext.new (T := T) hp).tupE _ _ b a, b⟩ ?_ r⟩
    exact frs_new rep e fun _ q eq => by cases eq; exact hp⟩

/-! ### calls of one's own defs -/
abbrev DSp := List W → (W → Prop) → Prop
def toSp (T : List NdefX.NTab) (K : PySem.W.Frag) (s : DSp) : Sp := fun vs H Q _ => ∃ ws R, RWs K H vs ws ∧ NdefX.TabsN T H ∧ s ws R ∧ ∀ v H' w, Ext T H H' → RW K H' v w → NewP H v w → R w → Q v H'
def dCall (s : DSp) (t : DA) : DT := fun ρ R => t ρ fun ws => s ws fun w => R w 2
/-- a def that stands behind the top, and keeps its promise -/
structure Cal (P : Program) (w : World) (K : PySem.W.Frag) (mg : Str → Option Value) (base : Heap) (k : Nat) (x : Str) (ps : List Str) (sp : Sp) : Prop where
  ex : ∃ (f : Addr) (fd : FuncData), FnOk P w K mg base CX0 k f fd ps sp ∧ mg x = some (.ref f) ∧ PySem.W.keepIn K (.ref f) = true ∧ Binds K fd ps []
theorem x_call {k j : Nat} {x : Str} {ps : List Str} {s : DSp} {t : DA} {p pos : Pos} (G : Cal X.prog X.w X.K X.mg X.base k x ps (toSp T X.K s)) (hr : Room j X.A) (ha : PA X (e :: es) (canA T X.K t)) (hk : k ≤ j := by decide) (hg : Gl X x := by rfl) (hdb : (x == ("__debug__" : Str)) = false := by decide)
    (he : starEach (e :: es) X.env = (false, eval e X.env) :: starEach es X.env := by rfl) (hpl : (backTo pos (starEach es X.env)).any (·.1) = false := by rfl) : PE X (.Call (.Name x p) (e :: es) [] pos) (can T X.K (dCall s t)) := by
  obtain ⟨f, fd, F, m, kp, b⟩ := G.ex
  refine PE_imp (pe_call F (hr.mono hk) hg m kp b .nil pass0 ha hdb he hpl) fun σ H Q ⟨H0, ρ, R, rep, ht, k⟩ => ⟨H0, ρ, _, rep, ht, fun vs H1 ws e rs hs => ?_⟩
  show toSp T X.K s (vs ++ []) H1 Q E0
  rw [List.append_nil]
  exact ⟨ws, _, rs, e.tb rep.tb, hs, fun v H' w e2 rw' nw r => k v H' w 2 (e.trans e2) rw' (frs_new rep e nw) r⟩
end
end Dw

/-! part DwC -/
set_option Elab.async false
set_option linter.all false
set_option maxRecDepth 100000
set_option maxHeartbeats 4000000
namespace Dw
open PySem PySem.Spec PyProof.Rows L2
section
variable {T : List NdefX.NTab} {K : PySem.W.Frag} {X : Cx} {e a b c : Expr} {es : List Expr} {pos : Pos} {H0 H H1 H2 : Hp} {σ : L2.St} {ρ : Rho}

/-! ### what is walked -/
def dItL (t : DT) : DI := fun ρ k => t ρ fun w n => ∃ xs, w = .l xs ∧ k xs n
def dItT (t : DT) : DI := fun ρ k => t ρ fun w _ => ∃ xs, w = .d (.tuple xs) ∧ k xs 2
theorem itl_ok {a : Addr} {vs : List V} {xs : List PyData} (hs : ∀ H', Ext T H H' → SqL K H' a vs) (hd : DpAll K H vs xs) (im : immAll xs = true) : ItOk T K (Itl K a) H xs := fun H' e => by
  refine ⟨fun i hi => ?_, ⟨vs, hs H' e, by rw [DpAll.length hd]; exact Nat.le_refl _⟩, fun i x v H'' hx y => ?_⟩
  · obtain ⟨v, h1, h2⟩ := DpAll.get hd (List.getElem?_eq_getElem hi)
    exact ⟨vs, v, hs H' e, h1⟩
  · obtain ⟨rfl, hy⟩ := y
    obtain ⟨v2, h1, h2⟩ := DpAll.get hd hx
    have h3 := hy vs (hs _ e)
    rw [h1] at h3
    cases h3
    have i := immAll_get im hx
    exact ⟨Ext.refl _, Dp.tups e.tupE _ _ i h2, i⟩
theorem itt_ok {a : Addr} {vs : List V} {xs : List PyData} (hs : ∀ H', Ext T H H' → SqT K H' a vs) (hd : DpAll K H vs xs) (im : immAll xs = true) : ItOk T K (Itt K a) H xs := fun H' e => by
  refine ⟨fun i hi => ?_, ⟨vs, hs H' e, by rw [DpAll.length hd]; exact Nat.le_refl _⟩, fun i x v H'' hx y => ?_⟩
  · obtain ⟨v, h1, h2⟩ := DpAll.get hd (List.getElem?_eq_getElem hi)
    exact ⟨vs, v, hs H' e, h1⟩
  · obtain ⟨rfl, hy⟩ := y
    obtain ⟨v2, h1, h2⟩ := DpAll.get hd hx
    have h3 := hy vs (hs _ e)
    rw [h1] at h3
    cases h3
    have i := immAll_get im hx
    exact ⟨Ext.refl _, Dp.tups e.tupE _ _ i h2, i⟩
theorem i_list {tg : Expr} {t : DT} (h : PE X e (can T X.K t)) : PI X tg e (canI T X.K (dItL t)) := PI_imp (pi_list h) fun σ H R ⟨H0, ρ, k, rep, ht, q⟩ =>
  ⟨H0, ρ, _, rep, ht, fun v H1 w n e rw' fr ⟨xs, ew, hk⟩ => by
    subst ew
    obtain ⟨p, vs, rfl, h1, h2, h3⟩ := rw'
    refine ⟨p, rfl, ⟨vs, .inl (.inl h1)⟩, q (Itl X.K p) H1 xs n e hk fun S hO h1n => ?_⟩
    have hS : ∀ a, S a → ∃ vs, H1 a = some (.lst vs) := fun a z => let ⟨_, vs, h⟩ := hO a z; ⟨vs, e.lst h⟩
    have np : ¬ S p := fun z => by
      by_cases q : n = 1
      · exact h1n q p z
      · obtain ⟨a1, a2, a3⟩ := fr rfl p rfl
        have own := hO p z
        by_cases q0 : n = 0
        · exact a3 q0 own.1
        · have e2 := a2 (by omega)
          obtain ⟨_, ws, e3⟩ := own
          rw [e3] at e2
          cases e2
    have hp : strip H1 S p = some (.lst vs) := by rw [strip_no np]; exact h1
    have tu : TupE X.K H1 (strip H1 S) := tupE_strip hS
    exact itl_ok (vs := vs) (fun H' e => e.sqL (.inl (.inl hp))) (DpAll.tups tu _ _ h3 h2) h3⟩
theorem i_tup {tg : Expr} {t : DT} (h : PE X e (can T X.K t)) : PI X tg e (canI T X.K (dItT t)) := PI_imp (pi_tup h) fun σ H R ⟨H0, ρ, k, rep, ht, q⟩ =>
  ⟨H0, ρ, _, rep, ht, fun v H1 w n e rw' fr ⟨xs, ew, hk⟩ => by
    subst ew
    obtain ⟨im, dp⟩ := rw'
    cases dp with
    | @tup a vs _ hs ha =>
      refine ⟨a, rfl, ⟨vs, hs⟩, q (Itt X.K a) H1 xs 2 e hk fun S hO h1n => ?_⟩
      have hS : ∀ a, S a → ∃ vs, H1 a = some (.lst vs) := fun a z => let ⟨_, vs, h⟩ := hO a z; ⟨vs, e.lst h⟩
      have tu : TupE X.K H1 (strip H1 S) := tupE_strip hS
      exact itt_ok (vs := vs) (fun H' e => e.sqT (tu _ _ hs)) (DpAll.tups tu _ _ im ha) im⟩
/-- lo, lo + 1, .. -/
def rng (lo : Int) (n : Nat) : List PyData := (List.range n).map fun (i : Nat) => PyData.int (lo + (i : Int))
theorem rng_len (lo : Int) (n : Nat) : (rng lo n).length = n := by simp [rng]
theorem rng_at {lo : Int} {n i : Nat} {x : PyData} (h : (rng lo n)[i]? = some x) : x = .int (lo + (i : Int)) ∧ i < n := by
  have hi := (List.getElem?_eq_some_iff.mp h).1
  rw [rng_len] at hi
  unfold rng at h
  rw [List.getElem?_map, List.getElem?_range hi] at h
  exact ⟨(Option.some.inj h).symm, hi⟩
theorem itr_ok {lo : Int} {n : Nat} : ItOk T K (Itr lo n) H (rng lo n) := fun H' e => by
  refine ⟨fun i hi => by rw [rng_len] at hi; exact hi, by rw [rng_len]; exact Nat.le_refl _, fun i x v H'' hx y => ?_⟩
  obtain ⟨rfl, rfl⟩ := y
  obtain ⟨rfl, _⟩ := rng_at hx
  exact ⟨Ext.refl _, .int _, rfl⟩
def dRng1 (t : DT) : DI := fun ρ k => t ρ fun w _ => ∃ j, w = .d (.int j) ∧ (-1000000 ≤ j ∧ j ≤ 1000000) ∧ k (rng 0 j.toNat) 2
def dRng2 (t u : DT) : DI := fun ρ k => t ρ fun w _ => ∃ i, w = .d (.int i) ∧ u ρ fun w' _ => ∃ j, w' = .d (.int j) ∧ (-1000000 ≤ i ∧ i ≤ 1000000 ∧ -1000000 ≤ j ∧ j ≤ 1000000) ∧ k (rng i (j - i).toNat) 2
theorem i_rng1 {tg : Expr} {t : DT} {p : Pos} (hm : X.mg "range" = none) (h : PE X e (can T X.K t)) (hg : Gl X "range" := by rfl) (hs : starEach [e] X.env = [(false, eval e X.env)] := by rfl) : PI X tg (.Call (.Name "range" p) [e] [] pos) (canI T X.K (dRng1 t)) := PI_imp (pi_range1 hg hm (pa_cons h pa_nil hs) hs) fun σ H R ⟨H0, ρ, k, rep, ht, q⟩ =>
  ⟨H0, ρ, _, rep, ht, fun v H1 w n e rw' fr ⟨j, ew, hj, hk⟩ => by
    subst ew
    obtain rfl := rw_int rw'
    exact ⟨j, rfl, by omega, by omega, q _ H1 _ 2 e hk fun S _ _ => itr_ok⟩⟩
theorem i_rng2 {tg : Expr} {t u : DT} {p : Pos} (hm : X.mg "range" = none) (h : PE X a (can T X.K t)) (h2 : PE X b (can T X.K u)) (hg : Gl X "range" := by rfl) (hs : starEach [a, b] X.env = [(false, eval a X.env), (false, eval b X.env)] := by rfl) (hs2 : starEach [b] X.env = [(false, eval b X.env)] := by rfl) :
    PI X tg (.Call (.Name "range" p) [a, b] [] pos) (canI T X.K (dRng2 t u)) := PI_imp (pi_range2 hg hm (pa_cons h (pa_cons h2 pa_nil hs2) (by rw [hs, hs2])) hs hs2) fun σ H R ⟨H0, ρ, k, rep, ht, q⟩ =>
  ⟨H0, ρ, _, rep, ht, fun v H1 w n e rw' fr ⟨i, ew, hu⟩ => by
    subst ew
    obtain rfl := rw_int rw'
    refine ⟨H0, ρ, _, rep.ext e, hu, fun v2 H2 w2 n2 e2 rw2 fr2 ⟨j, ew2, hj, hk⟩ => ?_⟩
    subst ew2
    obtain rfl := rw_int rw2
    exact ⟨i, j, rfl, by omega, q _ H2 _ 2 (e.trans e2) hk fun S _ _ => itr_ok⟩⟩

/-! ### targets -/
def gdName (i : Nat) : DG := fun x ρ k => k (ρ.set i (some (.d x, true)))
theorem g_name (i : Nat) : GOk T K (gName i) (gdName i) := fun v x H0 Hb H σ ρ k Q rep eb hd im hk hq => hq _ _ (rep.set (w := .d x) (Ext.refl Hb) ⟨im, hd⟩ (fun z => nomatch z) i) hk
def gdTup2 (i j : Nat) : DG := fun x ρ k => ∃ y z, x = .tuple [y, z] ∧ k ((ρ.set i (some (.d y, true))).set j (some (.d z, true)))
theorem g_tup2 (i j : Nat) : GOk T K (gTup K 2 (gCons (gName i) (gCons (gName j) gNil))) (gdTup2 i j) := fun v x H0 Hb H σ ρ k Q rep eb hd im ⟨y, z, ex, hk⟩ hq => by
  subst ex
  cases hd with
  | @tup a vs _ hs ha =>
    cases ha with
    | @cons v1 _ _ _ h1 t =>
      cases t with
      | @cons v2 _ _ _ h2 t =>
        cases t
        have im2 : (imm y && (imm z && true)) = true := im
        simp only [Bool.and_eq_true] at im2
        refine ⟨a, [v1, v2], rfl, eb.sqT hs, rfl, v1, [v2], rfl, v2, [], rfl, rfl, ?_⟩
        exact hq _ _ ((rep.set (w := .d y) (Ext.refl Hb) ⟨im2.1, h1⟩ (fun z => nomatch z) i).set (w := .d z) (Ext.refl Hb) ⟨im2.2.1, h2⟩ (fun z => nomatch z) j) hk
def gdTup3 (i j l : Nat) : DG := fun x ρ k => ∃ y z u, x = .tuple [y, z, u] ∧ k (((ρ.set i (some (.d y, true))).set j (some (.d z, true))).set l (some (.d u, true)))
theorem g_tup3 (i j l : Nat) : GOk T K (gTup K 3 (gCons (gName i) (gCons (gName j) (gCons (gName l) gNil)))) (gdTup3 i j l) := fun v x H0 Hb H σ ρ k Q rep eb hd im ⟨y, z, u, ex, hk⟩ hq => by
  subst ex
  cases hd with
  | @tup a vs _ hs ha =>
    cases ha with
    | @cons v1 _ _ _ h1 t =>
      cases t with
      | @cons v2 _ _ _ h2 t =>
        cases t with
        | @cons v3 _ _ _ h3 t =>
          cases t
          have im2 : (imm y && (imm z && (imm u && true))) = true := im
          simp only [Bool.and_eq_true] at im2
          refine ⟨a, [v1, v2, v3], rfl, eb.sqT hs, rfl, v1, [v2, v3], rfl, v2, [v3], rfl, v3, [], rfl, rfl, ?_⟩
          exact hq _ _ (((rep.set (w := .d y) (Ext.refl Hb) ⟨im2.1, h1⟩ (fun z => nomatch z) i).set (w := .d z) (Ext.refl Hb) ⟨im2.2.1, h2⟩ (fun z => nomatch z) j).set (w := .d u) (Ext.refl Hb) ⟨im2.2.2.1, h3⟩ (fun z => nomatch z) l) hk
/-! the block's own names -/
def wipeR (ρ : Rho) : List Nat → Rho
  | [] => ρ
  | v :: vs => (wipeR ρ vs).set v none
theorem RepS.wipe (r : RepS T K H0 H σ ρ) : ∀ vs : List Nat, RepS T K H0 H (L2.wipe σ vs) (wipeR ρ vs)
  | [] => r
  | v :: vs => (RepS.wipe r vs).drop v
theorem wipe_set {α : Type} (x : Option α) (l : List (Option α)) : ∀ (vs : List Nat) (i : Nat), i ∈ vs → ∀ w : List (Option α) → List Nat → List (Option α), (∀ l, w l [] = l) → (∀ l v vs, w l (v :: vs) = (w l vs).set v none) → w (l.set i x) vs = w l vs := by
  intro vs
  induction vs with
  | nil =>
    intro i hi
    cases hi
  | cons v vs ih =>
    intro i hi w h1 h2
    rw [h2, h2]
    by_cases q : i ∈ vs
    · rw [ih i q w h1 h2]
    · have e : i = v := by
        rcases List.mem_cons.mp hi with z | z
        · exact z
        · exact absurd z q
      subst e
      have cm : ∀ (us : List Nat), i ∉ us → w (l.set i x) us = (w l us).set i x := by
        intro us
        induction us with
        | nil =>
          intro _
          rw [h1, h1]
        | cons u us ih2 =>
          intro hu
          rw [h2, h2, ih2 (fun z => hu (List.mem_cons_of_mem _ z)), List.set_comm _ _ (fun z => hu (by rw [z]; exact List.mem_cons_self ..))]
      rw [cm vs q, List.set_set]
theorem wipe_at {σ : L2.St} {i : Nat} {vs : List Nat} {x : Option V} (h : i ∈ vs) : L2.wipe (σ.set i x) vs = L2.wipe σ vs := wipe_set x σ vs i h (fun l vs => L2.wipe l vs) (fun _ => rfl) (fun _ _ _ => rfl)
theorem wipe_wipe {σ : L2.St} : ∀ {us vs : List Nat}, (∀ i ∈ us, i ∈ vs) → L2.wipe (L2.wipe σ us) vs = L2.wipe σ vs
  | [], _, _ => rfl
  | u :: us, vs, h => by
    show L2.wipe ((L2.wipe σ us).set u none) vs = _
    rw [wipe_at (h u (List.mem_cons_self ..)), wipe_wipe fun i hi => h i (List.mem_cons_of_mem _ hi)]
/-- a target that stores at places of vs -/
def GW (g : TG) (vs : List Nat) : Prop := ∀ (v : V) (σ : L2.St) (H : Hp) (Q : L2.St → Hp → Prop), g v σ H Q → g v σ H fun σ' H' => L2.wipe σ' vs = L2.wipe σ vs ∧ Q σ' H'
theorem gw_name {i : Nat} {vs : List Nat} (h : i ∈ vs) : GW (gName i) vs := fun v σ H Q q => ⟨wipe_at h, q⟩
theorem gw_tup2 {i j : Nat} {vs : List Nat} (h : i ∈ vs) (h2 : j ∈ vs) : GW (gTup K 2 (gCons (gName i) (gCons (gName j) gNil))) vs := fun v σ H Q ⟨a, xs, e, hs, hl, v1, r1, e1, v2, r2, e2, e3, q⟩ =>
  ⟨a, xs, e, hs, hl, v1, r1, e1, v2, r2, e2, e3, (wipe_at h2).trans (wipe_at h), q⟩

/-! ### comprehensions -/
def dLc (it : DI) (dg : DG) (tt : DB) (te : DT) (vs : List Nat) : DT := fun ρ R => it ρ fun xs _ => xs.length ≤ 100000 ∧ ∃ (sel : PyData → Bool) (f : PyData → PyData),
  (∀ (i : Nat) (x : PyData), xs[i]? = some x → dg x (wipeR ρ vs) fun ρ' => tt ρ' fun b => b = sel x ∧ (b = true → te ρ' fun w _ => w = .d (f x))) ∧ R (.l ((xs.filter sel).map f)) 2
theorem strip_none (H : Hp) : strip H (fun _ => False) = H := funext fun a => strip_no (fun z => z)
/-- what the new list holds behind i turns -/
structure LcW (T : List NdefX.NTab) (K : PySem.W.Frag) (H1 : Hp) (D : Addr) (ys : List PyData) (H : Hp) : Prop where
  ex : Ext T H1 H
  at_ : ∃ vs, H D = some (.lst vs) ∧ DpAll K H vs ys ∧ immAll ys = true
theorem lcw_app {D : Addr} {ys : List PyData} {y : V} {x : PyData} (h : LcW T K H1 D ys H) (hD : H1 D = none) (e : Ext T H H2) (hx : Dp K H2 y x) (im : imm x = true) (hl : ys.length < 100000) :
    ∃ acc, H2 D = some (.lst acc) ∧ acc.length < sizeLine ∧ LcW T K H1 D (ys ++ [x]) (upd H2 D (.lst (acc ++ [y]))) := by
  obtain ⟨vs, h1, h2, h3⟩ := h.at_
  have hd := e.lst h1
  have tu := tupE_lst (K := K) (o := .lst (vs ++ [y])) hd
  have im2 : immAll (ys ++ [x]) = true := by
    rw [immAll_append, h3]
    show imm x && true = true
    rw [im]
    rfl
  refine ⟨vs, hd, by rw [DpAll.length h2]; exact big_lt hl, (h.ex.trans e).mut hD hd, vs ++ [y], upd_same, ?_, im2⟩
  refine DpAll.tups tu _ _ im2 (DpAll.append (DpAll.tups e.tupE _ _ h3 h2) (.cons hx .nil))
theorem take_fm {xs : List PyData} {i : Nat} {x : PyData} (h : xs[i]? = some x) (sel : PyData → Bool) (f : PyData → PyData) : ((xs.take (i + 1)).filter sel).map f = ((xs.take i).filter sel).map f ++ (if sel x = true then [f x] else []) := by
  rw [List.take_add_one, h, List.filter_append, List.map_append]
  congr 1
  show ((([x] : List PyData).filter sel).map f) = _
  cases q : sel x <;> simp [q]
theorem canLc {g : TG} {it : DI} {dg : DG} {tt : DB} {te : DT} {vs : List Nat} (hg1 : GOk T K g dg) (hg2 : GW g vs) : ∀ σ H Q, can T K (dLc it dg tt te vs) σ H Q → tLc (canI T K it) g (canB T K tt) (can T K te) vs σ H Q := fun σ H Q ⟨H0, ρ, R, rep, ht, k⟩ =>
  ⟨H0, ρ, _, rep, ht, fun J H1 xs n e ⟨hl, sel, f, hb, r⟩ hJ D hD => by
    have hJ1 : ItOk T K J H1 xs := by
      have h := hJ (fun _ => False) (fun _ z => z.elim) (fun _ _ z => z)
      rw [strip_none] at h
      exact h
    refine ⟨fun i m H' => m = xs.length - i ∧ i ≤ xs.length ∧ LcW T K H1 D (((xs.take i).filter sel).map f) H', ⟨_, rfl, Nat.zero_le _, Ext.new hD, [], upd_same, .nil, rfl⟩, ?_⟩
    rintro i m H' ⟨rfl, hi, hw⟩
    obtain ⟨jg, js, jy⟩ := hJ1 H' hw.ex
    by_cases hlt : i < xs.length
    · refine .inr ⟨jg i hlt, fun H2 => LcW T K H1 D (((xs.take (i + 1)).filter sel).map f) H2, fun H2 h2 => ⟨xs.length - (i + 1), by omega, rfl, hlt, h2⟩, fun v H2 y => ?_⟩
      have hx : xs[i]? = some xs[i] := List.getElem?_eq_getElem hlt
      obtain ⟨e2, dv, iv⟩ := jy i _ v H2 hx y
      have rep2 : RepS T K H0 H2 (L2.wipe σ vs) (wipeR ρ vs) := ((rep.ext e).ext (hw.ex.trans e2)).wipe _
      have tw : ∀ σ' : L2.St, L2.wipe σ' vs = L2.wipe (L2.wipe σ vs) vs → L2.wipe σ' vs = L2.wipe σ vs := fun σ' h => by
        rw [h, wipe_wipe fun _ z => z]
      have h3 := hg2 v (L2.wipe σ vs) H2 _ (hg1 v _ H0 H2 H2 _ _ _ (fun σ2 H3 => canB T K tt σ2 H3 fun b H3 =>
        if b = true then can T K te σ2 H3 fun y H4 => ∃ acc, H4 D = some (.lst acc) ∧ acc.length < sizeLine ∧ LcW T K H1 D (((xs.take (i + 1)).filter sel).map f) (upd H4 D (.lst (acc ++ [y]))) else LcW T K H1 D (((xs.take (i + 1)).filter sel).map f) H3) rep2 (Ext.refl _) dv iv (hb i _ hx) fun σ' ρ' rep' hk => ?_)
      · refine cast ?_ h3
        congr 1
        funext σ2 H3
        have e5 : L2.wipe σ2 vs = L2.wipe (L2.wipe σ vs) vs ↔ L2.wipe σ2 vs = L2.wipe σ vs := by
          rw [wipe_wipe fun _ z => z]
        rw [propext e5]
      · refine ⟨H0, ρ', _, rep', hk, fun b H3 e3 hb => ?_⟩
        obtain ⟨hb1, hb2⟩ := hb
        cases b with
        | true =>
          refine iteT ⟨H0, ρ', _, rep'.ext e3, hb2 rfl, fun y H4 w n e4 rw' _ ew => ?_⟩
          subst ew
          have a := lcw_app hw hD (e2.trans (e3.trans e4)) rw'.2 rw'.1 (by
            have h1 : (((xs.take i).filter sel).map f).length ≤ i := by
              rw [List.length_map]
              exact Nat.le_trans (List.length_filter_le _ _) (by rw [List.length_take]; exact Nat.min_le_left _ _)
            omega)
          rw [take_fm hx, if_pos hb1.symm]
          exact a
        | false =>
          refine iteF ?_
          rw [take_fm hx, if_neg (by rw [← hb1]; decide), List.append_nil]
          obtain ⟨vs, h1, h2, h4⟩ := hw.at_
          exact ⟨(hw.ex.trans e2).trans e3, vs, (e2.trans e3).lst h1, DpAll.tups (e2.trans e3).tupE _ _ h4 h2, h4⟩
    · have ei : i = xs.length := by omega
      subst ei
      rw [List.take_length] at hw
      obtain ⟨vs, h1, h2, h3⟩ := hw.at_
      exact .inl ⟨js, k (.ref D) H' (.l ((xs.filter sel).map f)) 2 (e.trans hw.ex) ⟨D, vs, rfl, h1, h2, h3⟩ (frs_new rep e fun _ p ep => by cases ep; exact hD) r⟩⟩
theorem x_lc {elt tg iter : Expr} {ifs : List Expr} {scope : Scope} {own : List (Str × Nat)} {g : TG} {it : DI} {dg : DG} {tt : DB} {te : DT} (hg1 : GOk T X.K g dg) (hg2 : GW g (own.map (·.2))) (hN : X.N.Nodup) (hi : PI X tg iter (canI T X.K it)) (ok : BlkOk X.N X.env.scope scope own)
    (hg : ∀ (s : Shared) (H : Hp) (C : Addr) (cl : List (Str × Addr)) (fp : List Addr), PG (X.blk s H scope (compEnvC scope cl C X.env) fp) tg g) (ht : ∀ (s : Shared) (H : Hp) (C : Addr) (cl : List (Str × Addr)) (fp : List Addr), PTs (X.blk s H scope (compEnvC scope cl C X.env) fp) ifs (canB T X.K tt))
    (he : ∀ (s : Shared) (H : Hp) (C : Addr) (cl : List (Str × Addr)) (fp : List Addr), PE (X.blk s H scope (compEnvC scope cl C X.env) fp) elt (can T X.K te)) (hc : X.calm = true := by rfl) (hs : ∀ x, foldedSetIterable iter X.env x = pure x := by intro _; rfl) :
    PE X (.ListComp elt [⟨tg, iter, ifs, 0⟩] scope pos) (can T X.K (dLc it dg tt te (own.map (·.2)))) := PE_imp (pe_lc hc hN hi ok hg ht he hs) (canLc hg1 hg2)
def dYes : DB := fun _ R => R true
theorem t_nil : PTs X [] (canB T X.K dYes) := ⟨fun pins s σ H Q I ⟨H0, ρ, R, rep, r, k⟩ => (pts_nil (X := X)).run pins s σ H Q I (k true H (Ext.refl H) r)⟩
/-! two clauses -/
def only (D : Addr) : Addr → Prop := fun a => a = D
theorem ext_strip1 {D : Addr} {vs : List V} (e : Ext T H1 H) (h : H1 D = none) (hl : H D = some (.lst vs)) : Ext T H1 (strip H (only D)) := by
  refine ⟨fun b o hb n => ?_, fun b hb => ?_, fun t p hp => ?_⟩
  · rw [strip_no (S := only D) (ne_of_none hb h)]
    exact e.kp b o hb n
  · by_cases q : b = D
    · rw [q]
      exact h
    · rw [strip_no (S := only D) q] at hb
      exact e.dm b hb
  · obtain ⟨ps, hP, tr, hc⟩ := e.tb t p hp
    refine ⟨ps, ?_, tr, fun pos cv e2 => ?_⟩
    · rw [strip_no (S := only D) (ne_of hP hl (fun z => nomatch z))]
      exact hP
    · obtain ⟨c, e3, e4⟩ := hc pos cv e2
      refine ⟨c, e3, ?_⟩
      rw [strip_no (S := only D) (ne_of e4 hl (fun z => nomatch z))]
      exact e4
theorem ext_strip2 {D : Addr} {vs : List V} (e : Ext T H1 H) (h : H1 D = some (.lst vs)) : Ext T (strip H1 (only D)) (strip H (only D)) := by
  refine ⟨fun b o hb n => ?_, fun b hb => ?_, fun t p hp => ?_⟩
  · obtain ⟨q1, q2⟩ := strip_some hb
    rw [strip_no (S := only D) q1]
    exact e.kp b o q2 n
  · by_cases q : b = D
    · exact strip_yes (S := only D) q
    · rw [strip_no (S := only D) q] at hb ⊢
      exact e.dm b hb
  · obtain ⟨ps, hP, tr, hc⟩ := e.tb (fun q hq => by
      obtain ⟨ps, hP, tr, hc⟩ := t q hq
      refine ⟨ps, (strip_some hP).2, tr, fun pos cv e2 => ?_⟩
      obtain ⟨c, e3, e4⟩ := hc pos cv e2
      exact ⟨c, e3, (strip_some e4).2⟩) p hp
    have hl := e.lst h
    refine ⟨ps, ?_, tr, fun pos cv e2 => ?_⟩
    · rw [strip_no (S := only D) (ne_of hP hl (fun z => nomatch z))]
      exact hP
    · obtain ⟨c, e3, e4⟩ := hc pos cv e2
      refine ⟨c, e3, ?_⟩
      rw [strip_no (S := only D) (ne_of e4 hl (fun z => nomatch z))]
      exact e4
theorem strip_ext {S : Addr → Prop} (hS : ∀ a, S a → ∃ vs, H a = some (.lst vs)) : Ext T (strip H S) H := Ext.of fun b o h => (strip_some h).2
def dLc2 (it : DI) (dg : DG) (it1 : DI) (dg1 : DG) (tt1 : DB) (te : DT) (vs vs1 : List Nat) : DT := fun ρ R => it ρ fun xs _ => xs.length ≤ 300 ∧ ∃ g : PyData → List PyData,
  (∀ (i : Nat) (x : PyData), xs[i]? = some x → dg x (wipeR ρ vs) fun ρ' => it1 ρ' fun ys n => n ≠ 1 ∧ ys.length ≤ 300 ∧ ∃ (sel : PyData → Bool) (f : PyData → PyData),
    (∀ (j : Nat) (y : PyData), ys[j]? = some y → dg1 y (wipeR ρ' vs1) fun ρ2 => tt1 ρ2 fun b => b = sel y ∧ (b = true → te ρ2 fun w _ => w = .d (f y))) ∧ g x = (ys.filter sel).map f) ∧
  (∀ x ∈ xs, (g x).length ≤ 300) ∧ R (.l (xs.flatMap g)) 2
theorem flat_len {g : PyData → List PyData} : ∀ {xs : List PyData}, (∀ x ∈ xs, (g x).length ≤ 300) → (xs.flatMap g).length ≤ 300 * xs.length
  | [], _ => by simp
  | x :: xs, h => by
    rw [List.flatMap_cons, List.length_append, List.length_cons]
    have h1 := h x (List.mem_cons_self ..)
    have h2 := flat_len (xs := xs) fun y hy => h y (List.mem_cons_of_mem _ hy)
    omega
theorem take_flat {xs : List PyData} {i : Nat} {x : PyData} (h : xs[i]? = some x) (g : PyData → List PyData) : (xs.take (i + 1)).flatMap g = (xs.take i).flatMap g ++ g x := by
  rw [List.take_add_one, h, List.flatMap_append]
  simp
theorem canLc2 {g g1 : TG} {it it1 : DI} {dg dg1 : DG} {tt1 : DB} {te : DT} {vs vs1 : List Nat} (hga : GOk T K g dg) (hgw : GW g vs) (hga1 : GOk T K g1 dg1) (hgw1 : GW g1 vs1) : ∀ σ H Q, can T K (dLc2 it dg it1 dg1 tt1 te vs vs1) σ H Q → tLc2 (canI T K it) g tYes (canI T K it1) g1 (canB T K tt1) (can T K te) vs vs1 σ H Q := fun σ H Q ⟨H0, ρ, R, rep, ht, k⟩ =>
  ⟨H0, ρ, _, rep, ht, fun J H1 xs n e ⟨hl, g', hb, hgl, r⟩ hJ D hD => by
    have hJ1 : ItOk T K J H1 xs := by
      have h := hJ (fun _ => False) (fun _ z => z.elim) (fun _ _ z => z)
      rw [strip_none] at h
      exact h
    have hH0D : H0 D = none := rep.ex.dm D (e.dm D hD)
    refine ⟨fun i m H' => m = xs.length - i ∧ i ≤ xs.length ∧ LcW T K H1 D ((xs.take i).flatMap g') H', ⟨_, rfl, Nat.zero_le _, Ext.new hD, [], upd_same, .nil, rfl⟩, ?_⟩
    rintro i m H' ⟨rfl, hi, hw⟩
    obtain ⟨jg, js, jy⟩ := hJ1 H' hw.ex
    by_cases hlt : i < xs.length
    · refine .inr ⟨jg i hlt, fun H2 => LcW T K H1 D ((xs.take (i + 1)).flatMap g') H2, fun H2 h2 => ⟨xs.length - (i + 1), by omega, rfl, hlt, h2⟩, fun v H2 y => ?_⟩
      have hx : xs[i]? = some xs[i] := List.getElem?_eq_getElem hlt
      obtain ⟨e2, dv, iv⟩ := jy i _ v H2 hx y
      have hw2 : LcW T K H1 D ((xs.take i).flatMap g') H2 := by
        obtain ⟨vs, h1, h2, h3⟩ := hw.at_
        exact ⟨hw.ex.trans e2, vs, e2.lst h1, DpAll.tups e2.tupE _ _ h3 h2, h3⟩
      obtain ⟨us2, hd2, hp2, im2⟩ := hw2.at_
      have hS2 : ∀ a, only D a → ∃ vs, H2 a = some (.lst vs) := fun a z => ⟨us2, by rw [show a = D from z]; exact hd2⟩
      have rep2 : RepS T K H0 (strip H2 (only D)) (L2.wipe σ vs) (wipeR ρ vs) := ((rep.ext e).ext (ext_strip1 hw2.ex hD hd2)).wipe _
      have dvb : Dp K (strip H2 (only D)) v xs[i] := Dp.tups (tupE_strip hS2) _ _ iv dv
      have len1 : ((xs.take i).flatMap g').length ≤ 90000 := by
        have h1 := flat_len (g := g') (xs := xs.take i) fun x hx => hgl x (List.mem_of_mem_take hx)
        rw [List.length_take] at h1
        omega
      have h3 := hgw v (L2.wipe σ vs) H2 _ (hga v _ H0 (strip H2 (only D)) H2 _ _ _ (fun σ2 H3 => tYes σ2 H3 fun b H3 =>
        if b = true then canI T K it1 σ2 H3 fun J1 H4 => ∃ W1 : Nat → Nat → Hp → Prop, (∃ m, W1 0 m H4) ∧ ∀ j k H, W1 j k H →
          (J1.stop j H ∧ LcW T K H1 D ((xs.take (i + 1)).flatMap g') H) ∨ (J1.go j H ∧ ∃ Nx1 : Hp → Prop, (∀ H', Nx1 H' → ∃ k', k' < k ∧ W1 (j + 1) k' H') ∧ ∀ x H', J1.yld j H x H' → g1 x (L2.wipe σ2 vs1) H' fun σ3 H5 => L2.wipe σ3 vs1 = L2.wipe σ2 vs1 ∧ canB T K tt1 σ3 H5 fun b H6 =>
            if b = true then can T K te σ3 H6 fun y H7 => ∃ acc, H7 D = some (.lst acc) ∧ acc.length < sizeLine ∧ Nx1 (upd H7 D (.lst (acc ++ [y]))) else Nx1 H6)
        else LcW T K H1 D ((xs.take (i + 1)).flatMap g') H3) rep2 (strip_ext hS2) dvb iv (hb i _ hx) fun σ' ρ' rep' hk => ?_)
      · refine cast ?_ h3
        congr 1
        funext σ2 H3
        have e5 : L2.wipe σ2 vs = L2.wipe (L2.wipe σ vs) vs ↔ L2.wipe σ2 vs = L2.wipe σ vs := by
          rw [wipe_wipe fun _ z => z]
        rw [propext e5]
      · refine (iteT (B := LcW T K H1 D ((xs.take (i + 1)).flatMap g') H2) ?_)
        refine ⟨H0, ρ', _, rep'.ext (strip_ext hS2), hk, fun J1 H4 ys n1 (e4 : Ext T H2 H4) ⟨hn1, hyl, sel, f, hin, hgx⟩ hJ2 => ?_⟩
        have hD2 : ∃ vs, H2 D = some (.lst vs) := let ⟨vs, h1, _⟩ := hw2.at_; ⟨vs, h1⟩
        have hJ3 := hJ2 (only D) (fun a z => by rw [show a = D from z]; exact ⟨hH0D, hD2⟩) (fun z => absurd z hn1)
        have hw4 : LcW T K H1 D ((xs.take i).flatMap g') H4 := by
          obtain ⟨vs, h1, h2, h3⟩ := hw2.at_
          exact ⟨hw2.ex.trans e4, vs, e4.lst h1, DpAll.tups e4.tupE _ _ h3 h2, h3⟩
        obtain ⟨vs4, hd4, hp4, im4⟩ := hw4.at_
        have x14 : Ext T H1 (strip H4 (only D)) := ext_strip1 hw4.ex hD hd4
        have sD : strip H4 (only D) D = none := strip_yes (S := only D) rfl
        refine ⟨fun j m H' => m = ys.length - j ∧ j ≤ ys.length ∧ LcW T K (strip H4 (only D)) D ((xs.take i).flatMap g' ++ ((ys.take j).filter sel).map f) H', ⟨_, rfl, Nat.zero_le _, strip_ext (fun a z => ⟨vs4, by rw [show a = D from z]; exact hd4⟩), vs4, hd4, by
          rw [List.take_zero]
          show DpAll K H4 vs4 ((xs.take i).flatMap g' ++ [])
          rw [List.append_nil]
          exact hp4, by
          rw [List.take_zero]
          show immAll ((xs.take i).flatMap g' ++ []) = true
          rw [List.append_nil]
          exact im4⟩, ?_⟩
        rintro j m H5 ⟨rfl, hj, hw5⟩
        obtain ⟨kg, ks, ky⟩ := hJ3 H5 hw5.ex
        by_cases hjl : j < ys.length
        · refine .inr ⟨kg j hjl, fun H6 => LcW T K (strip H4 (only D)) D ((xs.take i).flatMap g' ++ ((ys.take (j + 1)).filter sel).map f) H6, fun H6 h6 => ⟨ys.length - (j + 1), by omega, rfl, hjl, h6⟩, fun v6 H6 y6 => ?_⟩
          have hy : ys[j]? = some ys[j] := List.getElem?_eq_getElem hjl
          obtain ⟨e6, dv6, iv6⟩ := ky j _ v6 H6 hy y6
          have rep6 : RepS T K H0 H6 (L2.wipe σ' vs1) (wipeR ρ' vs1) := by
            have z : RepS T K H0 (strip H4 (only D)) σ' ρ' := rep'.ext (ext_strip2 e4 hd2)
            exact (z.ext (hw5.ex.trans e6)).wipe _
          have h7 := hgw1 v6 (L2.wipe σ' vs1) H6 _ (hga1 v6 _ H0 H6 H6 _ _ _ (fun σ3 H7 => canB T K tt1 σ3 H7 fun b H8 =>
            if b = true then can T K te σ3 H8 fun y H9 => ∃ acc, H9 D = some (.lst acc) ∧ acc.length < sizeLine ∧ LcW T K (strip H4 (only D)) D ((xs.take i).flatMap g' ++ ((ys.take (j + 1)).filter sel).map f) (upd H9 D (.lst (acc ++ [y]))) else LcW T K (strip H4 (only D)) D ((xs.take i).flatMap g' ++ ((ys.take (j + 1)).filter sel).map f) H8) rep6 (Ext.refl _) dv6 iv6 (hin j _ hy) fun σ7 ρ7 rep7 hk7 => ?_)
          · refine cast ?_ h7
            congr 1
            funext σ3 H7
            have e5 : L2.wipe σ3 vs1 = L2.wipe (L2.wipe σ' vs1) vs1 ↔ L2.wipe σ3 vs1 = L2.wipe σ' vs1 := by
              rw [wipe_wipe fun _ z => z]
            rw [propext e5]
          · refine ⟨H0, ρ7, _, rep7, hk7, fun b H7 e7 hb => ?_⟩
            obtain ⟨hb1, hb2⟩ := hb
            have tk : (xs.take i).flatMap g' ++ ((ys.take (j + 1)).filter sel).map f = ((xs.take i).flatMap g' ++ ((ys.take j).filter sel).map f) ++ (if sel ys[j] = true then [f ys[j]] else []) := by
              rw [take_fm hy, List.append_assoc]
            cases b with
            | true =>
              refine iteT ⟨H0, ρ7, _, rep7.ext e7, hb2 rfl, fun y H8 w n e8 rw' _ ew => ?_⟩
              subst ew
              have a := lcw_app hw5 sD (e6.trans (e7.trans e8)) rw'.2 rw'.1 (by
                have h1 : (((ys.take j).filter sel).map f).length ≤ j := by
                  rw [List.length_map]
                  exact Nat.le_trans (List.length_filter_le _ _) (by rw [List.length_take]; exact Nat.min_le_left _ _)
                rw [List.length_append]
                omega)
              rw [tk, if_pos hb1.symm]
              exact a
            | false =>
              refine iteF ?_
              rw [tk, if_neg (by rw [← hb1]; decide), List.append_nil]
              obtain ⟨vs, h1, h2, h4⟩ := hw5.at_
              exact ⟨(hw5.ex.trans e6).trans e7, vs, (e6.trans e7).lst h1, DpAll.tups (e6.trans e7).tupE _ _ h4 h2, h4⟩
        · have ej : j = ys.length := by omega
          subst ej
          refine .inl ⟨ks, ?_⟩
          obtain ⟨vs, h1, h2, h3⟩ := hw5.at_
          rw [List.take_length, ← hgx] at h2 h3
          refine ⟨x14.trans hw5.ex, vs, h1, ?_, ?_⟩
          · rw [take_flat hx]
            exact h2
          · rw [take_flat hx]
            exact h3
    · have ei : i = xs.length := by omega
      subst ei
      rw [List.take_length] at hw
      obtain ⟨vs, h1, h2, h3⟩ := hw.at_
      exact .inl ⟨js, k (.ref D) H' (.l (xs.flatMap g')) 2 (e.trans hw.ex) ⟨D, vs, rfl, h1, h2, h3⟩ (frs_new rep e fun _ p ep => by cases ep; exact hD) r⟩⟩
theorem x_lc2 {elt tg iter tg1 iter1 : Expr} {ifs1 : List Expr} {scope : Scope} {own : List (Str × Nat)} {vs1 : List Nat} {g g1 : TG} {it it1 : DI} {dg dg1 : DG} {tt1 : DB} {te : DT} (hga : GOk T X.K g dg) (hgw : GW g (own.map (·.2))) (hga1 : GOk T X.K g1 dg1) (hgw1 : GW g1 vs1) (hN : X.N.Nodup)
    (hi : PI X tg iter (canI T X.K it)) (ok : BlkOk X.N X.env.scope scope own) (hv : ∀ i ∈ vs1, i ∈ own.map (·.2))
    (hg : ∀ (s : Shared) (H : Hp) (C : Addr) (cl : List (Str × Addr)) (fp : List Addr), PG (X.blk s H scope (compEnvC scope cl C X.env) fp) tg g)
    (hi1 : ∀ (s : Shared) (H : Hp) (C : Addr) (cl : List (Str × Addr)) (fp : List Addr), PI (X.blk s H scope (compEnvC scope cl C X.env) fp) tg1 iter1 (canI T X.K it1))
    (hg1 : ∀ (s : Shared) (H : Hp) (C : Addr) (cl : List (Str × Addr)) (fp : List Addr), PG (X.blk s H scope (compEnvC scope cl C X.env) fp) tg1 g1) (ht1 : ∀ (s : Shared) (H : Hp) (C : Addr) (cl : List (Str × Addr)) (fp : List Addr), PTs (X.blk s H scope (compEnvC scope cl C X.env) fp) ifs1 (canB T X.K tt1))
    (he : ∀ (s : Shared) (H : Hp) (C : Addr) (cl : List (Str × Addr)) (fp : List Addr), PE (X.blk s H scope (compEnvC scope cl C X.env) fp) elt (can T X.K te)) (hc : X.calm = true := by rfl) (hs : ∀ x, foldedSetIterable iter X.env x = pure x := by intro _; rfl) (hs1 : ∀ env x, foldedSetIterable iter1 env x = pure x := by intro _ _; rfl) :
    PE X (.ListComp elt [⟨tg, iter, [], 0⟩, ⟨tg1, iter1, ifs1, 0⟩] scope pos) (can T X.K (dLc2 it dg it1 dg1 tt1 te (own.map (·.2)) vs1)) := PE_imp (pe_lc2 (tt := tYes) hc hN hi ok hv hg (fun _ _ _ _ _ => pts_nil) hi1 hg1 ht1 he hs hs1) (canLc2 hga hgw hga1 hgw1)
end
end Dw

/-! part DwD -/
set_option Elab.async false
set_option linter.all false
set_option maxRecDepth 100000
set_option maxHeartbeats 4000000
namespace Dw
open PySem PySem.Spec PyProof.Rows L2
section
variable {T : List NdefX.NTab} {K : PySem.W.Frag} {X : Cx} {e a b c : Expr} {es : List Expr} {pos : Pos} {H0 H H1 H2 : Hp} {σ : L2.St} {ρ : Rho} {st : Stmt} {rest : List Stmt}

/-! ### statements -/
def dNext : DS := fun E ρ => E.nx ρ
def dSeq (t u : DS) : DS := fun E ρ => t { E with nx := u E } ρ
theorem s_nil : PSs X [] (canS T X.K dNext) := PSs_imp pss_nil fun D σ H ⟨H0, ρ, E, rep, h, kn, _⟩ => kn H0 σ H ρ (Ext.refl _) rep h
theorem s_cons {t u : DS} (h1 : PS X st (canS T X.K t)) (h2 : PSs X rest (canS T X.K u)) : PSs X (st :: rest) (canS T X.K (dSeq t u)) := PSs_imp (pss_cons h1 h2) fun D σ H ⟨H0, ρ, E, rep, h, kn, kr, kb, kc⟩ =>
  ⟨H0, ρ, _, rep, h, fun H9 σ' H' ρ' e9 rep' hu => ⟨H9, ρ', E, rep', hu, fun H8 σ2 H2 ρ2 e8 => kn H8 σ2 H2 ρ2 (e9.trans e8), fun v H2 w e2 rw' nw => kr v H2 w (e9.trans e2) rw' (fun q p ep => e9.dm p (nw q p ep)), fun H8 σ2 H2 ρ2 e8 => kb H8 σ2 H2 ρ2 (e9.trans e8), fun H8 σ2 H2 ρ2 e8 => kc H8 σ2 H2 ρ2 (e9.trans e8)⟩, kr, kb, kc⟩
theorem s_one {t : DS} (h1 : PS X st (canS T X.K t)) : PSs X [st] (canS T X.K t) := pss_one h1
def dNever : DS := fun _ _ => False
theorem s_never : PS X st (canS T X.K dNever) := PS_imp ps_never fun D σ H ⟨H0, ρ, E, rep, h, _⟩ => h
theorem ss_never {sts : List Stmt} : PSs X sts (canS T X.K dNever) := PSs_imp pss_never fun D σ H ⟨H0, ρ, E, rep, h, _⟩ => h
def dDrop (t : DT) : DS := fun E ρ => t ρ fun _ _ => E.nx ρ
theorem s_expr {t : DT} (he : PE X e (can T X.K t)) (hs : swapsWith e none pos.line X.env = pure false := by rfl) : PS X (.Expr e pos) (canS T X.K (dDrop t)) := PS_imp (ps_expr he hs) fun D σ H ⟨H0, ρ, E, rep, h, kn, _⟩ =>
  ⟨H0, ρ, _, rep, h, fun v H2 w n e _ _ hn => kn H0 σ H2 ρ (Ext.refl _) (rep.ext e) hn⟩
def retOk (w : W) (n : Nat) : Bool := match w with
  | .d _ => true
  | .l _ => decide (1 ≤ n)
def asgOk (w : W) (n : Nat) : Bool := match w with
  | .d _ => true
  | .l _ => decide (2 ≤ n)
def dRet (t : DT) : DS := fun E ρ => t ρ fun w n => retOk w n = true ∧ E.rt w
theorem s_ret {t : DT} (he : PE X e (can T X.K t)) : PS X (.Return (some e) pos) (canS T X.K (dRet t)) := PS_imp (ps_ret he) fun D σ H ⟨H0, ρ, E, rep, h, kn, kr, _⟩ =>
  ⟨H0, ρ, _, rep, h, fun v H2 w n e rw' fr ⟨ok, hr⟩ => kr v H2 w (rep.ex.trans e) rw' (fun q p ep => by
    cases w with
    | d x => cases q
    | l xs => exact (fr rfl p ep).1 (of_decide_eq_true ok)) hr⟩
def dAsg (t : DT) (i : Nat) : DS := fun E ρ => t ρ fun w n => asgOk w n = true ∧ E.nx (ρ.set i (some (w, true)))
theorem asg_new {v : V} {w : W} {n : Nat} (fr : FrsP H0 H v w n) (ok : asgOk w n = true) : NewP H v w := fun q p ep => by
  cases w with
  | d x => cases q
  | l xs => exact (fr rfl p ep).2.1 (of_decide_eq_true ok)
theorem canAsg {t : DT} {i : Nat} : ∀ D σ H, canS T K (dAsg t i) D σ H → can T K t σ H (fun x H1 => gName i x σ H1 D.nx) := fun D σ H ⟨H0, ρ, E, rep, h, kn, _⟩ =>
  ⟨H0, ρ, _, rep, h, fun v H2 w n e rw' fr ⟨ok, hn⟩ => kn H0 _ H2 _ (Ext.refl _) (rep.set e rw' (asg_new fr ok) i) hn⟩
theorem s_set (i : Nat) {x : Str} {t : DT} {pos' : Pos} (hN : X.N.Nodup) (he : PE X e (can T X.K t)) (hi : X.N[i]? = some x := by rfl) (hx : Loc X.env.scope x := by first | exact Or.inl rfl | exact Or.inr rfl) (hs : swapsWith e (some (.Name x pos')) pos.line X.env = pure false := by rfl)
    (hf : X.fn x = true ∨ X.env.scope.names.lookup x = some .local := by first | exact .inl rfl | exact .inr rfl) : PS X (.Assign [.Name x pos'] e pos) (canS T X.K (dAsg t i)) := PS_imp (ps_set hN hi hx he hs hf) fun D σ H h => canAsg D σ H h
/-- a target of several names -/
def dAsgG (t : DT) (dg : DG) : DS := fun E ρ => t ρ fun w _ => ∃ x, w = .d x ∧ dg x ρ E.nx
theorem s_asg {tg : Expr} {t : DT} {g : TG} {dg : DG} (hg1 : GOk T X.K g dg) (he : PE X e (can T X.K t)) (hg : PG X tg g) (hs : swapsWithSole [tg] e pos.line X.env = pure false := by rfl) (hw : swappedStores [tg] e X.env = pure none := by rfl)
    (h1 : (assignEach [tg] X.env).map (·.2) = [assign tg X.env] := by rfl) : PS X (.Assign [tg] e pos) (canS T X.K (dAsgG t dg)) := PS_imp (ps_asg he hg hs hw h1) fun D σ H ⟨H0, ρ, E, rep, h, kn, _⟩ =>
  ⟨H0, ρ, _, rep, h, fun v H2 w n e rw' fr ⟨x, ew, hk⟩ => by
    subst ew
    exact hg1 v x H0 H2 H2 σ ρ _ _ (rep.ext e) (Ext.refl _) rw'.2 rw'.1 hk fun σ' ρ' r hn => kn H0 σ' H2 ρ' (Ext.refl _) r hn⟩
def dIfS (t : DB) (u v : DS) : DS := fun E ρ => t ρ fun b => if b = true then u E ρ else v E ρ
theorem s_if {t : DB} {u v : DS} {as bs : List Stmt} (hc : PT X c (canB T X.K t)) (ha : PSs X as (canS T X.K u)) (hb : PSs X bs (canS T X.K v)) : PS X (.If c as bs pos) (canS T X.K (dIfS t u v)) := PS_imp (ps_if hc ha hb) fun D σ H ⟨H0, ρ, E, rep, h, k⟩ =>
  ⟨H0, ρ, _, rep, h, fun b H2 e hb => by
    cases b with
    | true => exact iteT ⟨H0, ρ, E, rep.ext e, by simpa using hb, k⟩
    | false => exact iteF ⟨H0, ρ, E, rep.ext e, by simpa using hb, k⟩⟩
/-- a, b = x, y -/
def dPar (i j : Nat) (t u : DT) : DS := fun E ρ => t ρ fun w n => asgOk w n = true ∧ u ρ fun w' n' => asgOk w' n' = true ∧ E.nx ((ρ.set i (some (w, true))).set j (some (w', true)))
theorem s_par {i j : Nat} {t u : DT} (h : PS X st (tPar i j (tCons (can T X.K t) (tCons (can T X.K u) tNil)))) : PS X st (canS T X.K (dPar i j t u)) := PS_imp h fun D σ H ⟨H0, ρ, E, rep, h, kn, _⟩ =>
  ⟨H0, ρ, _, rep, h, fun v H2 w n e rw' fr ⟨ok, hu⟩ => ⟨H0, ρ, _, rep.ext e, hu, fun v2 H3 w2 n2 e2 rw2 fr2 ⟨ok2, hn⟩ => ⟨v, v2, rfl, by
    have r1 := rep.set e rw' (asg_new fr ok) i
    exact kn H0 _ H3 _ (Ext.refl _) (r1.set e2 rw2 (asg_new fr2 ok2) j) hn⟩⟩⟩

/-- .. where one of the names is a cell: the pair is made -/
theorem s_parC {i j : Nat} {t u : DT} (h : PS X st (tAsg (tTup (tCons (can T X.K t) (tCons (can T X.K u) tNil))) (gTup X.K 2 (gCons (gName i) (gCons (gName j) gNil))))) : PS X st (canS T X.K (dPar i j t u)) := PS_imp h fun D σ H ⟨H0, ρ, E, rep, h, kn, _⟩ =>
  ⟨H0, ρ, _, rep, h, fun v H2 w n e rw' fr ⟨ok, hu⟩ => ⟨H0, ρ, _, rep.ext e, hu, fun v2 H3 w2 n2 e2 rw2 fr2 ⟨ok2, hn⟩ => ⟨by show 2 ≤ sizeLine; decide, fun p hp => by
    have r1 := rep.set e rw' (asg_new fr ok) i
    have r2 := (r1.set e2 rw2 (asg_new fr2 ok2) j).ext (Ext.new (o := .tup [v, v2]) hp)
    exact ⟨p, [v, v2], rfl, .inl (.inl upd_same), rfl, v, [v2], rfl, v2, [], rfl, rfl, kn H0 _ _ _ (Ext.refl _) r2 hn⟩⟩⟩⟩
/-- name = [..] on one line -/
theorem s_setLc {i : Nat} {y : Str} {py : Pos} {elt tg iter : Expr} {ifs : List Expr} {scope : Scope} {own : List (Str × Nat)} {pos spos : Pos} {g : TG} {it : DI} {dg : DG} {tt : DB} {te : DT} (hg1 : GOk T X.K g dg) (hg2 : GW g (own.map (·.2))) (hN : X.N.Nodup)
    (hsw : swapsWith (.ListComp elt [⟨tg, iter, ifs, 0⟩] scope pos) (some (.Name y py)) spos.line X.env = pure true) (hi : PI X tg iter (canI T X.K it)) (ok : BlkOk X.N X.env.scope scope own)
    (hg : ∀ (s : Shared) (H : Hp) (C : Addr) (cl : List (Str × Addr)) (fp : List Addr), PG (X.blk s H scope (compEnvC scope cl C X.env) fp) tg g) (ht : ∀ (s : Shared) (H : Hp) (C : Addr) (cl : List (Str × Addr)) (fp : List Addr), PTs (X.blk s H scope (compEnvC scope cl C X.env) fp) ifs (canB T X.K tt))
    (he : ∀ (s : Shared) (H : Hp) (C : Addr) (cl : List (Str × Addr)) (fp : List Addr), PE (X.blk s H scope (compEnvC scope cl C X.env) fp) elt (can T X.K te)) (hy : X.N[i]? = some y := by rfl) (hyl : X.env.scope.names.lookup y = some .local := by rfl) (hc : X.calm = true := by rfl) (hs : ∀ x, foldedSetIterable iter X.env x = pure x := by intro _; rfl) :
    PS X (.Assign [.Name y py] (.ListComp elt [⟨tg, iter, ifs, 0⟩] scope pos) spos) (canS T X.K (dAsg (dLc it dg tt te (own.map (·.2))) i)) := PS_imp (ps_setLc hc hN hy hyl hsw hi ok hg ht he hs) fun D σ H h => canLc hg1 hg2 σ H _ (canAsg D σ H h)
theorem s_setLc2 {i : Nat} {y : Str} {py : Pos} {elt tg iter tg1 iter1 : Expr} {ifs1 : List Expr} {scope : Scope} {own : List (Str × Nat)} {vs1 : List Nat} {pos spos : Pos} {g g1 : TG} {it it1 : DI} {dg dg1 : DG} {tt1 : DB} {te : DT} (hga : GOk T X.K g dg) (hgw : GW g (own.map (·.2))) (hga1 : GOk T X.K g1 dg1) (hgw1 : GW g1 vs1) (hN : X.N.Nodup)
    (hsw : swapsWith (.ListComp elt [⟨tg, iter, [], 0⟩, ⟨tg1, iter1, ifs1, 0⟩] scope pos) (some (.Name y py)) spos.line X.env = pure true) (hi : PI X tg iter (canI T X.K it)) (ok : BlkOk X.N X.env.scope scope own) (hv : ∀ i ∈ vs1, i ∈ own.map (·.2))
    (hg : ∀ (s : Shared) (H : Hp) (C : Addr) (cl : List (Str × Addr)) (fp : List Addr), PG (X.blk s H scope (compEnvC scope cl C X.env) fp) tg g)
    (hi1 : ∀ (s : Shared) (H : Hp) (C : Addr) (cl : List (Str × Addr)) (fp : List Addr), PI (X.blk s H scope (compEnvC scope cl C X.env) fp) tg1 iter1 (canI T X.K it1))
    (hg1 : ∀ (s : Shared) (H : Hp) (C : Addr) (cl : List (Str × Addr)) (fp : List Addr), PG (X.blk s H scope (compEnvC scope cl C X.env) fp) tg1 g1) (ht1 : ∀ (s : Shared) (H : Hp) (C : Addr) (cl : List (Str × Addr)) (fp : List Addr), PTs (X.blk s H scope (compEnvC scope cl C X.env) fp) ifs1 (canB T X.K tt1))
    (he : ∀ (s : Shared) (H : Hp) (C : Addr) (cl : List (Str × Addr)) (fp : List Addr), PE (X.blk s H scope (compEnvC scope cl C X.env) fp) elt (can T X.K te)) (hy : X.N[i]? = some y := by rfl) (hyl : X.env.scope.names.lookup y = some .local := by rfl) (hc : X.calm = true := by rfl) (hs : ∀ x, foldedSetIterable iter X.env x = pure x := by intro _; rfl) (hs1 : ∀ env x, foldedSetIterable iter1 env x = pure x := by intro _ _; rfl) :
    PS X (.Assign [.Name y py] (.ListComp elt [⟨tg, iter, [], 0⟩, ⟨tg1, iter1, ifs1, 0⟩] scope pos) spos) (canS T X.K (dAsg (dLc2 it dg it1 dg1 tt1 te (own.map (·.2)) vs1) i)) := PS_imp (ps_setLc2 (tt := tYes) hc hN hy hyl hsw hi ok hv hg (fun _ _ _ _ _ => pts_nil) hi1 hg1 ht1 he hs hs1) fun D σ H h => canLc2 hga hgw hga1 hgw1 σ H _ (canAsg D σ H h)

/-! ### one's own lists -/
theorem slot_lst {i : Nat} {xs : List PyData} (rep : RepS T K H0 H σ ρ) (h : ρ[i]? = some (some (.l xs, true))) : ∃ p vs, σ[i]? = some (some (.ref p)) ∧ H p = some (.lst vs) ∧ DpAll K H vs xs ∧ immAll xs = true := by
  obtain ⟨v, e1, ⟨p, vs, rfl, e2, e3, e4⟩, _⟩ := rep.at_ i _ _ h
  exact ⟨p, vs, e1, e2, e3, e4⟩
def dAppend (i : Nat) (t : DT) : DS := fun E ρ => ∃ xs, ρ[i]? = some (some (.l xs, true)) ∧ t ρ fun w _ => ∃ x, w = .d x ∧ xs.length < 100000 ∧ E.nx (ρ.set i (some (.l (xs ++ [x]), true)))
theorem s_append {i : Nat} {t : DT} (h : PS X st (tDrop (tBM X.K "list" rAppend (tVar i) (tCons (can T X.K t) tNil)))) : PS X st (canS T X.K (dAppend i t)) :=
  PS_imp h fun D σ H ⟨H0, ρ, E, rep, ⟨xs, hi, ht⟩, kn, _⟩ => by
    obtain ⟨p, vs, e1, e2, e3, e4⟩ := slot_lst rep hi
    refine ⟨.ref p, e1, .inl ⟨rfl, vs, .inl (.inl e2)⟩, H0, ρ, _, rep, ht, fun v H2 w n e rw' fr ⟨y, ew, hl, hn⟩ => ?_⟩
    subst ew
    have hp := e.lst e2
    have im2 : immAll (xs ++ [y]) = true := by
      rw [immAll_append, e4]
      show imm y && true = true
      rw [rw'.1]
      rfl
    refine ⟨p, vs, v, rfl, rfl, hp, by rw [DpAll.length e3]; exact big_lt hl, ?_⟩
    exact kn H0 σ _ _ (Ext.refl _) ((rep.ext e).mut hi e1 hp (DpAll.append (DpAll.tups e.tupE _ _ e4 e3) (.cons rw'.2 .nil)) im2) hn
def dExtend (i : Nat) (t : DT) : DS := fun E ρ => ∃ xs, ρ[i]? = some (some (.l xs, true)) ∧ t ρ fun w _ => ∃ ys, w = .l ys ∧ xs.length + ys.length ≤ 100000 ∧ E.nx (ρ.set i (some (.l (xs ++ ys), true)))
theorem s_extend {i : Nat} {t : DT} (h : PS X st (tDrop (tBM X.K "list" rExtend (tVar i) (tCons (can T X.K t) tNil)))) : PS X st (canS T X.K (dExtend i t)) :=
  PS_imp h fun D σ H ⟨H0, ρ, E, rep, ⟨xs, hi, ht⟩, kn, _⟩ => by
    obtain ⟨p, vs, e1, e2, e3, e4⟩ := slot_lst rep hi
    refine ⟨.ref p, e1, .inl ⟨rfl, vs, .inl (.inl e2)⟩, H0, ρ, _, rep, ht, fun v H2 w n e rw' fr ⟨ys, ew, hl, hn⟩ => ?_⟩
    subst ew
    obtain ⟨q, us, rfl, f2, f3, f4⟩ := rw'
    have hp := e.lst e2
    have im2 : immAll (xs ++ ys) = true := by
      rw [immAll_append, e4, f4]
      rfl
    refine ⟨p, q, vs, us, rfl, rfl, hp, f2, by rw [DpAll.length e3, DpAll.length f3]; exact big_of hl, ?_⟩
    exact kn H0 σ _ _ (Ext.refl _) ((rep.ext e).mut hi e1 hp (DpAll.append (DpAll.tups e.tupE _ _ e4 e3) f3) im2) hn
/-- x = l.pop() -/
def dPopA (i j : Nat) : DS := fun E ρ => ∃ xs x, ρ[j]? = some (some (.l (xs ++ [x]), true)) ∧ E.nx ((ρ.set j (some (.l xs, true))).set i (some (.d x, true)))
theorem s_pop {i j : Nat} (h : PS X st (tAsg (tBM0 X.K "list" rPop (tVar j)) (gName i))) : PS X st (canS T X.K (dPopA i j)) :=
  PS_imp h fun D σ H ⟨H0, ρ, E, rep, ⟨xs, z, hz, hn⟩, kn, _⟩ => by
    obtain ⟨p, vs, e1, e2, e3, e4⟩ := slot_lst rep hz
    obtain ⟨v, h1, h2⟩ := DpAll.get e3 (i := xs.length) (d := z) (by simp)
    have hlen : vs.length = xs.length + 1 := by rw [DpAll.length e3]; simp
    have h3 : DpAll X.K H vs.dropLast xs := by
      have h := DpAll.take xs.length e3
      rw [List.take_append_of_le_length (Nat.le_refl _), List.take_length] at h
      have e5 : vs.dropLast = vs.take xs.length := by rw [List.dropLast_eq_take, hlen]; rfl
      rw [e5]
      exact h
    rw [immAll_append, Bool.and_eq_true] at e4
    have iz : imm z = true := by
      have h : (imm z && true) = true := e4.2
      rw [Bool.and_true] at h
      exact h
    refine ⟨.ref p, e1, .inl ⟨rfl, vs, .inl (.inl e2)⟩, p, vs, v, rfl, rfl, e2, by rw [hlen]; exact h1, ?_⟩
    have r1 := rep.mut hz e1 e2 h3 e4.1
    exact kn H0 _ _ _ (Ext.refl _) (r1.set (w := .d z) (Ext.refl _) ⟨iz, Dp.tups (tupE_lst e2) _ _ iz h2⟩ (fun q => nomatch q) i) hn

/-! ### loops -/
def dFor (it : DI) (dg : DG) (tb : DS) : DS := fun E ρ => it ρ fun xs n => n ≠ 1 ∧ ∃ Pv : Nat → Rho → Prop, Pv 0 ρ ∧ (∀ (i : Nat) (x : PyData) (ρ' : Rho), xs[i]? = some x → Pv i ρ' → dg x ρ' fun ρ2 => tb { E with nx := Pv (i + 1), ct := Pv (i + 1), bk := E.nx } ρ2) ∧ ∀ ρ', Pv xs.length ρ' → E.nx ρ'
theorem s_for {tg iter : Expr} {body : List Stmt} {it : DI} {g : TG} {dg : DG} {tb : DS} (hg1 : GOk T X.K g dg) (hi : PI X tg iter (canI T X.K it)) (hg : PG X tg g) (hb : PSs X body (canS T X.K tb)) (hp : PassesOwn (model X.prog X.w) X.A X.env X.xe := by exact PassesOwn.never) (hc : X.calm = true := by rfl)
    (hs : ∀ x, foldedSetIterable iter X.env x = pure x := by intro _; rfl) : PS X (.For tg iter body [] pos) (canS T X.K (dFor it dg tb)) := PS_imp (ps_for hp hc hi hg hb hs) fun D σ H ⟨H0, ρ, E, rep, h, kn, kr, kb, kc⟩ =>
  ⟨H0, ρ, _, rep, h, fun J H1 xs n e ⟨n1, Pv, p0, ps, pe⟩ hJ => by
    have rep1 := rep.ext e
    obtain ⟨eb, rb⟩ := rep1.rebase
    have hJ1 := hJ (OwnA σ ρ) (fun a z => rep.own_lst z) (fun z => absurd z n1)
    refine ⟨fun i m σ' H' => m = xs.length - i ∧ i ≤ xs.length ∧ ∃ H9 ρ', Ext T (strip H1 (OwnA σ ρ)) H9 ∧ RepS T X.K H9 H' σ' ρ' ∧ Pv i ρ', ⟨_, rfl, Nat.zero_le _, _, ρ, Ext.refl _, rb, p0⟩, ?_⟩
    rintro i m σ' H' ⟨rfl, hi, H9, ρ', e9, r', pv⟩
    obtain ⟨jg, js, jy⟩ := hJ1 H' (e9.trans r'.ex)
    have e09 := eb.trans e9
    by_cases hlt : i < xs.length
    · refine .inr ⟨jg i hlt, fun σ2 H2 => ∃ H8 ρ2, Ext T (strip H1 (OwnA σ ρ)) H8 ∧ RepS T X.K H8 H2 σ2 ρ2 ∧ Pv (i + 1) ρ2, fun σ2 H2 ⟨H8, ρ2, e8, r2, p2⟩ => ⟨xs.length - (i + 1), by omega, rfl, hlt, H8, ρ2, e8, r2, p2⟩, fun v H2 y => ?_⟩
      have hx : xs[i]? = some xs[i] := List.getElem?_eq_getElem hlt
      obtain ⟨e2, dv, iv⟩ := jy i _ v H2 hx y
      refine hg1 v _ H9 H2 H2 σ' ρ' _ _ (r'.ext e2) (Ext.refl _) dv iv (ps i _ ρ' hx pv) fun σ3 ρ3 r3 h3 => ?_
      exact ⟨H9, ρ3, { E with nx := Pv (i + 1), ct := Pv (i + 1), bk := E.nx }, r3, h3, fun H8 σ4 H4 ρ4 e8 r4 p4 => ⟨H8, ρ4, e9.trans e8, r4, p4⟩, fun v4 H4 w4 e4 rw4 n4 hr => kr v4 H4 w4 (e09.trans e4) rw4 (fun q p ep => e09.dm p (n4 q p ep)) hr,
        fun H8 σ4 H4 ρ4 e8 r4 p4 => kn H8 σ4 H4 ρ4 (e09.trans e8) r4 p4, fun H8 σ4 H4 ρ4 e8 r4 p4 => ⟨H8, ρ4, e9.trans e8, r4, p4⟩⟩
    · have ei : i = xs.length := by omega
      subst ei
      exact .inl ⟨js, kn H9 σ' H' ρ' e09 r' (pe ρ' pv)⟩⟩
def dWhile (t : DB) (tb : DS) : DS := fun E ρ => ∃ Wv : Nat → Rho → Prop, (∃ m, Wv m ρ) ∧ ∀ m ρ', Wv m ρ' → t ρ' fun b => if b = true then tb { E with nx := fun ρ2 => ∃ m', m' < m ∧ Wv m' ρ2, ct := fun ρ2 => ∃ m', m' < m ∧ Wv m' ρ2, bk := E.nx } ρ' else E.nx ρ'
theorem s_while {t : DB} {tb : DS} {body : List Stmt} (hc : PT X c (canB T X.K t)) (hb : PSs X body (canS T X.K tb)) (hp : PassesOwn (model X.prog X.w) X.A X.env X.xe := by exact PassesOwn.never) : PS X (.While c body [] pos) (canS T X.K (dWhile t tb)) := PS_imp (ps_while hp hc hb) fun D σ H ⟨H0, ρ, E, rep, ⟨Wv, ⟨m0, w0⟩, hw⟩, kn, kr, kb, kc⟩ => by
  refine ⟨fun m σ' H' => ∃ H9 ρ', Ext T H0 H9 ∧ RepS T X.K H9 H' σ' ρ' ∧ Wv m ρ', ⟨m0, H0, ρ, Ext.refl _, rep, w0⟩, ?_⟩
  rintro m σ' H' ⟨H9, ρ', e9, r', wv⟩
  refine ⟨H9, ρ', _, r', hw m ρ' wv, fun b H2 e2 hb => ?_⟩
  cases b with
  | true =>
    refine iteT ⟨fun σ2 H2 => ∃ m', m' < m ∧ ∃ H8 ρ2, Ext T H0 H8 ∧ RepS T X.K H8 H2 σ2 ρ2 ∧ Wv m' ρ2, fun σ2 H2 ⟨m', hm, q⟩ => ⟨m', hm, q⟩, ?_⟩
    exact ⟨H9, ρ', { E with nx := fun ρ2 => ∃ m', m' < m ∧ Wv m' ρ2, ct := fun ρ2 => ∃ m', m' < m ∧ Wv m' ρ2, bk := E.nx }, r'.ext e2, by simpa using hb, fun H8 σ4 H4 ρ4 e8 r4 ⟨m', hm, p4⟩ => ⟨m', hm, H8, ρ4, e9.trans e8, r4, p4⟩, fun v4 H4 w4 e4 rw4 n4 hr => kr v4 H4 w4 (e9.trans e4) rw4 (fun q p ep => e9.dm p (n4 q p ep)) hr,
        fun H8 σ4 H4 ρ4 e8 r4 p4 => kn H8 σ4 H4 ρ4 (e9.trans e8) r4 p4, fun H8 σ4 H4 ρ4 e8 r4 ⟨m', hm, p4⟩ => ⟨m', hm, H8, ρ4, e9.trans e8, r4, p4⟩⟩
  | false => exact iteF (kn H9 σ' H2 ρ' e9 (r'.ext e2) (by simpa using hb))

/-! ### a def keeps its promise -/
def startR (N : List Str) (ws : List W) : Rho := ws.map (fun w => some (w, false)) ++ List.replicate (N.length - ws.length) none
theorem rep_start {N : List Str} {vs : List V} {ws : List W} (h : RWs K H vs ws) (tb : NdefX.TabsN T H) : RepS T K H H (L2.start N vs) (startR N ws) := by
  refine ⟨Ext.refl _, tb, ?_, fun i w o e => ?_, fun i j xs ys p e1 _ _ _ => ?_⟩
  · unfold L2.start startR
    rw [List.length_append, List.length_append, List.length_map, List.length_map, List.length_replicate, List.length_replicate, RWs.length h]
  · unfold startR at e
    rcases Nat.lt_or_ge i ws.length with hi | hi
    · rw [List.getElem?_append_left (by rw [List.length_map]; exact hi), List.getElem?_map, List.getElem?_eq_getElem hi] at e
      have e2 : (ws[i], false) = (w, o) := Option.some.inj (Option.some.inj e)
      obtain ⟨rfl, rfl⟩ := Prod.mk.inj e2
      obtain ⟨v, h1, h2⟩ := RWs.get h (List.getElem?_eq_getElem hi)
      refine ⟨v, ?_, h2, fun q => ⟨fun z => (by cases z), fun _ => h2⟩⟩
      unfold L2.start
      rw [List.getElem?_append_left (by rw [List.length_map, RWs.length h]; exact hi), List.getElem?_map, h1]
      rfl
    · rw [List.getElem?_append_right (by rw [List.length_map]; exact hi)] at e
      rw [List.getElem?_replicate] at e
      split at e
      · cases e
      · cases e
  · unfold startR at e1
    rcases Nat.lt_or_ge i ws.length with hi | hi
    · rw [List.getElem?_append_left (by rw [List.length_map]; exact hi), List.getElem?_map, List.getElem?_eq_getElem hi] at e1
      have e2 : (ws[i], false) = (W.l xs, true) := Option.some.inj (Option.some.inj e1)
      cases (Prod.mk.inj e2).2
    · rw [List.getElem?_append_right (by rw [List.length_map]; exact hi), List.getElem?_replicate] at e1
      split at e1
      · cases e1
      · cases e1
variable {P : Program} {w : World} {mg : Str → Option Value} {base : Heap}
theorem d_fn {x qual : Str} {params : Arguments} {body : List Stmt} {scope : Scope} {f : Addr} {fd : FuncData} {N ps : List Str} {k : Nat} {s : DSp} {t : DS} (F : FunD K x qual params body scope [] [] f fd) (hm : mg x = some (.ref f)) (S : FnScope N ps scope)
    (hbd : ∀ (kV doc pm : Value) (an : Option Addr) (cdv ct : Value) (us : List Value), us.length = ps.length → bindArgs (PySem.W.fnOf x qual params body scope .none kV doc pm an cdv ct) ⟨us, []⟩ = pure (ps.zip us))
    (hs : ∀ ws R, s ws R → ws.length = ps.length)
    (hb : ∀ (cdv : Value) (A : Around) (outer : List Env) (s : Shared) (H : Hp) (E : XK), Room k (A.deeper (envOfC qual scope s.heap.objs.size f cdv)) → PSs (cxOf CX0 P w K mg base N qual scope f cdv A outer s H E).nox body (canS T K t))
    (sem : ∀ ws R, s ws R → t { nx := fun _ => R (.d .none), rt := R } (startR N ws)) : Cal P w K mg base (k + 1) x ps (toSp T K s) := by
  refine ⟨f, fd, F.ok S (fun vs H Q E ⟨ws, R, rs, _, h, _⟩ => by rw [RWs.length rs]; exact hs ws R h) (fun cdv A outer s1 H vs Q E hr ⟨ws, R, rs, tb, h, hq⟩ => ?_), hm, F.kp, F.bindsN hbd⟩
  refine ⟨_, (hb cdv A outer s1 H E hr).nox, H, startR N ws, { nx := fun _ => R (.d .none), rt := R }, rep_start rs tb, sem ws R h, fun H9 σ' H' ρ' e9 r' h' => ?_, fun v H' w e rw' nw h' => hq v H' w e rw' nw h', fun _ _ _ _ _ _ z => z.elim, fun _ _ _ _ _ _ z => z.elim⟩
  exact hq .non H' (.d .none) (e9.trans r'.ex) ⟨rfl, .non⟩ (fun z => nomatch z) h'
end
end Dw

/-! part DwE -/
set_option Elab.async false
set_option linter.all false
set_option maxRecDepth 100000
set_option maxHeartbeats 4000000
namespace Dw
open PySem PySem.Spec PyProof.Rows L2
section
variable {T : List NdefX.NTab} {K : PySem.W.Frag} {X : Cx} {e a b c : Expr} {es : List Expr} {pos : Pos} {H0 H H1 H2 : Hp} {σ : L2.St} {ρ : Rho}

/-- what stands there, as one datum -/
def dat : W → PyData
  | .d x => x
  | .l xs => .list xs
theorem RW.dp {v : V} {w : W} (h : RW K H v w) : Dp K H v (dat w) := by
  cases w with
  | d x => exact h.2
  | l xs =>
    obtain ⟨p, vs, rfl, e2, e3, e4⟩ := h
    exact .lst (.inl (.inl e2)) e3
theorem rw_tup {v : V} {xs : List PyData} (h : RW K H v (.d (.tuple xs))) : ∃ p vs, v = .ref p ∧ SqT K H p vs ∧ DpAll K H vs xs ∧ immAll xs = true := by
  obtain ⟨im, h⟩ := h
  cases h with
  | @tup a vs _ hs ha => exact ⟨a, vs, rfl, hs, ha, im⟩

/-! ### len, list, tuple -/
def fLen : F1
  | .l xs, k => k (.d (.int (xs.length : Int)))
  | .d (.tuple xs), k => k (.d (.int (xs.length : Int)))
  | _, _ => False
theorem u_len : U1 T K (fun xs H Q => ∃ p ys, xs = [.ref p] ∧ (SqL K H p ys ∨ SqT K H p ys) ∧ Q (.int ys.length) H) fLen := fun v H w k Q tb rw' hf hq => by
  cases w with
  | l xs =>
    obtain ⟨p, vs, rfl, e2, e3, e4⟩ := rw'
    exact ⟨p, vs, rfl, .inl (.inl (.inl e2)), by rw [DpAll.length e3]; exact hq _ H (.d (.int (xs.length : Int))) hf (Ext.refl _) ⟨rfl, .int _⟩ new_d⟩
  | d x =>
    cases x with
    | tuple xs =>
      obtain ⟨p, vs, rfl, e2, e3, e4⟩ := rw_tup rw'
      exact ⟨p, vs, rfl, .inr e2, by rw [DpAll.length e3]; exact hq _ H (.d (.int (xs.length : Int))) hf (Ext.refl _) ⟨rfl, .int _⟩ new_d⟩
    | _ => exact hf.elim
/-- tuple(xs), xs a list | a tuple -/
def fTuple : F1
  | .l xs, k => k (.d (.tuple xs))
  | .d (.tuple xs), k => k (.d (.tuple xs))
  | _, _ => False
theorem u_tuple : U1 T K (fun xs H Q => ∃ p ys, xs = [.ref p] ∧ ((SqL K H p ys ∧ ∀ l, H l = none → Q (.ref l) (upd H l (.tup ys))) ∨ (SqT K H p ys ∧ Q (.ref p) H))) fTuple := fun v H w k Q tb rw' hf hq => by
  cases w with
  | l xs =>
    obtain ⟨p, vs, rfl, e2, e3, e4⟩ := rw'
    refine ⟨p, vs, rfl, .inl ⟨.inl (.inl e2), fun l hl => hq _ _ (.d (.tuple xs)) hf (Ext.new hl) ⟨e4, ?_⟩ new_d⟩⟩
    exact .tup (.inl (.inl upd_same)) (DpAll.tups (Ext.new (T := T) hl).tupE _ _ e4 e3)
  | d x =>
    cases x with
    | tuple xs =>
      obtain ⟨p, vs, rfl, e2, e3, e4⟩ := rw_tup rw'
      exact ⟨p, vs, rfl, .inr ⟨e2, hq _ H (.d (.tuple xs)) hf (Ext.refl _) ⟨e4, .tup e2 e3⟩ new_d⟩⟩
    | _ => exact hf.elim
/-- list(xs) -/
def fList : F1
  | .l xs, k => k (.l xs)
  | .d (.tuple xs), k => k (.l xs)
  | _, _ => False
theorem u_list : U1 T K (fun xs H Q => ∃ p ys, xs = [.ref p] ∧ (SqL K H p ys ∨ SqT K H p ys) ∧ ∀ l, H l = none → Q (.ref l) (upd H l (.lst ys))) fList := fun v H w k Q tb rw' hf hq => by
  have go : ∀ (vs : List V) (xs : List PyData) (l : Addr), DpAll K H vs xs → immAll xs = true → H l = none → k (.l xs) → Q (.ref l) (upd H l (.lst vs)) := fun vs xs l e3 e4 hl hk =>
    hq _ _ (.l xs) hk (Ext.new hl) ⟨l, vs, rfl, upd_same, DpAll.tups (Ext.new (T := T) hl).tupE _ _ e4 e3, e4⟩ fun _ p ep => by cases ep; exact hl
  cases w with
  | l xs =>
    obtain ⟨p, vs, rfl, e2, e3, e4⟩ := rw'
    exact ⟨p, vs, rfl, .inl (.inl (.inl e2)), fun l hl => go vs xs l e3 e4 hl hf⟩
  | d x =>
    cases x with
    | tuple xs =>
      obtain ⟨p, vs, rfl, e2, e3, e4⟩ := rw_tup rw'
      exact ⟨p, vs, rfl, .inr e2, fun l hl => go vs xs l e3 e4 hl hf⟩
    | _ => exact hf.elim

/-! ### numbers -/
def fI2 (g : Int → Int → PyData) : F2
  | .d (.int i), .d (.int j), k => k (.d (g i j))
  | _, _, _ => False
theorem o_I0 {g : Int → Int → V} {g' : Int → Int → PyData} (h : ∀ i j H, RW K H (g i j) (.d (g' i j))) : O2 T K (rI0 g) (fI2 g') := fun v u H x y k Q tb rx ry hf hq => by
  cases x with
  | l _ => exact hf.elim
  | d x =>
    cases x with
    | int i =>
      cases y with
      | l _ => exact hf.elim
      | d y =>
        cases y with
        | int j => exact ⟨i, j, rw_int rx, rw_int ry, hq _ H (.d (g' i j)) hf (Ext.refl _) (h i j H) new_d⟩
        | _ => exact hf.elim
    | _ => exact hf.elim
abbrev fAdd : F2 := fI2 fun i j => .int (i + j)
abbrev fSub : F2 := fI2 fun i j => .int (i - j)
theorem o_add : O2 T K (rI0 fun i j => .int (i + j)) fAdd := o_I0 fun _ _ _ => ⟨rfl, .int _⟩
theorem o_sub : O2 T K (rI0 fun i j => .int (i - j)) fSub := o_I0 fun _ _ _ => ⟨rfl, .int _⟩
abbrev fLt : F2 := fI2 fun i j => .bool (decide (i < j))
abbrev fLe : F2 := fI2 fun i j => .bool (decide (i ≤ j))
abbrev fGt : F2 := fI2 fun i j => .bool (decide (j < i))
abbrev fGe : F2 := fI2 fun i j => .bool (decide (j ≤ i))
theorem o_lt : O2 T K (rI0 fun i j => .bl (decide (i < j))) fLt := o_I0 fun _ _ _ => ⟨rfl, .bl _⟩
theorem o_le : O2 T K (rI0 fun i j => .bl (decide (i ≤ j))) fLe := o_I0 fun _ _ _ => ⟨rfl, .bl _⟩
theorem o_gt : O2 T K (rI0 fun i j => .bl (decide (j < i))) fGt := o_I0 fun _ _ _ => ⟨rfl, .bl _⟩
theorem o_ge : O2 T K (rI0 fun i j => .bl (decide (j ≤ i))) fGe := o_I0 fun _ _ _ => ⟨rfl, .bl _⟩
def fNeg : F1
  | .d (.int i), k => k (.d (.int (-i)))
  | _, _ => False
theorem u_neg : Un1 T K (rU fun i => .int (-i)) fNeg := fun v H w k Q rw' hf hq => by
  cases w with
  | l _ => exact hf.elim
  | d x =>
    cases x with
    | int i => exact ⟨i, rw_int rw', hq _ H (.d (.int (-i))) hf (Ext.refl _) ⟨rfl, .int _⟩ new_d⟩
    | _ => exact hf.elim
/-- == and != of any data -/
def fEq : F2 := fun x y k => SeqAt.shaped (dat x) = true ∧ SeqAt.shaped (dat y) = true ∧ k (.d (.bool (PyData.eqv (dat x) (dat y))))
def fNe : F2 := fun x y k => SeqAt.shaped (dat x) = true ∧ SeqAt.shaped (dat y) = true ∧ k (.d (.bool (!PyData.eqv (dat x) (dat y))))
theorem o_eq : O2 T K (rEqD K) fEq := fun v u H x y k Q tb rx ry ⟨h1, h2, hf⟩ hq => ⟨dat x, dat y, rx.dp, ry.dp, h1, h2, hq _ H (.d (.bool _)) hf (Ext.refl _) ⟨rfl, .bl _⟩ new_d⟩
theorem o_ne : O2 T K (rNeD K) fNe := fun v u H x y k Q tb rx ry ⟨h1, h2, hf⟩ hq => ⟨dat x, dat y, rx.dp, ry.dp, h1, h2, hq _ H (.d (.bool _)) hf (Ext.refl _) ⟨rfl, .bl _⟩ new_d⟩
/-- x in xs, a list of any data -/
def fInD : F2
  | .d x, .l xs, k => SeqAt.shaped x = true ∧ SeqAt.shaped (.list xs) = true ∧ k (.d (.bool (xs.any fun z => PyData.eqv z x)))
  | _, _, _ => False
def fNotInD : F2
  | .d x, .l xs, k => SeqAt.shaped x = true ∧ SeqAt.shaped (.list xs) = true ∧ k (.d (.bool (!xs.any fun z => PyData.eqv z x)))
  | _, _, _ => False
theorem o_notInD : O2 T K (rNotInD K) fNotInD := fun v u H x y k Q tb rx ry hf hq => by
  cases x with
  | l _ => exact hf.elim
  | d x =>
    cases y with
    | d _ => exact hf.elim
    | l xs =>
      obtain ⟨h1, h2, hf⟩ := hf
      exact ⟨x, xs, rx.dp, ry.dp, h1, h2, hq _ H (.d (.bool _)) hf (Ext.refl _) ⟨rfl, .bl _⟩ new_d⟩
/-! flat membership: ints, texts -/
def flatD : PyData → Bool
  | .int _ => true
  | .str _ => true
  | _ => false
def eqF : PyData → PyData → Bool
  | .int i, .int j => decide (i = j)
  | .str i, .str j => decide (i = j)
  | _, _ => false
theorem flat_v {v : V} {x : PyData} (h : Dp K H v x) (f : flatD x = true) : flatV v = true := by
  cases h with
  | int i => rfl
  | str i => rfl
  | _ => cases f
theorem eqF_v {v u : V} {x y : PyData} (h : Dp K H v x) (g : Dp K H u y) (f1 : flatD x = true) (f2 : flatD y = true) : eqV u v = eqF y x := by
  cases h with
  | int i =>
    cases g with
    | int j => exact Bool.beq_eq_decide_eq j i
    | str j => rfl
    | _ => cases f2
  | str i =>
    cases g with
    | int j => rfl
    | str j => exact Bool.beq_eq_decide_eq j i
    | _ => cases f2
  | _ => cases f1
theorem inV_eq {v : V} {x : PyData} (h : Dp K H v x) (f : flatD x = true) : ∀ {vs : List V} {xs : List PyData}, DpAll K H vs xs → xs.all flatD = true → inV v vs = xs.any (fun y => eqF y x) ∧ vs.all flatV = true
  | _, _, .nil, _ => ⟨rfl, rfl⟩
  | _, _, .cons (d := y) h1 t, g => by
    rw [List.all_cons, Bool.and_eq_true] at g
    obtain ⟨a, b⟩ := inV_eq h f t g.2
    refine ⟨?_, ?_⟩
    · show (eqV _ v || inV v _) = _
      rw [List.any_cons, eqF_v h h1 f g.1, a]
    · rw [List.all_cons, flat_v h1 g.1, b]
      rfl
def fIn (neg : Bool) : F2
  | .d x, .l xs, k => flatD x = true ∧ xs.all flatD = true ∧ k (.d (.bool (if neg then !(xs.any fun y => eqF y x) else xs.any fun y => eqF y x)))
  | .d x, .d (.tuple xs), k => flatD x = true ∧ xs.all flatD = true ∧ k (.d (.bool (if neg then !(xs.any fun y => eqF y x) else xs.any fun y => eqF y x)))
  | _, _, _ => False
theorem o_in (neg : Bool) : O2 T K (rIn K neg) (fIn neg) := fun v u H x y k Q tb rx ry hf hq => by
  cases x with
  | l _ => exact hf.elim
  | d x =>
    cases y with
    | l xs =>
      obtain ⟨h1, h2, hf⟩ := hf
      obtain ⟨p, vs, rfl, e2, e3, e4⟩ := ry
      obtain ⟨a, b⟩ := inV_eq rx.2 h1 e3 h2
      exact ⟨p, vs, rfl, .inl (.inl (.inl e2)), flat_v rx.2 h1, b, by rw [a]; exact hq _ H (.d (.bool _)) hf (Ext.refl _) ⟨rfl, .bl _⟩ new_d⟩
    | d y =>
      cases y with
      | tuple xs =>
        obtain ⟨h1, h2, hf⟩ := hf
        obtain ⟨p, vs, rfl, e2, e3, e4⟩ := rw_tup ry
        obtain ⟨a, b⟩ := inV_eq rx.2 h1 e3 h2
        exact ⟨p, vs, rfl, .inr e2, flat_v rx.2 h1, b, by rw [a]; exact hq _ H (.d (.bool _)) hf (Ext.refl _) ⟨rfl, .bl _⟩ new_d⟩
      | _ => exact hf.elim

/-! ### items, slices -/
def fIxL : F2
  | .l xs, .d (.int i), k => ∃ x, atI xs i = some x ∧ k (.d x)
  | _, _, _ => False
def fIxT : F2
  | .d (.tuple xs), .d (.int i), k => ∃ x, atI xs i = some x ∧ k (.d x)
  | _, _, _ => False
theorem atI_dp {vs : List V} {xs : List PyData} {i : Int} {x : PyData} (h : DpAll K H vs xs) (hx : atI xs i = some x) : ∃ v, atI vs i = some v ∧ Dp K H v x := by
  unfold atI at hx ⊢
  rw [DpAll.length h]
  cases q : ixN xs.length i with
  | none =>
    rw [q] at hx
    cases hx
  | some j =>
    rw [q] at hx
    exact DpAll.get h hx
theorem immAll_atI {xs : List PyData} {i : Int} {x : PyData} (h : immAll xs = true) (hx : atI xs i = some x) : imm x = true := by
  unfold atI at hx
  cases q : ixN xs.length i with
  | none =>
    rw [q] at hx
    cases hx
  | some j =>
    rw [q] at hx
    exact immAll_get h hx
theorem o_ixL : O2 T K (rIxL K) fIxL := fun v u H x y k Q tb rx ry hf hq => by
  cases x with
  | d x => cases x <;> exact hf.elim
  | l xs =>
    cases y with
    | l _ => exact hf.elim
    | d y =>
      cases y with
      | int i =>
        obtain ⟨x, hx, hk⟩ := hf
        obtain ⟨p, vs, rfl, e2, e3, e4⟩ := rx
        obtain ⟨z, h1, h2⟩ := atI_dp e3 hx
        exact ⟨p, vs, i, z, rfl, rw_int ry, .inl (.inl e2), h1, hq _ H (.d x) hk (Ext.refl _) ⟨immAll_atI e4 hx, h2⟩ new_d⟩
      | _ => exact hf.elim
theorem o_ixT : O2 T K (rIxT K) fIxT := fun v u H x y k Q tb rx ry hf hq => by
  cases x with
  | l _ => exact hf.elim
  | d x =>
    cases x with
    | tuple xs =>
      cases y with
      | l _ => exact hf.elim
      | d y =>
        cases y with
        | int i =>
          obtain ⟨x, hx, hk⟩ := hf
          obtain ⟨p, vs, rfl, e2, e3, e4⟩ := rw_tup rx
          obtain ⟨z, h1, h2⟩ := atI_dp e3 hx
          exact ⟨p, vs, i, z, rfl, rw_int ry, e2, h1, hq _ H (.d x) hk (Ext.refl _) ⟨immAll_atI e4 hx, h2⟩ new_d⟩
        | _ => exact hf.elim
    | _ => exact hf.elim
/-- t[:n], 0 ≤ n -/
def dCut (t u : DT) : DT := fun ρ R => t ρ fun w _ => ∃ xs, w = .d (.tuple xs) ∧ u ρ fun w' _ => ∃ n : Nat, w' = .d (.int (n : Int)) ∧ R (.d (.tuple (xs.take n))) 2
theorem cutV_take (xs : List V) (n : Nat) : cutV xs none (some (n : Int)) = xs.take n := by
  unfold cutV
  rw [HT.sIx_none, HT.sIx_nat, List.drop_zero, Nat.sub_zero]
  rcases Nat.le_total n xs.length with h | h
  · rw [Nat.min_eq_left h]
  · rw [Nat.min_eq_right h, List.take_length, List.take_of_length_le h]
theorem x_cut {t u : DT} {hi : Expr} {p2 : Pos} (ha : PE X e (can T X.K t)) (hb : PE X hi (can T X.K u)) : PE X (.Subscript e (.Slice none (some hi) none p2) pos) (can T X.K (dCut t u)) := PE_imp (pe_slice sl_tupA ha po_none (po_some hb)) fun σ H Q ⟨H0, ρ, R, rep, ht, k⟩ =>
  ⟨H0, ρ, _, rep, ht, fun v H1 w n e rw' _ ⟨xs, ew, hu⟩ => ⟨H0, ρ, _, rep.ext e, hu, fun v2 H2 w2 n2 e2 rw2 _ ⟨m, ew2, hr⟩ => by
    subst ew ew2
    obtain rfl := rw_int rw2
    obtain ⟨p, vs, rfl, f2, f3, f4⟩ := rw_tup (rw'.ext e2)
    have im2 : immAll (xs.take m) = true := immAll_iff.mpr fun x hx => immAll_iff.mp f4 x (List.mem_of_mem_take hx)
    refine ⟨m, rfl, p, vs, rfl, f2, fun hw => ?_, fun hw l hl => ?_⟩
    · rw [HT.sIx_nat] at hw
      have e5 : xs.take m = xs := List.take_of_length_le (by rw [← DpAll.length f3]; omega)
      rw [e5] at hr
      exact k (.ref p) H2 (.d (.tuple xs)) 2 (e.trans e2) ⟨f4, .tup f2 f3⟩ frs_d hr
    · refine k (.ref l) _ (.d (.tuple (xs.take m))) 2 ((e.trans e2).trans (Ext.new hl)) ⟨im2, ?_⟩ frs_d hr
      rw [cutV_take]
      exact .tup (.inl (.inl upd_same)) (DpAll.tups (Ext.new (T := T) hl).tupE _ _ im2 (DpAll.take m f3))⟩⟩

/-! ### lists by operators -/
def fCat : F2
  | .l xs, .l ys, k => xs.length + ys.length ≤ 100000 ∧ k (.l (xs ++ ys))
  | _, _, _ => False
theorem o_cat : O2 T K rCat fCat := fun v u H x y k Q tb rx ry hf hq => by
  cases x with
  | d x => cases x <;> exact hf.elim
  | l xs =>
    cases y with
    | d _ => exact hf.elim
    | l ys =>
      obtain ⟨hl, hk⟩ := hf
      obtain ⟨p, vs, rfl, e2, e3, e4⟩ := rx
      obtain ⟨q, us, rfl, f2, f3, f4⟩ := ry
      have im2 : immAll (xs ++ ys) = true := by
        rw [immAll_append, e4, f4]
        rfl
      refine ⟨p, q, vs, us, rfl, rfl, e2, f2, by rw [DpAll.length e3, DpAll.length f3]; exact big_of hl, fun l hl => ?_⟩
      exact hq _ _ (.l (xs ++ ys)) hk (Ext.new hl) ⟨l, _, rfl, upd_same, DpAll.tups (Ext.new (T := T) hl).tupE _ _ im2 (DpAll.append e3 f3), im2⟩ fun _ p ep => by cases ep; exact hl
/-- [x] * n -/
def fRep1 : F2
  | .l [x], .d (.int n), k => 0 ≤ n ∧ n ≤ 100000 ∧ k (.l (List.replicate n.toNat x))
  | _, _, _ => False
theorem rep1_flat {α : Type} (x : α) : ∀ n : Nat, (List.replicate n [x]).flatten = List.replicate n x
  | 0 => rfl
  | n + 1 => by
    rw [List.replicate_succ, List.flatten_cons, rep1_flat x n, List.replicate_succ]
    rfl
theorem dpAll_rep {v : V} {x : PyData} (h : Dp K H v x) : ∀ n : Nat, DpAll K H (List.replicate n v) (List.replicate n x)
  | 0 => .nil
  | n + 1 => by
    rw [List.replicate_succ, List.replicate_succ]
    exact .cons h (dpAll_rep h n)
/-! ### isinstance -/
def isT (T : String) : W → Option Bool
  | .d .none => L2.kitB "NoneType" T
  | .d (.bool _) => L2.kitB "bool" T
  | .d (.int _) => L2.kitB "int" T
  | .d (.str _) => L2.kitB "str" T
  | .d (.tuple _) => L2.kitB "tuple" T
  | .l _ => L2.kitB "list" T
  | _ => none
def dIsi (T : String) (t : DT) : DT := fun ρ R => t ρ fun w _ => ∃ b, isT T w = some b ∧ R (.d (.bool b)) 2
theorem isT_ty {v : V} {w : W} {T' : String} {b : Bool} (h : RW K H v w) (e : isT T' w = some b) : ∃ t, TyX K H v (.type t) ∧ L2.kitB t T' = some b := by
  cases w with
  | l xs =>
    obtain ⟨p, vs, rfl, e2, _⟩ := h
    exact ⟨"list", .base (.lst e2), e⟩
  | d x =>
    cases x with
    | none =>
      obtain ⟨_, h⟩ := h
      cases h
      exact ⟨_, .base .non, e⟩
    | bool b =>
      obtain rfl := rw_bool h
      exact ⟨_, .base (.bl b), e⟩
    | int b =>
      obtain rfl := rw_int h
      exact ⟨_, .base (.int b), e⟩
    | str b =>
      obtain rfl := rw_str h
      exact ⟨_, .base (.str b), e⟩
    | tuple xs =>
      obtain ⟨p, vs, rfl, e2, _⟩ := rw_tup h
      rcases e2 with (q | ⟨u, q⟩) | ⟨o, its, n, q1, q2, _⟩
      · exact ⟨_, .base (.tup q), e⟩
      · exact ⟨_, .fTuple q, e⟩
      · exact ⟨_, .kTuple q1 q2, e⟩
    | list _ => cases e
    | dict _ => cases e
theorem x_isi {T' : String} {t : DT} {p p2 pos : Pos} {x : Str} (hm : X.mg "isinstance" = none) (hm2 : X.mg x = none) (ha : PE X e (can T X.K t)) (hb : bootBuiltins x = some (.type T') := by decide +kernel) (hg : Gl X "isinstance" := by rfl) (hg2 : Gl X x := by rfl)
    (hn : x ≠ "__name__" := by decide) (hdb : (x == ("__debug__" : Str)) = false := by decide) (hs : starEach [e, .Name x p2] X.env = (false, eval e X.env) :: starEach [.Name x p2] X.env := by rfl) (hs2 : starEach [.Name x p2] X.env = (false, eval (.Name x p2) X.env) :: starEach [] X.env := by rfl)
    (hpl : (backTo pos (starEach [.Name x p2] X.env)).any (·.1) = false := by rfl) : PE X (.Call (.Name "isinstance" p) [e, .Name x p2] [] pos) (can T X.K (dIsi T' t)) :=
  PE_imp (pe_callB call_isi hg hm (by decide +kernel) (pa_cons ha (pa_cons (pe_bltn (v := .ty T') hg2 hm2 hb rfl hn hdb) pa_nil hs2) hs) (by decide) (by decide) hs hpl) fun σ H Q ⟨H0, ρ, R, rep, ht, k⟩ =>
  ⟨H0, ρ, _, rep, ht, fun v H1 w n e rw' _ ⟨b, eb, r⟩ => by
    obtain ⟨t, h1, h2⟩ := isT_ty rw' eb
    exact ⟨v, .ty T', .type t, .type T', b, rfl, .ty T', h1, kit_ty h2, k _ H1 (.d (.bool b)) 2 e ⟨rfl, .bl b⟩ frs_d r⟩⟩
end
end Dw

/-! part DwS -/
set_option Elab.async false
set_option linter.all false
set_option maxRecDepth 100000
set_option maxHeartbeats 4000000
/-! sorted of a list or a tuple of data that are alike, () among them too -/
namespace Dw
open PySem PySem.Spec PySem.Calls PyProof.Rows PySem.W
/-- what sorted's look at the keys takes: as the library says it, or tuples whose first is () -/
def SortX (ds : List PyData) : Prop := Sortable ds ∨ ∃ ds', ds = .tuple [] :: ds' ∧ ∀ d ∈ ds, ∃ xs, d = .tuple xs
section
variable {prog : Program} {w : World} {A : Around} {E : Value → Shared → Prop} {s : Shared}
theorem mapM_any {α β : Type} {M : Model} {f : α → Sem β} : ∀ (l : List α) {Q : List β → Shared → Prop}, (∀ v ∈ l, ∃ r, ∀ (Q' : β → Shared → Prop), Q' r s → wpAny M A (f v) Q' E s) → (∀ rs : List β, rs.length = l.length → Q rs s) → wpAny M A (l.mapM f) Q E s
  | [], Q, _, h => by rw [List.mapM_nil]; exact wpAny_pure (h [] rfl)
  | x :: l, Q, hf, h => by
    rw [List.mapM_cons]
    obtain ⟨r, hr⟩ := hf x (.head _)
    exact wpAny_bind (hr _ (wpAny_bind (mapM_any l (Q := fun bs s' => wpAny M A (pure (r :: bs)) Q E s') (fun v hv => hf v (.tail _ hv)) fun rs hl => wpAny_pure (h (r :: rs) (by simp [hl])))))
theorem first_tup {v : Value} {xs : List PyData} {as : List Addr} (r : Reads s.heap v (.tuple xs) as) : ∃ o : Option Value, (xs = [] → o = none) ∧ ∀ {M : Model} {E : Value → Shared → Prop} (Q : Option Value → Shared → Prop), Q o s → wpAny M A (firstOfTuple' v) Q E s := by
  cases r with
  | @tuple l ob vs n _ _ h1 h2 h3 h4 =>
    refine ⟨vs[0]?, fun e => ?_, fun {M E} Q hq => ?_⟩
    · subst e
      have h5 := SeqAt.ReadsAll.length _ _ _ h4
      have e5 : vs.size = 0 := by simpa using h5
      exact Array.getElem?_eq_none (by omega)
    · rw [kas_first_eq]
      refine wpAny_bind (wpAny_typeOf (T := "tuple") ⟨ob, h1, h2⟩ ?_)
      rw [if_neg (by decide)]
      exact wpAny_bind (listItems_at h1 h3 (wpAny_pure hq))
theorem keyKind_tup0 {vs : List Value} {ds : List PyData} {Q : SortKind → Shared → Prop} (e : EachIs (fun v d => ∃ as, Reads s.heap v d as) vs (.tuple [] :: ds)) (ht : ∀ d ∈ ds, ∃ xs, d = .tuple xs) (h : Q oneType' s) :
    wpAny (model prog w) A (keyKind' vs.toArray) Q E s := by
  cases e with
  | @cons v _ vr _ r0 er =>
    have hall : ∀ u ∈ vr, ∃ xs as, Reads s.heap u (.tuple xs) as := fun u hu => by
      obtain ⟨d, hd, as, r⟩ := er.left u hu
      obtain ⟨xs, rfl⟩ := ht d hd
      exact ⟨xs, as, r⟩
    obtain ⟨as0, r0⟩ := r0
    rw [keyKind'_eq, List.mapM_toArray, map_eq_pure_bind]
    refine wpAny_bind (wpAny_bind ?_)
    rw [List.mapM_cons]
    obtain ⟨o0, ho0, hw0⟩ := first_tup (A := A) r0
    have e0 := ho0 rfl
    subst e0
    refine wpAny_bind (hw0 _ (wpAny_bind (mapM_any vr (fun u hu => ?_) fun rs hl => wpAny_pure (wpAny_pure ?_))))
    · obtain ⟨xs, as, r⟩ := hall u hu
      obtain ⟨o, _, hw⟩ := first_tup (A := A) r
      exact ⟨o, fun Q' hq => hw Q' hq⟩
    · rw [if_neg (by simp), if_neg (by simp)]
      rw [oneTypeOnly'_eq, List.mapM_toArray, map_eq_pure_bind]
      refine wpAny_bind (wpAny_bind (wpAny_bind (kas_mapM (r := Value.type "tuple") _ (fun u hu Q' hq => ?_) (wpAny_pure ?_))))
      · rcases List.mem_cons.mp hu with rfl | hu
        · cases r0 with
          | tuple h1 h2 h3 h4 => exact wpAny_typeOf (T := "tuple") ⟨_, h1, h2⟩ hq
        · obtain ⟨xs, as, r⟩ := hall u hu
          cases r with
          | tuple h1 h2 h3 h4 => exact wpAny_typeOf (T := "tuple") ⟨_, h1, h2⟩ hq
      · have hall : ((List.map (fun _ => Value.type "tuple") (v :: vr)).toArray.all fun x => x == Value.type "tuple") = true := by
          simp only [List.all_toArray, List.all_map, List.all_eq_true]
          intro _ _
          rfl
        have h0 : (List.map (fun _ => Value.type "tuple") (v :: vr)).toArray[0]? = some (Value.type "tuple") := by simp
        rw [h0]
        simp only [hall, if_true]
        exact wpAny_pure (wpAny_pure h)
open SeqAt in
theorem oneLt_tup {xs ys : List PyData} {a b : Value} {as bs : List Addr} {Q : Bool → Shared → Prop} (ra : Reads s.heap a (.tuple xs) as) (rb : Reads s.heap b (.tuple ys) bs) (hal : alikeAll xs ys = true)
    (hu : A.units + min (PyData.tuple xs).depth (PyData.tuple ys).depth < cLine) (hq : Q (dataLt (.tuple xs) (.tuple ys)) s) : wpAny (model prog w) A (oneLt' true a b) Q E s := by
  cases ra with
  | @tuple l o vs n _ as₁ h1 h2 h3 h4 =>
    cases rb with
    | @tuple l' o' vs' n' _ bs₁ k1 k2 k3 k4 =>
      have n1 : vs.size = xs.length := by simpa using ReadsAll.length _ _ _ h4
      have n2 : vs'.size = ys.length := by simpa using ReadsAll.length _ _ _ k4
      rw [dataLt_tuple, ← firstLt_toks xs ys hal, ← n1, ← n2] at hq
      rw [oneLt'_eq]
      simp only [if_true]
      refine wpAny_bind (wpAny_cRoomFor (room_here hu) ?_)
      have he : ∀ j (h1 : j < vs.size) (h2 : j < vs'.size), EqAt A.in1 s vs[j] vs'[j] (pairEq xs ys j) := fun j j1 j2 => by
        have := eqAt_alikeAll xs ys A.in1 s vs.toList vs'.toList _ _ h4 k4 hal (room_in hu) j (by simpa using j1) (by simpa using j2)
        simpa using this
      have hr : ∀ j (h1 : j < vs.size) (h2 : j < vs'.size), pairEq xs ys j = false → RcLt A.in1 s vs[j] vs'[j] (dataLt (xs.getD j .none) (ys.getD j .none)) := fun j j1 j2 hj => by
        have := rcLt_alikeAll xs ys A.in1 s vs.toList vs'.toList _ _ h4 k4 hal (room_in hu) j (by simpa using j1) (by simpa using j2) hj
        simpa using this
      obtain ⟨cls, dd, data, sl⟩ := o
      obtain ⟨cls2, dd2, data2, sl2⟩ := o'
      simp only at h2 h3 k2 k3
      subst h2 h3 k2 k3
      exact wpAny_bind (wpAny_callSpecialIfBound?_slot (T := "tuple") ⟨_, h1, rfl⟩ F.slot_tuple_lt (call_meets F.slot_tuple_lt ⟨_, h1, rfl⟩ F.entry_tuple_lt (F.args_tuple_lt_2 _ _) (tuple_ltAt l l' vs vs' n n' dd dd2 sl sl2 (pairEq xs ys) fun j => dataLt (xs.getD j .none) (ys.getD j .none))
        ⟨h1, k1, he, hr, wpAny_truthy_bool hq⟩))
/-- such values can be sorted -/
theorem sortsAt_x {vs : List Value} {ds : List PyData} (e : EachIs (fun v d => ∃ as, Reads s.heap v d as) vs ds) (hal : AllAlike ds) (hk : SortX ds) (hu : ∀ d, d ∈ ds → A.units + d.depth < cLine) : SortsAt prog w A s (dataKind s.heap ds) vs := by
  rcases hk with hk | ⟨ds', e1, ht⟩
  · exact SortsAt.data e hal hk hu
  · refine ⟨fun v hv => ?_, oneType', ?_, fun h2 E Q hq => ?_⟩
    · obtain ⟨d, hd, as, r⟩ := e.left v hv
      exact ⟨_, dataKind_some hal hd r⟩
    · intro E x y a b Q ha hb hq
      obtain ⟨d, as, hd, ra, rfl⟩ := dataKind_inv ha
      obtain ⟨d', as', hd', rb, rfl⟩ := dataKind_inv hb
      obtain ⟨xs, rfl⟩ := ht d hd
      obtain ⟨ys, rfl⟩ := ht d' hd'
      have q := hal _ hd _ hd'
      rw [keyLt'_oneType]
      exact oneLt_tup ra rb (by simpa [alike] using q) (Nat.lt_of_le_of_lt (Nat.add_le_add_left (Nat.min_le_left _ _) _) (hu _ hd)) hq
    · subst e1
      exact keyKind_tup0 e (fun d hd => ht d (List.mem_cons_of_mem _ hd)) hq
theorem collect_tup {l : Addr} {vs : List Value} {Q : List Value → Shared → Prop} (hl : s.heap.IsTuple l vs.toArray)
    (h : Q vs { s with heap := (s.heap.push (seqObj "list" #[] 0)).update s.heap.objs.size (Obj.mapSeq (· ++ vs.toArray)) }) (hsz : vs.length ≤ sizeLine) :
    wpAny (model prog w) A (collect (.ref l)) Q E s := by
  obtain ⟨o, ho, hc, n, hd⟩ := id hl
  unfold collect
  refine wpAny_bind (wpAny_runValue (codeAny_builtin entry_proto_collect' ?_))
  show wpAny _ _ (do again (.builtin "list.__iadd__" ⟨[← newList [], .ref l], []⟩)) _ _ s
  refine wpAny_bind (wpAny_newList (wpAny_pure ⟨Code.quiet_builtin _ (by decide +kernel), codeAny_builtin entry_list_iadd' ?_⟩))
  show wpAny _ _ (Builtin.List.listExtendWith (.ref s.heap.objs.size) (.ref l) (.ref s.heap.objs.size)) _ _ { s with heap := s.heap.push (seqObj "list" #[] 0) }
  unfold Builtin.List.listExtendWith
  have ho' : (s.heap.push (seqObj "list" #[] 0)).get? l = some o := Heap.get?_push_of_some _ ho
  refine wpAny_bind (wpAny_typeOf (T := "tuple") ⟨o, ho', hc⟩ ?_)
  have ht : (Value.type "tuple" == Value.type "tuple") = true := by rfl
  rw [if_pos (by rw [ht]; simp)]
  refine wpAny_bind (listItems_at ho' hd ?_)
  refine wpAny_bind (listItems_at (xs := #[]) (n := 0) (Heap.get?_push_size _ rfl) rfl ?_)
  rw [if_neg (by simp)]
  refine wpAny_bind (listUpdate_at (xs := #[]) (n := 0) (Heap.get?_push_size _ rfl) rfl ?_ (Nat.zero_le _) (by show (#[] ++ vs.toArray).size ≤ sizeLine + 1; simp only [Array.size_append, List.size_toArray, List.length_nil]; omega))
  refine wpAny_pure ?_
  show wpAny (model prog w) A (do
      let o ← load s.heap.objs.size
      match o.data with
      | .seq xs _ => pure xs.toList
      | _ => unsupported "internal:collect") Q E { s with heap := (s.heap.push (seqObj "list" #[] 0)).update s.heap.objs.size (Obj.mapSeq (· ++ vs.toArray)) }
  refine wpAny_bind (wpAny_load (get?_update_seq (Heap.get?_push_size _ rfl) _) ?_)
  show wpAny _ _ (pure ((#[] : Array Value) ++ vs.toArray).toList) Q E _
  rw [show ((#[] : Array Value) ++ vs.toArray).toList = vs by simp]
  exact wpAny_pure h
theorem sorted_of_sortT {l : Addr} {vs : List Value} {Q : Value → Shared → Prop} (hl : s.heap.IsTuple l vs.toArray) (hL : vs.length ≤ sizeLine)
    (body : ∀ E' : Value → Shared → Prop, wpAny (model prog w) A.in1.in1 (Builtin.«list.sort» ⟨[.ref (s.heap.objs.size + 1)], []⟩) (fun f s' => f = .done (.ret .none) ∧ Q (.ref (s.heap.objs.size + 1)) s') E' { s with heap := copyHeap s.heap vs }) :
    wpAny (model prog w) A (call (.builtin "sorted") [.ref l]) Q E s := by
  refine call_function_entry_kw kind_sorted plain_sorted entry_sorted (args_sorted1 _) ?_
  unfold Builtin.«sorted»
  refine wpAny_bind (m := checkCount "sorted" 1 1 _) (wpAny_pure ?_)
  refine wpAny_bind (collect_tup hl ?_ hL)
  refine wpAny_bind (wpAny_newList ?_ hL)
  have hsz : ((s.heap.push (seqObj "list" #[] 0)).update s.heap.objs.size (Obj.mapSeq (· ++ vs.toArray))).objs.size = s.heap.objs.size + 1 := by
    rw [Heap.size_update, size_push']
  show wpAny _ _ _ _ _ { s with heap := copyHeap s.heap vs }
  rw [hsz]
  refine wpAny_bind (wpAny_holding (wpAny_call_entry_kw slot_list_sort ⟨_, copyHeap_at s.heap vs, rfl⟩ entry_list_sort ?body (args_list_sort _)))
  case body =>
    show wpAny (model prog w) A.in1.in1 (Builtin.«list.sort» ⟨[.ref (s.heap.objs.size + 1)], []⟩) _ _ _
    refine wpAny_mono (body _) (fun f s' hf => ?_) fun _ _ e => e
    obtain ⟨rfl, hq⟩ := hf
    exact ⟨_, rfl, wpAny_pure ⟨_, rfl, hq⟩⟩
theorem sorted_raw {l : Addr} {vs : List Value} {ds : List PyData} {R : Value → PyData → Prop} {Q : Value → Shared → Prop} (hl : s.heap.IsList l vs.toArray ∨ s.heap.IsTuple l vs.toArray)
    (e : EachIs R vs ds) (er : EachIs (fun v d => ∃ as, Reads s.heap v d as) vs ds) (hal : AllAlike ds) (hk : SortX ds) (hL : vs.length ≤ sizeLine) (hu : ∀ d, d ∈ ds → A.units + 2 + d.depth < cLine)
    (h : ∀ out, EachIs R out (ds.mergeSort (dataLe false id)) → Q (.ref (s.heap.objs.size + 1)) { s with heap := sortedAll s.heap vs (List.toArray out) }) :
    wpAny (model prog w) A (call (.builtin "sorted") [.ref l]) Q E s := by
  have em : ds.map id = ds := List.map_id ds
  have er' : EachIs (fun v b => ∃ as, Reads (sortingHeap (copyHeap s.heap vs) (s.heap.objs.size + 1) vs) v b as) vs ds := er.mono fun _ _ ⟨as, r⟩ => ⟨as, PyProof.Rows.Reads.keeps (fun _ _ => sorting_copy_old) r⟩
  have S := sortsAt_x (prog := prog) (w := w) (A := A.in1.in1) (s := { s with heap := sortingHeap (copyHeap s.heap vs) (s.heap.objs.size + 1) vs }) er' hal hk hu
  have fin := h _ (by
    have z := sortVals_data (enc := id) false e er' (by rw [em]; exact hal)
    rw [em] at z
    exact z)
  rcases hl with hl | hl
  · exact sorted_vals hl S hL fin
  · exact sorted_of_sortT hl hL fun _ => list_sort_vals (s := { s with heap := copyHeap s.heap vs }) (copyHeap_at s.heap vs) S hL ⟨rfl, fin⟩
end
end Dw
namespace Dw
open PySem PySem.Spec PyProof.Rows L2
section
variable {T : List NdefX.NTab} {K : PySem.W.Frag} {X : Cx} {H : Hp}
theorem each_of {H : Hp} : ∀ {us : List V} {vs : List Value} {ds : List PyData}, Vals us vs → DpAll K H us ds → PySem.W.EachIs (fun v d => ∃ x, RelV x v ∧ Dp K H x d) vs ds
  | _, _, _, .nil, .nil => .nil
  | _, _, _, .cons r t, .cons h g => .cons ⟨_, r, h⟩ (each_of t g)
theorem of_each {H : Hp} : ∀ {vs : List Value} {ds : List PyData}, PySem.W.EachIs (fun v d => ∃ x, RelV x v ∧ Dp K H x d) vs ds → ∃ us, Vals us vs ∧ DpAll K H us ds
  | _, _, .nil => ⟨[], .nil, .nil⟩
  | _, _, .cons ⟨x, r, h⟩ t => by
    obtain ⟨us, a, b⟩ := of_each t
    exact ⟨x :: us, .cons r a, .cons h b⟩
theorem each_reads {pins : List (Addr × Obj)} {σ : L2.St} {s : Shared} (I : Inv X pins σ H s) : ∀ {us : List V} {vs : List Value} {ds : List PyData}, Vals us vs → DpAll X.K H us ds → PySem.W.EachIs (fun v d => ∃ as, Reads s.heap v d as) vs ds
  | _, _, _, .nil, .nil => .nil
  | _, _, _, .cons r t, .cons h g => .cons (Dp.reads I _ _ _ h r) (each_reads I t g)
def rSortD (K : PySem.W.Frag) : List V → Hp → VK → Prop := fun vs H Q => ∃ (a : Addr) (us : List V) (ds : List PyData), vs = [.ref a] ∧ (SqL K H a us ∨ SqT K H a us) ∧ DpAll K H us ds ∧ PySem.W.AllAlike ds ∧ SortX ds ∧ (∀ d ∈ ds, d.depth ≤ 60) ∧
  ∀ us' p, DpAll K H us' (ds.mergeSort (PySem.W.dataLe false id)) → H p = none → Q (.ref p) (upd H p (.lst us'))
theorem cr_sortD (hu : X.A.units + 64 < cLine) : CallR X (.builtin "sorted") (rSortD X.K) := by
  intro pins s σ H vs us Q I r h
  obtain ⟨a, xs, ds, rfl, hs, hd, hal, hk, hdep, q⟩ := h
  rw [Vals.ref1 r]
  obtain ⟨its, rv, hl, hz⟩ : ∃ its : List Value, Vals xs its ∧ (s.heap.IsList a its.toArray ∨ s.heap.IsTuple a its.toArray) ∧ xs.length ≤ sizeLine := by
    rcases hs with hs | hs
    · obtain ⟨its, rv, pl, hz⟩ := I.list hs
      exact ⟨its, rv, .inl pl.isList, hz⟩
    · obtain ⟨its, rv, pl, hz⟩ := I.tuple hs
      exact ⟨its, rv, .inr pl, hz⟩
  refine sorted_raw hl (each_of rv hd) (each_reads I rv hd) hal hk (by rw [← rv.length]; exact hz) (fun d hd => by have := hdep d hd; omega) fun out ho => ?_
  obtain ⟨us', h1, h2⟩ := of_each ho
  obtain ⟨ep, he'⟩ := PyProof.Rows.sortedAll_at s.heap its (List.toArray out)
  have hlen : us'.length ≤ sizeLine := by rw [DpAll.length h2, List.length_mergeSort, ← DpAll.length hd]; exact hz
  exact ⟨.ref _, upd H (s.heap.objs.size + 1) (.lst us'), I.laid (t' := s.toks) (fun _ _ => PyProof.Rows.sortedAll_old) (Nat.le_succ _) ⟨hlen, out, ep, h1, he'⟩, rfl, q us' _ h2 (I.hok.fresh (Nat.le_succ _))⟩
/-- sorted(xs), by what it does to data -/
def fSorted : F1 := fun w k => ∃ ds, (w = .l ds ∨ w = .d (.tuple ds)) ∧ PySem.W.AllAlike ds ∧ SortX ds ∧ (∀ d ∈ ds, d.depth ≤ 60) ∧ k (.l (ds.mergeSort (PySem.W.dataLe false id)))
theorem u_sorted : U1 T K (rSortD K) fSorted := fun v H w k Q tb rw' ⟨ds, ew, h1, h2, h3, hk⟩ hq => by
  have fin : ∀ (us : List V), immAll ds = true → ∀ us' p, DpAll K H us' (ds.mergeSort (PySem.W.dataLe false id)) → H p = none → Q (.ref p) (upd H p (.lst us')) := fun us im us' p hd hp => by
    have im2 : immAll (ds.mergeSort (PySem.W.dataLe false id)) = true := immAll_iff.mpr fun x hx => immAll_iff.mp im x ((List.mergeSort_perm _ _).mem_iff.mp hx)
    exact hq _ _ (.l _) hk (Ext.new hp) ⟨p, us', rfl, upd_same, DpAll.tups (Ext.new (T := T) hp).tupE _ _ im2 hd, im2⟩ fun _ p' ep => by cases ep; exact hp
  rcases ew with rfl | rfl
  · obtain ⟨p, vs, rfl, e2, e3, e4⟩ := rw'
    exact ⟨p, vs, ds, rfl, .inl (.inl (.inl e2)), e3, h1, h2, h3, fin vs e4⟩
  · obtain ⟨p, vs, rfl, e2, e3, e4⟩ := rw_tup rw'
    exact ⟨p, vs, ds, rfl, .inr e2, e3, h1, h2, h3, fin vs e4⟩
end
end Dw

/-! part DwM -/
set_option Elab.async false
set_option linter.all false
set_option maxRecDepth 100000
set_option maxHeartbeats 4000000
namespace Dw
open PySem PySem.Spec PyProof.Rows L2
section
variable {T : List NdefX.NTab} {K : PySem.W.Frag} {X : Cx} {H : Hp} {e : Expr} {pos : Pos}

/-! ### min -/
theorem readsAll_of {pins : List (Addr × Obj)} {σ : L2.St} {s : Shared} (I : Inv X pins σ H s) {us : List V} {vs : List Value} {ds : List PyData} (r : Vals us vs) (h : DpAll X.K H us ds) : ∃ as, ReadsAll s.heap vs ds as := Dp.readsAll I ds us vs h r
theorem minD_mem (x : PyData) : ∀ xs : List PyData, PySem.W.minD x xs ∈ x :: xs := by
  intro xs
  induction xs generalizing x with
  | nil => exact List.mem_cons_self ..
  | cons y r ih =>
    show PySem.W.minD (if PySem.W.dataLt y x then y else x) r ∈ _
    rcases List.mem_cons.mp (ih (if PySem.W.dataLt y x then y else x)) with h | h
    · rw [h]
      split
      · exact List.mem_cons_of_mem _ (List.mem_cons_self ..)
      · exact List.mem_cons_self ..
    · exact List.mem_cons_of_mem _ (List.mem_cons_of_mem _ h)
def rMinD (K : PySem.W.Frag) : List V → Hp → VK → Prop := fun vs H Q => ∃ (a : Addr) (us : List V) (x : PyData) (xs : List PyData), vs = [.ref a] ∧ (SqL K H a us ∨ SqT K H a us) ∧ DpAll K H us (x :: xs) ∧ PySem.W.AlikeAll (x :: xs) ∧ PyData.depthAll (x :: xs) ≤ 60 ∧
  ∀ v, Dp K H v (PySem.W.minD x xs) → Q v H
theorem cr_minD (hc : X.calm = true) (hu : X.A.units + 64 < cLine) : CallR X (.builtin "min") (rMinD X.K) := by
  intro pins s σ H vs us Q I r h
  obtain ⟨a, ys, x, xs, rfl, hs, hd, hal, hdep, q⟩ := h
  rw [Vals.ref1 r]
  have fin : ∀ (its : List Value), Vals ys its → ∀ (i : Nat) (v : Value) (h' : Heap) (tk : Nat) (bs : List Addr), its.toArray[i]? = some v → Reads h' v (PySem.W.minD x xs) bs → (∀ b o, s.heap.get? b = some o → h'.get? b = some o) → EP X pins σ Q v { s with heap := h', toks := tk } := fun its rv i v h' tk bs hv hr hk => by
    have hv2 : its[i]? = some v := by simpa using hv
    cases q2 : ys[i]? with
    | none =>
      have := rv.none_of q2
      rw [hv2] at this
      cases this
    | some y =>
      obtain ⟨u, e1, e2⟩ := rv.get q2
      rw [hv2] at e1
      cases e1
      obtain ⟨d, f1, f2⟩ := DpAll.getV hd q2
      obtain ⟨as, hr2⟩ := Dp.reads I d y v f2 e2
      have e3 : d = PySem.W.minD x xs := PySem.W.alike_unique _ _ _ _ _ (hal.1 d (List.mem_of_getElem? f1) _ (minD_mem x xs)) (PySem.W.reads_keeps hk hr2) hr
      subst e3
      exact ⟨y, H, I.kept hk, e2, q y f2⟩
  rcases hs with hs | hs
  · obtain ⟨its, rv, pl, hz⟩ := I.list hs
    obtain ⟨as, hr⟩ := readsAll_of I rv hd
    exact PySem.W.min_list_data (I.ok.hd hc) pl.isList (as := as) (by simpa using hr) hal (by omega) fun i v h' tk bs hv hr hk => fin its rv i v h' tk bs hv hr hk
  · obtain ⟨its, rv, pl, hz⟩ := I.tuple hs
    obtain ⟨as, hr⟩ := readsAll_of I rv hd
    exact PySem.W.min_tuple_data (I.ok.hd hc) pl (as := as) (by simpa using hr) hal (by omega) fun i v h' tk bs hv hr hk => fin its rv i v h' tk bs hv hr hk
def fMin : F1 := fun w k => ∃ x xs, (w = .l (x :: xs) ∨ w = .d (.tuple (x :: xs))) ∧ PySem.W.AlikeAll (x :: xs) ∧ PyData.depthAll (x :: xs) ≤ 60 ∧ k (.d (PySem.W.minD x xs))
theorem u_min : U1 T K (rMinD K) fMin := fun v H w k Q tb rw' ⟨x, xs, ew, h1, h2, hk⟩ hq => by
  rcases ew with rfl | rfl
  · obtain ⟨p, vs, rfl, e2, e3, e4⟩ := rw'
    exact ⟨p, vs, x, xs, rfl, .inl (.inl (.inl e2)), e3, h1, h2, fun v hv => hq v H (.d _) hk (Ext.refl _) ⟨immAll_iff.mp e4 _ (minD_mem x xs), hv⟩ new_d⟩
  · obtain ⟨p, vs, rfl, e2, e3, e4⟩ := rw_tup rw'
    exact ⟨p, vs, x, xs, rfl, .inr e2, e3, h1, h2, fun v hv => hq v H (.d _) hk (Ext.refl _) ⟨immAll_iff.mp e4 _ (minD_mem x xs), hv⟩ new_d⟩

/-! ### sum, all, any -/
def rSumA (K : PySem.W.Frag) : List V → Hp → VK → Prop := fun vs H Q => ∃ (a : Addr) (ns : List Int), vs = [V.ref a] ∧ SqT K H a (ns.map V.int) ∧ Q (.int ns.sum) H
theorem cr_sumT (hc : X.calm = true) : CallR X (.builtin "sum") (rSumA X.K) := by
  intro pins s σ H vs us Q I r h
  obtain ⟨a, ns, rfl, hs, q⟩ := h
  rw [Vals.ref1 r]
  obtain ⟨its, rv, ht, hz⟩ := I.tuple hs
  have hi := rv.ints
  obtain ⟨xs, e⟩ := hi.allInts.items
  have hn : numsOf (intItems xs).toList = ns := by rw [← e]; exact hi.numsOf
  rw [nums_intItems] at hn
  rw [e] at ht
  refine PySem.W.ktm_sumG (I.ok.hd hc) ht fun h' tk t' hk => ?_
  rw [preSum_eq, List.take_of_length_le (by simp), hn]
  exact ⟨.int ns.sum, H, I.kept hk, ⟨_, rfl⟩, q⟩
def fSum : F1 := fun w k => ∃ ns : List Int, w = .d (.tuple (ns.map .int)) ∧ k (.d (.int ns.sum))
theorem u_sum : U1 T K (rSumA K) fSum := fun v H w k Q tb rw' ⟨ns, ew, hk⟩ hq => by
  subst ew
  obtain ⟨p, vs, rfl, e2, e3, e4⟩ := rw_tup rw'
  rw [DpAll.ints e3] at e2
  exact ⟨p, ns, rfl, e2, hq _ H (.d (.int ns.sum)) hk (Ext.refl _) ⟨rfl, .int _⟩ new_d⟩
def fAll : F1 := fun w k => ∃ bs : List Bool, w = .l (bs.map .bool) ∧ k (.d (.bool (bs.all id)))
def fAny : F1 := fun w k => ∃ bs : List Bool, w = .l (bs.map .bool) ∧ k (.d (.bool (bs.any id)))
theorem u_all : U1 T K (rAll K) fAll := fun v H w k Q tb rw' ⟨bs, ew, hk⟩ hq => by
  subst ew
  obtain ⟨p, vs, rfl, e2, e3, e4⟩ := rw'
  rw [DpAll.bls e3] at e2
  exact ⟨p, bs, rfl, .inl (.inl e2), hq _ H (.d (.bool (bs.all id))) hk (Ext.refl _) ⟨rfl, .bl _⟩ new_d⟩
theorem u_any : U1 T K (rAny K) fAny := fun v H w k Q tb rw' ⟨bs, ew, hk⟩ hq => by
  subst ew
  obtain ⟨p, vs, rfl, e2, e3, e4⟩ := rw'
  rw [DpAll.bls e3] at e2
  exact ⟨p, bs, rfl, .inl (.inl e2), hq _ H (.d (.bool (bs.any id))) hk (Ext.refl _) ⟨rfl, .bl _⟩ new_d⟩
end

end Dw

/-! part DwO -/
set_option Elab.async false
set_option linter.all false
set_option maxRecDepth 100000
set_option maxHeartbeats 4000000
namespace Dw
open PySem PySem.Spec PyProof.Rows L2
/-- a tuple of ints -/
abbrev tI (ns : List Int) : PyData := .tuple (ns.map .int)
theorem alike_tI (a b : List Int) : PySem.W.alike (tI a) (tI b) = true := by
  show PySem.W.alikeAll (a.map .int) (b.map .int) = true
  exact PySem.W.alike_ints a b
theorem depth_tI (a : List Int) : (tI a).depth ≤ 1 := by
  have h := PySem.W.depth_ints a
  show PyData.depthAll (a.map .int) + 1 ≤ 1
  rw [h]
  omega
section
variable {P : Program} {w : World} {A : Around} {E : Value → Shared → Prop} {s : Shared}
theorem reads_tI {h : Heap} {k : List Int} {b : Addr} (x : IsT P w h k b) : ∃ as, Reads h (.ref b) (tI k) as := by
  obtain ⟨b', items, e, ⟨o, ho, hc, n, hd⟩, hi⟩ := tupInts_of x
  cases e
  have h5 : ∀ {vs : List Value} {ns : List Int}, IntsAre vs ns → ∃ as, ReadsAll h vs (ns.map .int) as := by
    intro vs ns hi
    induction hi with
    | nil => exact ⟨_, .nil⟩
    | cons n t _ ih =>
      obtain ⟨as, r⟩ := ih
      exact ⟨_, .cons (.int n t) r⟩
  obtain ⟨as, r⟩ := h5 hi
  exact ⟨_, .tuple ho hc hd r⟩
theorem sorted_setX {a : Addr} {L : List (Addr × List Int)} {es : Array (Int × Value)} {ep : Nat} {t : SetTable} {Q : Value → Shared → Prop} (R : SetTR P w s.heap a L es ep t) (hh : A.handled = none) (hu : A.units + 10 < cLine)
    (hB : ∀ p ∈ L, p.2 ≠ [])
    (hQ : ∀ s' p (out : List Value) (c : Nat) (L' : List (Addr × List Int)), (∀ b o, s.heap.get? b = some o → s'.heap.get? b = some o) → s'.gens = s.gens → s'.os = s.os → s.heap.objs.size ≤ p →
      s'.heap.get? p = some (seqObj "list" out.toArray c) → out = L'.map (fun q => Value.ref q.1) → L'.Perm L → Q (.ref p) s') :
    wpAny (model P w) A (call (.builtin "sorted") [.ref a]) Q E s := by
  obtain ⟨o, ho, hex, hd⟩ := R.ob
  have hsz := R.size
  have hfew := R.few
  refine Calls.call_function_entry kind_sorted plain_sorted entry_sorted (args_sorted1 _) ?_
  unfold Builtin.«sorted»
  refine wpAny_bind (m := checkCount "sorted" 1 1 _) (wpAny_pure ?_)
  refine wpAny_bind (collect_set (A := A.in1) hh ⟨o, ho, hex.1, hd⟩ R.fits (by unfold scanBound; omega) R.tab.ris R.led fun s1 vs k1 hz g1 o1 pm => ?_)
  have hes : es.toList.map (·.2) = L.map fun q => Value.ref q.1 := by
    rw [R.rows]
    unfold rowsOf
    rw [List.map_map] <;> rfl
  rw [hes] at pm
  have ord : ∀ vs : List Value, (∀ v ∈ vs, ∃ q ∈ L, v = Value.ref q.1) → ∃ L1 : List (Addr × List Int), vs = L1.map (fun q => Value.ref q.1) ∧ ∀ q ∈ L1, q ∈ L := by
    intro vs
    induction vs with
    | nil => intro _; exact ⟨[], rfl, fun q hq => (by cases hq)⟩
    | cons v vs ih =>
      intro hv
      obtain ⟨q, hq, e⟩ := hv v List.mem_cons_self
      obtain ⟨L1, e1, hs⟩ := ih fun u hu => hv u (List.mem_cons_of_mem _ hu)
      refine ⟨q :: L1, by rw [List.map_cons, e, e1], fun r hr => ?_⟩
      rcases List.mem_cons.mp hr with z | z
      · rw [z]; exact hq
      · exact hs r z
  have one : ∀ q ∈ L, ∀ r ∈ L, q.1 = r.1 → q = r := fun q hq r hr e => by
    have a1 := R.tup q hq
    have a2 := R.tup r hr
    rw [e] at a1
    have e2 : q.2 = r.2 := a1.inj a2
    exact Prod.ext e e2
  have perm_of : ∀ L1 : List (Addr × List Int), (∀ q ∈ L1, q ∈ L) → (L1.map (fun q => Value.ref q.1)).Perm (L.map fun q => Value.ref q.1) → L1.Perm L := by
    intro L1 hs pm1
    have nL : L.Nodup := nodup_of_map R.nd
    have nref : (L.map fun q => Value.ref q.1).Nodup := by
      refine List.pairwise_map.mpr (List.Pairwise.imp_of_mem (fun {q r} hq hr hne e => ?_) nL)
      injection e with e
      exact hne (one q hq r hr e)
    have n1 : L1.Nodup := nodup_of_map (pm1.nodup_iff.mpr nref)
    refine (List.perm_ext_iff_of_nodup n1 nL).mpr fun q => ⟨hs q, fun hq => ?_⟩
    have hm : Value.ref q.1 ∈ L1.map (fun q => Value.ref q.1) := pm1.mem_iff.mpr (List.mem_map.mpr ⟨q, hq, rfl⟩)
    obtain ⟨r, hr, e⟩ := List.mem_map.mp hm
    injection e with e
    rw [← one r (hs r hr) q hq e]
    exact hr
  have hvl : vs.length < 64 := by rw [pm.length_eq, List.length_map]; exact hfew
  have hvz : vs.length ≤ sizeLine := by rw [sizeLine_eq]; omega
  refine wpAny_bind (wpAny_newList ?_ hvz)
  have hoL : (s1.heap.push (seqObj "list" vs.toArray 0)).get? s1.heap.objs.size = some (seqObj "list" vs.toArray 0) := Heap.get?_push_size _ rfl
  obtain ⟨L1, e1, hs1⟩ := ord vs fun v hv => by
    obtain ⟨q, hq, e⟩ := List.mem_map.mp (pm.mem_iff.mp hv)
    exact ⟨q, hq, e.symm⟩
  have p1 : L1.Perm L := perm_of L1 hs1 (by rw [← e1]; exact pm)
  have kall : ∀ b u, s.heap.get? b = some u → (PySem.W.sortingHeap (s1.heap.push (seqObj "list" vs.toArray 0)) s1.heap.objs.size vs).get? b = some u := fun b u e =>
    have q := k1 b u e
    PySem.W.sortingHeap_old (Nat.ne_of_lt (Heap.lt_size q)) (Heap.get?_push_of_some _ q)
  have enc : ∀ L2 : List (Addr × List Int), (∀ q ∈ L2, q ∈ L) → PySem.W.EachIs (fun v (q : Addr × List Int) => ∃ as, Reads (PySem.W.sortingHeap (s1.heap.push (seqObj "list" vs.toArray 0)) s1.heap.objs.size vs) v (tI q.2) as) (L2.map fun q => Value.ref q.1) L2 := by
    intro L2
    induction L2 with
    | nil => intro _; exact .nil
    | cons q r ih =>
      intro h
      exact .cons (reads_tI (isT_keep (R.tup q (h q (List.mem_cons_self ..))) kall)) (ih fun z hz => h z (List.mem_cons_of_mem _ hz))
  have er := enc L1 hs1
  rw [← e1] at er
  have hal : PySem.W.AllAlike (L1.map fun q => tI q.2) := PySem.W.AllAlike.of (enc := fun q : Addr × List Int => tI q.2) fun b b' => alike_tI _ _
  have S := sortsAt_x (prog := P) (w := w) (A := A.in1.in1) (s := { s1 with heap := PySem.W.sortingHeap (s1.heap.push (seqObj "list" vs.toArray 0)) s1.heap.objs.size vs }) (PySem.W.each_map (R := fun v d => ∃ as, Reads (PySem.W.sortingHeap (s1.heap.push (seqObj "list" vs.toArray 0)) s1.heap.objs.size vs) v d as) (fun q : Addr × List Int => tI q.2) er) hal
    (.inl (.inl fun d hd => by
      obtain ⟨q, hq, rfl⟩ := List.mem_map.mp hd
      have ne := hB q (hs1 q hq)
      cases e : q.2 with
      | nil => exact absurd e ne
      | cons x r => exact ⟨.int x, r.map .int, by show PyData.tuple ((x :: r).map .int) = _; rfl⟩)) (fun d hd => by
      obtain ⟨q, hq, rfl⟩ := List.mem_map.mp hd
      have := depth_tI q.2
      show A.units + 1 + 1 + (tI q.2).depth < cLine
      omega)
  have ev : PySem.W.EachIs (fun v (q : Addr × List Int) => v = Value.ref q.1) vs L1 := by
    rw [e1]
    have go : ∀ L2 : List (Addr × List Int), PySem.W.EachIs (fun v (q : Addr × List Int) => v = Value.ref q.1) (L2.map fun q => Value.ref q.1) L2 := by
      intro L2
      induction L2 with
      | nil => exact .nil
      | cons q r ih => exact .cons rfl ih
    exact go L1
  have eo := PySem.W.sortVals_data (enc := fun q : Addr × List Int => tI q.2) false ev er hal
  have back : ∀ {vs : List Value} {L2 : List (Addr × List Int)}, PySem.W.EachIs (fun v (q : Addr × List Int) => v = Value.ref q.1) vs L2 → vs = L2.map fun q => Value.ref q.1 := by
    intro vs L2 h
    induction h with
    | nil => rfl
    | cons h1 _ ih => rw [List.map_cons, h1, ih]
  refine wpAny_bind (wpAny_holding (wpAny_call_entry slot_list_sort ⟨_, hoL, rfl⟩ entry_list_sort (PySem.W.list_sort_vals (s := { s1 with heap := s1.heap.push (seqObj "list" vs.toArray 0) }) hoL S hvz ⟨_, rfl, ?_⟩) (args_list_sort _)))
  obtain ⟨c, hc⟩ := sortedHeap_at (vs := vs) (out := (PySem.W.sortVals (PySem.W.dataKind (PySem.W.sortingHeap (s1.heap.push (seqObj "list" vs.toArray 0)) s1.heap.objs.size vs) (L1.map fun q => tI q.2)) false vs vs).toArray) hoL
  refine wpAny_pure ⟨_, rfl, hQ _ s1.heap.objs.size _ c (L1.mergeSort (PySem.W.dataLe false fun q => tI q.2)) (fun b u e => ?_) g1 o1 hz hc (back eo) ((List.mergeSort_perm _ _).trans p1)⟩
  have q := k1 b u e
  have hlt := Heap.lt_size q
  show (sortedHeap (s1.heap.push (seqObj "list" vs.toArray 0)) s1.heap.objs.size vs _).get? b = some u
  rw [sortedHeap_old (Nat.ne_of_lt hlt) (by rw [size_push']; exact Nat.lt_succ_of_lt hlt)]
  exact Heap.get?_push_of_some _ q
end
section
variable {T : List NdefX.NTab} {K : PySem.W.Frag} {X : Cx} {H : Hp}
def rSortSetX (K : PySem.W.Frag) (P : Program) (w : World) : List V → Hp → VK → Prop := fun vs H Q => ∃ (a : Addr) (L : List (Addr × List Int)), vs = [V.ref a] ∧ H a = some (SetTO P w a L) ∧ (∀ p ∈ L, SqT K H p.1 (p.2.map V.int)) ∧ (∀ p ∈ L, p.2 ≠ []) ∧
  ∀ (L' : List (Addr × List Int)) (p : Addr), L'.Perm L → (L'.map (·.2)).Nodup → H p = none → Q (.ref p) (upd H p (.lst (L'.map fun q => V.ref q.1)))
theorem cr_sortSetX (hc : X.calm = true) (hu : X.A.units + 64 < cLine) : CallR X (.builtin "sorted") (rSortSetX X.K X.prog X.w) := by
  intro pins s σ H vs us Q I r h
  obtain ⟨a, L, rfl, ha, hk, hB, q⟩ := h
  have R0 : SetT0 X.prog X.w s.heap a L := (I.hok a _ ha).1
  obtain ⟨es, ep, t, R⟩ := R0.full fun p hp => I.isT (hk p hp)
  rw [Vals.ref1 r]
  refine sorted_setX R (I.ok.hd hc) (by omega) hB fun s' p out c L' k g o hp hg hout pm => ?_
  have hfew : L'.length < 64 := by rw [pm.length_eq]; exact R.few
  have hlen : (L'.map fun q => V.ref q.1).length ≤ sizeLine := by rw [List.length_map, sizeLine_eq]; omega
  have hn : H p = none := I.hok.fresh hp
  have hv : Vals (L'.map fun q => V.ref q.1) out := by rw [hout]; exact vals_of_refs L'
  have J : Inv X pins σ (upd H p (.lst (L'.map fun q => V.ref q.1))) { s with heap := s'.heap, gens := s'.gens, drawn := s'.drawn, toks := s'.toks } :=
    I.call (ch := []) (Un.laid k hp hn) (I.hok.laid k hp ⟨hlen, out, c, hv, hg⟩) (by rw [g]; exact I.bare) (fun _ z => nomatch z)
  have e : s' = { s with heap := s'.heap, gens := s'.gens, drawn := s'.drawn, toks := s'.toks } := by
    cases s'
    cases s
    cases o
    rfl
  rw [e]
  exact ⟨.ref p, _, J, rfl, q L' p pm ((pm.map (·.2)).nodup_iff.mpr R.nd) hn⟩
end
end Dw

/-! part DwN -/
set_option Elab.async false
set_option linter.all false
set_option maxRecDepth 100000
set_option maxHeartbeats 4000000
namespace Dw
open PySem PySem.Spec PyProof.Rows L2
/-! ### set of a list of ints -/
section
variable {P : Program} {w : World} {A : Around} {E : Value → Shared → Prop} {s : Shared}
set_option maxHeartbeats 6400000 in
theorem call_set_lstI {l : Addr} {items : Array Value} (ns : List Int) {Q : Value → Shared → Prop} (hh : A.handled = none) (hl : s.heap.IsList l items) (hit : IntsAre items.toList ns) (hb : ns.length + 1 < scanBound)
    (h : ∀ (h' : Heap) (tk c : Nat), SetR w h' s.heap.objs.size (fun j => decide (j ∈ ns)) c → c ≤ ns.length → (∀ b o, s.heap.get? b = some o → h'.get? b = some o) → Q (.ref s.heap.objs.size) { s with heap := h', toks := tk }) :
    wpAny (model P w) A (call (.type "set") [.ref l]) Q E s := by
  have hisz : items.size = ns.length := by
    have q := IntsAre.length hit
    rw [Array.length_toList] at q
    exact q
  obtain ⟨c, tl, hmro⟩ := F.called_set.mro
  have hmade := F.called_set.made
  have hsub := F.called_set.sub
  refine wpAny_call (codeAny_of_tree ?_)
  show wpAny _ _ (callAny (.type "set") _) _ _ _
  refine wpAny_pure ⟨Code.quiet_builtin _ (by decide +kernel), codeAny_builtin F.entry_type_call ?_⟩
  rw [Around.under_plain (weight_type_call_type "set" [.ref l] []) rfl]
  have h1 := F.called_set.notType
  have h2 := F.called_set.canCreate
  have hct := F.typeCall_set_1 (.ref l)
  repeat (any_goals (first | assumption | wp_step))

  refine codeAny_mono (code_set_led1 (.ref l) (E := E) (Q₁ := fun obj s₁ => obj = .ref s.heap.objs.size ∧ s₁ = { s with heap := s.heap.push { cls := .type "set", dict := none, data := .set #[] 0 (.fresh 0 0 (!w.params.followText "set-order")) } }) ⟨rfl, rfl⟩) fun r s₁ hr => ?_
  cases r with
  | error e => exact hr
  | ok fl =>
    cases fl with
    | ret obj =>
      obtain ⟨rfl, rfl⟩ := hr
      have hS : (s.heap.push { cls := .type "set", dict := none, data := .set #[] 0 (.fresh 0 0 (!w.params.followText "set-order")) }).get? s.heap.objs.size = some { cls := .type "set", dict := none, data := .set #[] 0 (.fresh 0 0 (!w.params.followText "set-order")) } := Heap.get?_push_size _ rfl
      have hT : Shared.TypeIs { s with heap := s.heap.push { cls := .type "set", dict := none, data := .set #[] 0 (.fresh 0 0 (!w.params.followText "set-order")) } } (.ref s.heap.objs.size) "set" := ⟨_, hS, rfl⟩
      have hli := F.called_set.init.lookup
      have hbi := F.called_set.init.bind (.ref s.heap.objs.size)
      repeat (any_goals (first | assumption | wp_step))

      refine codeAny_mono (codeAny_call_builtin (R := wants (fun r s₂ => r = .none ∧ ∃ h' tk c, s₂ = { s with heap := h', toks := tk } ∧ SetR w h' s.heap.objs.size (fun j => decide (j ∈ ns)) c ∧ c ≤ ns.length ∧
          (∀ b o, s.heap.get? b = some o → h'.get? b = some o)) E) F.called_set.init.plain F.entry_set_init (check_set_init_1 hT ?_)) fun r₂ s₂ hr₂ => ?_
      · obtain ⟨ol, hol, hcl, nl, hdl⟩ := hl
        obtain ⟨ocls, odict, odata, oslots⟩ := ol
        simp only at hcl hdl
        subst hcl; subst hdl
        have hol' : (s.heap.push { cls := .type "set", dict := none, data := .set #[] 0 (.fresh 0 0 (!w.params.followText "set-order")) }).get? l = some { cls := .type "list", dict := odict, data := .seq items nl, slots := oslots } := Heap.get?_push_of_some _ hol
        have hsls := F.sub_list_set
        have hslf := F.sub_list_frozenset
        have hne : (Value.type "list" == Value.type "dict") = false := by decide
        have hl1 : (s.heap.push { cls := .type "set", dict := none, data := .set #[] 0 (.fresh 0 0 (!w.params.followText "set-order")) }).IsList l items := ⟨_, hol', rfl, nl, rfl⟩
        unfold Builtin.«set.__init__» noKeywords Builtin.Frozenset.updateFrom
        generalize hPI : pyIter = PI
        wp_walk
        subst hPI

        refine wpAny_pyIter_list hl1 ?_
        refine wpAny_bind (wpAny_runValue ?_)
        have hlS : l < s.heap.objs.size := Heap.lt_size hol
        have hh3 : A.in1.in1.in1.handled = none := by simp [hh]
        have hz1 : (s.heap.push { cls := .type "set", dict := none, data := .set #[] 0 (.fresh 0 0 (!w.params.followText "set-order")) }).objs.size = s.heap.objs.size + 1 := Heap.size_push ..
        have hneI : l ≠ (s.heap.push { cls := .type "set", dict := none, data := .set #[] 0 (.fresh 0 0 (!w.params.followText "set-order")) }).objs.size := by
          rw [Heap.size_push]; exact Nat.ne_of_lt (Nat.lt_succ_of_lt hlS)
        have hSf : s.heap.objs.size ∉ [(s.heap.push { cls := .type "set", dict := none, data := .set #[] 0 (.fresh 0 0 (!w.params.followText "set-order")) }).objs.size, l] := by
          rw [Heap.size_push]; simp only [List.mem_cons, List.mem_singleton, List.not_mem_nil, or_false, not_or]
          exact ⟨Nat.ne_of_lt (Nat.lt_succ_self _), Nat.ne_of_gt hlS⟩
        have hval : ∀ (i : Nat) (v : Value), items[i]? = some v → ∃ k t, ns[i]? = some k ∧ v = .int k t := fun i v hv => by
          have hi : i < ns.length := by rw [← hisz]; exact (Array.getElem?_eq_some_iff.mp hv).1
          obtain ⟨t, e⟩ := PyProof.Rows.IntsAre.int_at hit i v (by rw [Array.getElem?_toList]; exact hv)
          refine ⟨ns[i], t, List.getElem?_eq_getElem hi, ?_⟩
          rw [e, List.getD_eq_getElem?_getD, List.getElem?_eq_getElem hi] <;> rfl
        refine set_update_ints ((Walks.list hh3 _ l hneI items).toS) s.heap.objs.size
          hSf ns hisz hb hval (items.size - 0) 0 _ (by omega) (Nat.zero_le _)
          ⟨⟨_, Heap.get?_push_size _ rfl, rfl, rfl⟩, (hl1.push _)⟩ ?hS0 ?hR
        case hS0 =>
          have hget : ((s.heap.push { cls := .type "set", dict := none, data := .set #[] 0 (.fresh 0 0 (!w.params.followText "set-order")) }).push { cls := .type "list_iterator", data := .fields #[.ref l, .int 0 0] }).get? s.heap.objs.size
              = some { cls := .type "set", dict := none, data := .set #[] 0 (.fresh 0 0 (!w.params.followText "set-order")) } := Heap.get?_push_of_some _ hS
          exact ⟨0, Nat.le_refl 0, setR_new_at hget⟩
        case hR =>
          intro s' c' hm hc' hS'
          obtain ⟨h', g2, d', tk', os'⟩ := s'
          have eg : g2 = s.gens := hm.gens
          have ed : d' = s.drawn := hm.drawn
          have eo : os' = s.os := hm.os
          subst eg; subst ed; subst eo
          show wpAny _ _ _ _ _ _
          refine wpAny_pure ?_
          show wpAny _ _ (ret Value.none) _ _ _
          rw [hisz] at hc'
          refine wpAny_pure ⟨rfl, h', tk', c', rfl, hS', hc', fun b o e => ?_⟩
          have hb0 : b < s.heap.objs.size := Heap.lt_size e
          have hb1 : b ≠ s.heap.objs.size := Nat.ne_of_lt hb0
          have hb2 : b ≠ (s.heap.push { cls := .type "set", dict := none, data := .set #[] 0 (.fresh 0 0 (!w.params.followText "set-order")) }).objs.size := by
            rw [Heap.size_push]; exact Nat.ne_of_lt (Nat.lt_succ_of_lt hb0)
          exact hm.heap b o (by simp only [List.mem_cons, List.mem_singleton, List.not_mem_nil, or_false, not_or]; exact ⟨hb1, hb2⟩) (Heap.get?_push_of_some _ (Heap.get?_push_of_some _ e))

      · cases r₂ with
        | error e => exact hr₂
        | ok fl₂ =>
          cases fl₂ with
          | ret r =>
            obtain ⟨rfl, h', tk, c', rfl, hS', hc', hk'⟩ := hr₂
            repeat (any_goals (first | assumption | wp_step))
            exact h _ _ _ hS' hc' hk'
          | _ => exact hr₂.elim
    | _ => exact hr.elim
end
end Dw

/-! part DwQ -/
set_option Elab.async false
set_option linter.all false
set_option maxRecDepth 100000
set_option maxHeartbeats 4000000
namespace Dw
open PySem PySem.Spec PyProof.Rows L2
section
variable {T : List NdefX.NTab} {K : PySem.W.Frag} {X : Cx} {H : Hp} {e : Expr}
theorem setR_len {w : World} {h : Heap} {a : Addr} {ns : List Int} {c : Nat} (R : SetR w h a (fun j => decide (j ∈ ns)) c) (nd : ns.Nodup) : c = ns.length := by
  obtain ⟨o, es, ep, t, _, _, _, _, h1, h2, _, _, h3, _⟩ := R
  have p : (es.toList.map keyOf).Perm ns := (List.perm_ext_iff_of_nodup h1 nd).mpr fun k => (h2 k).symm.trans (decide_eq_true_iff)
  have l := p.length_eq
  rw [List.length_map, Array.length_toList] at l
  omega
theorem setR_le {w : World} {h : Heap} {a : Addr} {ns : List Int} {c : Nat} (R : SetR w h a (fun j => decide (j ∈ ns)) c) (L : List Int) (hL : ∀ k ∈ ns, k ∈ L) : c ≤ L.length := by
  obtain ⟨o, es, ep, t, _, _, _, _, h1, h2, _, _, h3, _⟩ := R
  have l := List.Nodup.length_le_of_subset h1 (l₂ := L) fun k hk => hL k (of_decide_eq_true ((h2 k).mpr hk))
  rw [List.length_map, Array.length_toList] at l
  omega
def rSetI (K : PySem.W.Frag) (w : World) : List V → Hp → VK → Prop := fun vs H Q => ∃ (a : Addr) (ns : List Int), vs = [.ref a] ∧ (SqL K H a (ns.map V.int) ∨ SqT K H a (ns.map V.int)) ∧ ns.length ≤ 1000 ∧
  ∀ p c, H p = none → (∀ L : List Int, (∀ k ∈ ns, k ∈ L) → c ≤ L.length) → (ns.Nodup → c = ns.length) → Q (.ref p) (upd H p (SetO w p (fun j => decide (j ∈ ns)) c))
theorem cr_setI (hc : X.calm = true) : CallR X (.type "set") (rSetI X.K X.w) := by
  intro pins s σ H vs us Q I r h
  obtain ⟨a, ns, rfl, hs, hl, q⟩ := h
  rw [Vals.ref1 r]
  have fin : ∀ (h' : Heap) (tk c : Nat), SetR X.w h' s.heap.objs.size (fun j => decide (j ∈ ns)) c → c ≤ ns.length → (∀ b o, s.heap.get? b = some o → h'.get? b = some o) → EP X pins σ Q (.ref s.heap.objs.size) { s with heap := h', toks := tk } := fun h' tk c R hc k =>
    ⟨.ref _, upd H s.heap.objs.size (SetO X.w s.heap.objs.size (fun j => decide (j ∈ ns)) c), I.laid (t' := tk) k (Nat.le_refl _) (setO_new R), rfl, q _ c (I.hok.fresh (Nat.le_refl _)) (setR_le R) (setR_len R)⟩
  have hb : ns.length + 1 < scanBound := by unfold scanBound; omega
  rcases hs with hs | hs
  · obtain ⟨its, rv, pl, hz⟩ := I.list hs
    exact call_set_lstI ns (I.ok.hd hc) pl.isList (by simpa using rv.ints) hb fin
  · obtain ⟨its, rv, pl, hz⟩ := I.tuple hs
    exact call_set_tupI ns (I.ok.hd hc) pl (by simpa using rv.ints) hb fin
/-- ints that are written -/
theorem rw_ints {v : V} {w : W} {ns : List Int} (h : RW K H v w) (e : w = .l (ns.map .int) ∨ w = .d (.tuple (ns.map .int))) : ∃ a, v = .ref a ∧ (SqL K H a (ns.map V.int) ∨ SqT K H a (ns.map V.int)) := by
  rcases e with rfl | rfl
  · obtain ⟨p, vs, rfl, e2, e3, e4⟩ := h
    rw [DpAll.ints e3] at e2
    exact ⟨p, rfl, .inl (.inl (.inl e2))⟩
  · obtain ⟨p, vs, rfl, e2, e3, e4⟩ := rw_tup h
    rw [DpAll.ints e3] at e2
    exact ⟨p, rfl, .inr e2⟩
theorem imm_ints (ns : List Int) : immAll (ns.map .int) = true := immAll_map (fun _ => rfl) ns
def fSortSet : F1 := fun w k => ∃ ns : List Int, (w = .l (ns.map .int) ∨ w = .d (.tuple (ns.map .int))) ∧ ns.length ≤ 900 ∧ (∃ L : List Int, L.length ≤ 60 ∧ ∀ k ∈ ns, k ∈ L) ∧ ∀ ns' : List Int, ns'.Pairwise (· < ·) → (∀ k, k ∈ ns' ↔ k ∈ ns) → k (.l (ns'.map .int))
theorem x_sortSet {t : DT} {p p2 q pos : Pos} (hm : X.mg "sorted" = none) (hm2 : X.mg "set" = none) (ha : PE X e (can T X.K t)) (hg : Gl X "sorted" := by rfl) (hg2 : Gl X "set" := by rfl) (hc : X.calm = true := by rfl) (hs : starEach [e] X.env = (false, eval e X.env) :: starEach [] X.env := by rfl)
    (hs2 : starEach [.Call (.Name "set" p2) [e] [] q] X.env = (false, eval (.Call (.Name "set" p2) [e] [] q) X.env) :: starEach [] X.env := by rfl) (hpl : ∀ z, (backTo z (starEach [] X.env)).any (·.1) = false := by intro _; rfl) :
    PE X (.Call (.Name "sorted" p) [.Call (.Name "set" p2) [e] [] q] [] pos) (can T X.K (dU fSortSet t)) :=
  PE_imp (pe_callB (cr_sortedSet hc) hg hm (by decide +kernel) (pa_cons (pe_callTy (cr_setI hc) hg2 hm2 (by decide +kernel) (pa_cons ha pa_nil hs) (by decide) (by decide) hs (hpl _)) pa_nil hs2) (by decide) (by decide) hs2 (hpl _)) fun σ H Q ⟨H0, ρ, R, rep, ht, k⟩ =>
  ⟨H0, ρ, _, rep, ht, fun v H1 w n e rw' _ ⟨ns, ew, hl, ⟨L, hL, hL2⟩, hk⟩ => by
    obtain ⟨a, rfl, hsq⟩ := rw_ints rw' ew
    refine ⟨a, ns, rfl, hsq, by omega, fun p c hp hc _ => ?_⟩
    have hc60 := hc L hL2
    refine ⟨p, _, c, rfl, upd_same, by omega, fun ns' p' h1 h2 _ hp' => ?_⟩
    have e3 : Ext T H1 (upd (upd H1 p (SetO X.w p (fun j => decide (j ∈ ns)) c)) p' (.lst (ns'.map V.int))) := (Ext.new hp).trans (Ext.new hp')
    have hp1 : H1 p' = none := (Ext.new (T := T) hp).dm p' hp'
    exact k _ _ (.l (ns'.map .int)) 2 (e.trans e3) ⟨p', _, rfl, upd_same, dpAll_ints ns', imm_ints ns'⟩ (frs_new rep e fun _ p2 ep => by cases ep; exact hp1) (hk ns' h1 fun j => (h2 j).trans decide_eq_true_iff)⟩
/-! len(set(xs)), xs of unlike ints -/
def rLenSet (w : World) : List V → Hp → VK → Prop := fun vs H Q => ∃ (a : Addr) (S : Int → Bool) (n : Nat), vs = [V.ref a] ∧ H a = some (SetO w a S n) ∧ Q (.int n) H
theorem cr_lenSet : CallR X (.builtin "len") (rLenSet X.w) := by
  intro pins s σ H vs us Q I r h
  obtain ⟨a, S, n, rfl, ha, q⟩ := h
  have R := setO_get I ha
  rw [Vals.ref1 r]
  obtain ⟨o, es, ep, t, ho, hex, hd, _, _, _, hb, hf, hn, _⟩ := R
  have hz : es.size < 4096 := hb
  exact call_len_set ho hex hd hf (by omega) ⟨.int n, H, I.tok _, ⟨_, by rw [hn]⟩, q⟩
def fLenSet : F1 := fun w k => ∃ ns : List Int, (w = .l (ns.map .int) ∨ w = .d (.tuple (ns.map .int))) ∧ ns.length ≤ 60 ∧ ns.Nodup ∧ k (.d (.int (ns.length : Int)))
theorem x_lenSet {t : DT} {p p2 q pos : Pos} (hm : X.mg "len" = none) (hm2 : X.mg "set" = none) (ha : PE X e (can T X.K t)) (hg : Gl X "len" := by rfl) (hg2 : Gl X "set" := by rfl) (hc : X.calm = true := by rfl) (hs : starEach [e] X.env = (false, eval e X.env) :: starEach [] X.env := by rfl)
    (hs2 : starEach [.Call (.Name "set" p2) [e] [] q] X.env = (false, eval (.Call (.Name "set" p2) [e] [] q) X.env) :: starEach [] X.env := by rfl) (hpl : ∀ z, (backTo z (starEach [] X.env)).any (·.1) = false := by intro _; rfl) :
    PE X (.Call (.Name "len" p) [.Call (.Name "set" p2) [e] [] q] [] pos) (can T X.K (dU fLenSet t)) :=
  PE_imp (pe_callB cr_lenSet hg hm (by decide +kernel) (pa_cons (pe_callTy (cr_setI hc) hg2 hm2 (by decide +kernel) (pa_cons ha pa_nil hs) (by decide) (by decide) hs (hpl _)) pa_nil hs2) (by decide) (by decide) hs2 (hpl _)) fun σ H Q ⟨H0, ρ, R, rep, ht, k⟩ =>
  ⟨H0, ρ, _, rep, ht, fun v H1 w n e rw' _ ⟨ns, ew, hl, hnd, hk⟩ => by
    obtain ⟨a, rfl, hsq⟩ := rw_ints rw' ew
    refine ⟨a, ns, rfl, hsq, by omega, fun p c hp hc hcn => ?_⟩
    refine ⟨p, _, c, rfl, upd_same, ?_⟩
    rw [hcn hnd]
    exact k _ _ (.d (.int (ns.length : Int))) 2 (e.trans (Ext.new hp)) ⟨rfl, .int _⟩ frs_d hk⟩
/-! sorted(set(xs)), xs a list of tuples of ints -/
theorem tups_of : ∀ {vs : List V} {bs : List (List Int)}, DpAll K H vs (bs.map tI) → ∃ ks : List (Addr × List Int), vs = ks.map (fun p => V.ref p.1) ∧ ks.map (·.2) = bs ∧ ∀ p ∈ ks, SqT K H p.1 (p.2.map V.int)
  | _, [], .nil => ⟨[], rfl, rfl, fun p hp => nomatch hp⟩
  | _, b :: bs, .cons h t => by
    cases h with
    | @tup a us _ hs hu =>
      obtain ⟨ks, e1, e2, e3⟩ := tups_of t
      rw [DpAll.ints hu] at hs
      refine ⟨(a, b) :: ks, by rw [e1]; rfl, by rw [List.map_cons, e2], fun p hp => ?_⟩
      rcases List.mem_cons.mp hp with rfl | hp
      · exact hs
      · exact e3 p hp
theorem of_tups {L : List (Addr × List Int)} (h : ∀ p ∈ L, SqT K H p.1 (p.2.map V.int)) : DpAll K H (L.map fun p => V.ref p.1) ((L.map (·.2)).map tI) := by
  induction L with
  | nil => exact .nil
  | cons p L ih => exact .cons (.tup (h p (List.mem_cons_self ..)) (dpAll_ints _)) (ih fun q hq => h q (List.mem_cons_of_mem _ hq))
theorem imm_tIs (bs : List (List Int)) : immAll (bs.map tI) = true := immAll_map (f := tI) (fun ns => show imm (.tuple (ns.map .int)) = true from imm_ints ns) bs
def fSortSetT : F1 := fun w k => ∃ bs : List (List Int), w = .l (bs.map tI) ∧ bs.length < 64 ∧ (∀ b ∈ bs, b ≠ []) ∧ ∀ ys : List (List Int), ys.Nodup → (∀ y, y ∈ ys ↔ y ∈ bs) → k (.l (ys.map tI))
theorem x_sortSetT {t : DT} {p p2 q pos : Pos} (hu : X.A.units + 64 < cLine) (hm : X.mg "sorted" = none) (hm2 : X.mg "set" = none) (ha : PE X e (can T X.K t)) (hg : Gl X "sorted" := by rfl) (hg2 : Gl X "set" := by rfl) (hc : X.calm = true := by rfl) (hs : starEach [e] X.env = (false, eval e X.env) :: starEach [] X.env := by rfl)
    (hs2 : starEach [.Call (.Name "set" p2) [e] [] q] X.env = (false, eval (.Call (.Name "set" p2) [e] [] q) X.env) :: starEach [] X.env := by rfl) (hpl : ∀ z, (backTo z (starEach [] X.env)).any (·.1) = false := by intro _; rfl) :
    PE X (.Call (.Name "sorted" p) [.Call (.Name "set" p2) [e] [] q] [] pos) (can T X.K (dU fSortSetT t)) :=
  PE_imp (pe_callB (cr_sortSetX hc hu) hg hm (by decide +kernel) (pa_cons (pe_callTy (cr_setOfT hc hu) hg2 hm2 (by decide +kernel) (pa_cons ha pa_nil hs) (by decide) (by decide) hs (hpl _)) pa_nil hs2) (by decide) (by decide) hs2 (hpl _)) fun σ H Q ⟨H0, ρ, R, rep, ht, k⟩ =>
  ⟨H0, ρ, _, rep, ht, fun v H1 w n e rw' _ ⟨bs, ew, hl, hne, hk⟩ => by
    subst ew
    obtain ⟨a, vs, rfl, e2, e3, e4⟩ := rw'
    obtain ⟨ks, rfl, rfl, hks⟩ := tups_of e3
    refine ⟨a, ks, rfl, .inl (.inl e2), hks, by simpa using hl, fun p L hp h1 h2 => ?_⟩
    have x1 := Ext.new (T := T) (o := SetTO X.prog X.w p L) hp
    refine ⟨p, L, rfl, upd_same, fun q hq => x1.sqT (hks q (h1 q hq)), fun q hq => hne _ (List.mem_map.mpr ⟨q, h1 q hq, rfl⟩), fun L' p' pm nd hp' => ?_⟩
    have x2 := Ext.new (T := T) (o := .lst (L'.map fun q => V.ref q.1)) hp'
    have hp1 : H1 p' = none := x1.dm p' hp'
    refine k _ _ (.l ((L'.map (·.2)).map tI)) 2 (e.trans (x1.trans x2)) ⟨p', _, rfl, upd_same, of_tups fun q hq => x2.sqT (x1.sqT (hks q (h1 q (pm.mem_iff.mp hq)))), imm_tIs _⟩ (frs_new rep e fun _ p2 ep => by cases ep; exact hp1) (hk _ nd fun y => ⟨fun hy => ?_, fun hy => ?_⟩)
    · obtain ⟨q, hq, rfl⟩ := List.mem_map.mp hy
      exact List.mem_map.mpr ⟨q, h1 q (pm.mem_iff.mp hq), rfl⟩
    · obtain ⟨q, hq, rfl⟩ := List.mem_map.mp hy
      exact (pm.map (·.2)).mem_iff.mpr (h2 q hq)⟩
end
end Dw

/-! part DwR -/
set_option Elab.async false
set_option linter.all false
set_option maxRecDepth 100000
set_option maxHeartbeats 4000000
/-! enumerate(tuple), two-clause comprehensions, xs[i] += n, [x] * n -/
namespace Dw
open PySem PySem.Spec PyProof.Rows L2
open Sem (wp)
open AutoSeq1 (wpAny_loadPart')

/-! ### enumerate of a tuple -/
theorem meets_enumerate_newT (l : Addr) (items : Array Value) (n : Nat) (dct : Option Addr) (sl : Array (Option Value)) :
    Meets (Builtin.«enumerate.__new__» ⟨[.type "enumerate", .ref l], []⟩) (fun _ R s => s.heap.get? l = some { cls := .type "tuple", dict := dct, data := .seq items n, slots := sl } ∧
      R (.ok (.ret (.ref (s.heap.push { cls := .type "tuple_iterator", data := .fields #[.ref l, .int 0 0] }).objs.size)))
        { s with heap := (s.heap.push { cls := .type "tuple_iterator", data := .fields #[.ref l, .int 0 0] }).push { cls := .type "enumerate", data := .fields #[.none, .bool false, .ref s.heap.objs.size, rawInt 0, .none, .none] } }) :=
  .of_wp fun prog w A R s h => by
    obtain ⟨hp, g, d, tk, os⟩ := s; obtain ⟨hl, h⟩ := h
    have hsub := sub_enumerate
    have hL : Heap.IsTuple (Shared.heap ⟨hp, g, d, tk, os⟩) l items := ⟨_, hl, rfl, n, rfl⟩
    wp_walk using wpAny_loadPart' hl
    refine wpAny_stack_any fun st => wpAny_pure ?_
    split
    · rename_i c _ _ _ _ _
      cases (c == Value.type "enumerate")
      · wp_walk using wpAny_loadPart' hl, wpAny_pyIter_tuple hL
        exact ⟨_, rfl, h⟩
      · wp_walk using wpAny_loadPart' hl, wpAny_pyIter_tuple hL
        exact ⟨_, rfl, h⟩
    · wp_walk using wpAny_loadPart' hl, wpAny_pyIter_tuple hL
      exact ⟨_, rfl, h⟩
section
variable {prog : Program} {w : World} {A : Around} {E : Value → Shared → Prop} {s : Shared}
theorem call_enumerate_tup {l : Addr} {items : Array Value} {Q : Value → Shared → Prop} (hL : s.heap.IsTuple l items)
    (h : ∀ h', IsEnum h' (s.heap.objs.size + 1) s.heap.objs.size 0 .none → h'.IsTupleIter s.heap.objs.size l 0 → h'.objs.size = s.heap.objs.size + 2 →
      (∀ b o, s.heap.get? b = some o → h'.get? b = some o) → Q (.ref (s.heap.objs.size + 1)) { s with heap := h' }) :
    wpAny (model prog w) A (call (.type "enumerate") [.ref l]) Q E s := by
  obtain ⟨⟨c, dct, dt, sl⟩, hl, hc, n, hd⟩ := hL
  replace hc : c = .type "tuple" := hc
  replace hd : dt = .seq items n := hd
  subst hc hd
  refine callType_new F.called_enumerate (by decide) (F.typeCall_enumerate_1 _) (F.newCall_enumerate_1 _) (fun obj => F.args_object_init_2 obj _) F.entry_enumerate_new
    (meets_enumerate_newT l items n dct sl) ⟨hl, ?_⟩
  have hz : (s.heap.push { cls := .type "tuple_iterator", data := .fields #[.ref l, .int 0 0] }).objs.size = s.heap.objs.size + 1 := Heap.size_push ..
  show _ ∧ _
  rw [hz]
  have he : IsEnum ((s.heap.push { cls := .type "tuple_iterator", data := .fields #[.ref l, .int 0 0] }).push
      { cls := .type "enumerate", data := .fields #[.none, .bool false, .ref s.heap.objs.size, rawInt 0, .none, .none] }) (s.heap.objs.size + 1) s.heap.objs.size 0 .none := by
    have := Heap.get?_push_size (s.heap.push { cls := .type "tuple_iterator", data := .fields #[.ref l, .int 0 0] })
      (o := { cls := .type "enumerate", data := .fields #[.none, .bool false, .ref s.heap.objs.size, rawInt 0, .none, .none] }) rfl
    rw [hz] at this; exact this
  refine ⟨⟨_, he, rfl⟩, h _ he ⟨_, Heap.get?_push_of_some _ (Heap.get?_push_size _ rfl), rfl, rfl⟩ (by rw [Heap.size_push, hz]) fun b o x => Heap.get?_push_of_some _ (Heap.get?_push_of_some _ x)⟩
end
def IteT (K : PySem.W.Frag) (a : Addr) : It :=
  ⟨fun i H => ∃ (xs : List V) (x : V), SqT K H a xs ∧ xs[i]? = some x, fun i H v H' => ∃ T x, v = .ref T ∧ H T = none ∧ H' = upd H T (.tup [.int (i : Nat), x]) ∧ ∀ xs, SqT K H a xs → xs[i]? = some x, fun i H => ∃ xs : List V, SqT K H a xs ∧ xs.length = i⟩
theorem turn_enumT {P : Program} {w : World} {K : PySem.W.Frag} {elts : List Expr} {kk : Nat} {tpos : Pos} (a e it : Addr) :
    Turn P w K (.Tuple elts kk tpos) (IteT K a) [e, it] e (fun i h => (∃ old, IsEnum h e it ((i : Nat) : Int) old) ∧ h.IsTupleIter it a i ∧ e ≠ it ∧ a ≠ it ∧ a ≠ e) where
  mem := by simp
  obj := fun i h st b hb => by
    obtain ⟨⟨old, he⟩, ⟨o, ho, hc, hd⟩, _⟩ := st
    have e' : b = e ∨ b = it := by simpa using hb
    rcases e' with z | z
    · rw [z]; exact ⟨_, he, fun v q => nomatch q⟩
    · rw [z]; exact ⟨o, ho, fun v q => by rw [hd] at q; cases q⟩
  keep := fun i h h' st k => let ⟨⟨old, he⟩, hi, hne⟩ := st; ⟨⟨old, k e (by simp) _ he⟩, hi.at fun o q => k it (by simp) o q, hne⟩
  item := by
    intro X hP hw hK hc i pins s σ H E I hf st hg
    subst hP hw hK
    obtain ⟨⟨old, he⟩, hit, hne, hai, hae⟩ := st
    obtain ⟨xs, x, hq, hx⟩ := hg
    obtain ⟨its, rv, p, hz⟩ := I.tuple hq
    obtain ⟨u, hu, ru⟩ := rv.get hx
    have hel : e < s.heap.objs.size := Heap.lt_size he
    have hil : it < s.heap.objs.size := by obtain ⟨_, q, _⟩ := hit; exact Heap.lt_size q
    have hlen : i < its.toArray.size := by
      rw [List.size_toArray]
      exact (List.getElem?_eq_some_iff.mp hu).1
    refine wpAny_pyNext_enum_itemD (Draws.tuple (A := X.A.in1) (by show X.A.handled = none; exact I.ok.hd hc) it a hai its.toArray) he ⟨hit, p⟩ hlen hne (by simp; exact ⟨hne, fun z => hae z.symm⟩) fun x1 h' tk hx1 ho st' hT hsz hk => ?_
    have e1 : x1 = u := by
      have h2 : its[i]? = some x1 := by simpa using hx1
      rw [hu] at h2
      exact (Option.some.inj h2).symm
    subst e1
    refine ⟨_, rfl, wpAny_letOwnedTupleGo_enum (s := { s with heap := h', toks := tk + 1 }) ho fun h'' he' sb => ?_⟩
    have hT2 : h''.get? s.heap.objs.size = some { cls := .type "tuple", data := .seq #[.int i tk, x1] } := (sb.2 _ (Nat.ne_of_gt hel)).trans hT
    have new : ObjOk X.prog X.w (upd H s.heap.objs.size (.tup [.int (i : Nat), x])) h'' s.heap.objs.size (.tup [.int (i : Nat), x]) :=
      ⟨by show 2 ≤ sizeLine; decide, [.int i tk, x1], .cons ⟨_, rfl⟩ (.cons ru .nil), ⟨_, hT2, rfl, _, rfl⟩⟩
    have I1 : Inv X pins σ (upd H s.heap.objs.size (.tup [.int (i : Nat), x])) { s with heap := h'', toks := tk + 1 } :=
      I.turnedNew (ch := [e, it]) (fun b ob hb q => (sb.2 b (fun z => hb (by simp [z]))).trans (hk b ob (fun z => hb (by simp [z])) (fun z => hb (by simp [z])) q)) hf (Nat.le_refl _) new
    refine ⟨.ref s.heap.objs.size, _, I1, rfl, ⟨_, x, rfl, I.hok.fresh (Nat.le_refl _), rfl, fun ys hy => by rw [I.tuple_inj hy hq]; exact hx⟩, ⟨⟨x1, ?_⟩, st'.1.at fun o q => (sb.2 it (Ne.symm hne)).trans q, hne, hai, hae⟩, fun b hb => ?_⟩
    · have e1 : ((i + 1 : Nat) : Int) = (i : Int) + 1 := by omega
      rw [e1]; exact he'
    · have hb' : b < s.heap.objs.size := by
        have e' : b = e ∨ b = it := by simpa using hb
        rcases e' with z | z
        · rw [z]; exact hel
        · rw [z]; exact hil
      rw [upd_ne (Nat.ne_of_lt hb')]
      exact (hf b hb).1
  done := by
    intro X hP hw hK hc i pins s σ H E I hf st hg
    subst hP hw hK
    obtain ⟨⟨old, he⟩, hit, hne, hai, hae⟩ := st
    obtain ⟨xs, hq, hx⟩ := hg
    obtain ⟨its, rv, p, hz⟩ := I.tuple hq
    obtain ⟨f0, f1, f2, f3, f4, f5⟩ := hf it (by simp)
    have hl := rv.length
    have ei : i = its.toArray.size := by rw [List.size_toArray]; omega
    rw [ei] at hit
    exact wpAny_pyNext_enum_endD (Draws.tuple (A := X.A.in1) (by show X.A.handled = none; exact I.ok.hd hc) it a hai its.toArray) he ⟨hit, p⟩ fun h' eb => ⟨rfl, I.turned (t' := s.toks) (fun b o hb q => eb b o hb q) f0 f1 f3 f4 f5⟩
  self := fun A i s Q E st h => let ⟨⟨_, he⟩, _⟩ := st; wpAny_pyIter_enum he h
def iEnumT (K : PySem.W.Frag) (ta : TA) : TI := fun σ H R => ta σ H fun vs H1 => ∃ a xs, vs = [.ref a] ∧ SqT K H1 a xs ∧ R (IteT K a) H1
theorem pi_enumT {X : Cx} {e : Expr} {ta : TA} {p pos tpos : Pos} {elts : List Expr} {kk : Nat} (hg : Gl X "enumerate") (hm : X.mg "enumerate" = none) (ha : PA X [e] ta) (hs : starEach [e] X.env = [(false, eval e X.env)] := by rfl) :
    PI X (.Tuple elts kk tpos) (.Call (.Name "enumerate" p) [e] [] pos) (iEnumT X.K ta) := by
  refine ⟨fun pins s σ H R I h => ?_⟩
  refine Call_ (ld_blt I hg hm boot_enumerate (PyProof.Rows.callWith_type1 (thn (ha.run pos pins s σ H _ I h) fun us s1 ⟨vs, H1, I1, r1, q1⟩ => ?_) hs rfl))
  obtain ⟨a, xs, ex, hq, q⟩ := q1
  subst ex
  cases r1 with
  | cons r rr =>
    cases rr
    cases r
    obtain ⟨its, rv, p', hz⟩ := I1.tuple hq
    have hal : a < s1.heap.objs.size := p'.lt
    refine call_enumerate_tup p' fun h' he hit hsz hk => wpAny_pyIter_enum he ?_
    have I2 : Inv X pins σ H1 { s1 with heap := h' } := I1.kept (t' := s1.toks) hk
    refine ⟨s1.heap.objs.size + 1, [s1.heap.objs.size + 1, s1.heap.objs.size], _, _, H1, rfl, I2, turn_enumT a (s1.heap.objs.size + 1) s1.heap.objs.size, ⟨⟨.none, he⟩, hit, Nat.succ_ne_self _, Nat.ne_of_lt hal, Nat.ne_of_lt (Nat.lt_succ_of_lt hal)⟩, fun b hb => ?_, q⟩
    have e' : b = s1.heap.objs.size + 1 ∨ b = s1.heap.objs.size := by simpa using hb
    have hle : s1.heap.objs.size ≤ b := by
      rcases e' with z | z
      · rw [z]; exact Nat.le_add_right _ _
      · rw [z]; exact Nat.le_refl _
    exact I1.fpOk hle (I1.hok.fresh hle)
section
variable {T : List NdefX.NTab} {K : PySem.W.Frag} {X : Cx} {e a b c : Expr} {es : List Expr} {pos : Pos} {H0 H H1 H2 : Hp} {σ : L2.St} {ρ : Rho} {st : Stmt}
/-- (0, x), (1, y), .. -/
def enu (xs : List PyData) : List PyData := xs.zipIdx.map fun p => PyData.tuple [.int (p.2 : Int), p.1]
theorem enu_len (xs : List PyData) : (enu xs).length = xs.length := by simp [enu]
theorem enu_at {xs : List PyData} {i : Nat} {x : PyData} (h : (enu xs)[i]? = some x) : ∃ y, xs[i]? = some y ∧ x = .tuple [.int (i : Int), y] := by
  unfold enu at h
  rw [List.getElem?_map, List.getElem?_zipIdx] at h
  cases q : xs[i]? with
  | none =>
    rw [q] at h
    cases h
  | some y =>
    rw [q] at h
    refine ⟨y, rfl, ?_⟩
    have h2 := Option.some.inj h
    rw [← h2]
    simp
theorem ite_ok {a : Addr} {vs : List V} {xs : List PyData} (hs : ∀ H', Ext T H H' → SqT K H' a vs) (hd : DpAll K H vs xs) (im : immAll xs = true) : ItOk T K (IteT K a) H (enu xs) := fun H' e => by
  refine ⟨fun i hi => ?_, ⟨vs, hs H' e, by rw [enu_len, DpAll.length hd]⟩, fun i x v H'' hx y => ?_⟩
  · rw [enu_len] at hi
    obtain ⟨v, h1, h2⟩ := DpAll.get hd (List.getElem?_eq_getElem hi)
    exact ⟨vs, v, hs H' e, h1⟩
  · obtain ⟨y0, hy0, rfl⟩ := enu_at hx
    obtain ⟨Tp, z, rfl, hT, rfl, hz⟩ := y
    obtain ⟨v2, h1, h2⟩ := DpAll.get hd hy0
    have h3 := hz vs (hs _ e)
    rw [h1] at h3
    cases h3
    have iy := immAll_get im hy0
    refine ⟨Ext.new hT, .tup (.inl (.inl upd_same)) (.cons (.int _) (.cons (Dp.tups (e.trans (Ext.new hT)).tupE _ _ iy h2) .nil)), ?_⟩
    show (true && (imm y0 && true)) = true
    rw [iy]
    rfl
def dEnum (t : DT) : DI := fun ρ k => t ρ fun w _ => ∃ xs, w = .d (.tuple xs) ∧ k (enu xs) 2
theorem i_enum {t : DT} {p tpos : Pos} {elts : List Expr} {kk : Nat} (hm : X.mg "enumerate" = none) (h : PE X e (can T X.K t)) (hg : Gl X "enumerate" := by rfl) (hs : starEach [e] X.env = [(false, eval e X.env)] := by rfl) :
    PI X (.Tuple elts kk tpos) (.Call (.Name "enumerate" p) [e] [] pos) (canI T X.K (dEnum t)) := PI_imp (pi_enumT hg hm (pa_cons h pa_nil hs) hs) fun σ H R ⟨H0, ρ, k, rep, ht, q⟩ =>
  ⟨H0, ρ, _, rep, ht, fun v H1 w n e rw' fr ⟨xs, ew, hk⟩ => by
    subst ew
    obtain ⟨a, vs, rfl, hs, ha, im⟩ := rw_tup rw'
    refine ⟨a, vs, rfl, hs, q (IteT X.K a) H1 _ 2 e hk fun S hO h1n => ?_⟩
    have hS : ∀ a, S a → ∃ vs, H1 a = some (.lst vs) := fun a z => let ⟨_, vs, h⟩ := hO a z; ⟨vs, e.lst h⟩
    have tu : TupE X.K H1 (strip H1 S) := tupE_strip hS
    exact ite_ok (vs := vs) (fun H' e => e.sqT (tu _ _ hs)) (DpAll.tups tu _ _ im ha) im⟩

/-! ### xs[i] += n -/
theorem get_list : PGet X (rIxL X.K) := by
  intro pins s σ H x y v u Q I rx ry h
  obtain ⟨p, xs, i, z, rfl, rfl, hq, he, q⟩ := h
  cases rx
  obtain ⟨t, rfl⟩ := ry
  obtain ⟨its, r, pl, hz⟩ := I.list hq
  obtain ⟨j, h1, h2, h3, h4, h5⟩ := atI_get he
  obtain ⟨w, ew, rw'⟩ := r.get h2
  have hl := r.length
  have hn := line63
  have fin : EP X pins σ Q w s := ⟨z, H, I, rw', q⟩
  by_cases h0 : 0 ≤ i
  · have hj : i.toNat = j := by
      rw [seqIndex_of h0 h5] at h1
      exact Option.some.inj h1
    exact wpAny_getItem_list pl.isList h0 (by omega) (by rw [hj]; simpa using ew) fin
  · have hj : (i + (its.toArray.size : Int)).toNat = j := by
      rw [seqIndex_neg (by omega) h4] at h1
      rw [List.size_toArray, ← hl]
      exact Option.some.inj h1
    exact wpAny_getItem_list_neg pl.isList (by omega) (by rw [List.size_toArray] <;> omega) (by omega) (by rw [hj]; simpa using ew) fin
/-- l[i] += n -/
def dAugL (j : Nat) (ti te : DT) : DS := fun E ρ => ∃ xs, ρ[j]? = some (some (.l xs, true)) ∧ ti ρ fun w _ => ∃ k : Nat, w = .d (.int (k : Int)) ∧ ∃ n : Int, xs[k]? = some (.int n) ∧ te ρ fun w' _ => ∃ m : Int, w' = .d (.int m) ∧ E.nx (ρ.set j (some (.l (xs.set k (.int (n + m))), true)))
theorem s_augL {j : Nat} {ti te : DT} (h : PS X st (tAugS (tVar j) (can T X.K ti) (can T X.K te) (rIxL X.K) (ipI fun i j => i + j) rSetL)) : PS X st (canS T X.K (dAugL j ti te)) :=
  PS_imp h fun D σ H ⟨H0, ρ, E, rep, ⟨xs, hi, ht⟩, kn, _⟩ => by
    obtain ⟨p, vs, e1, e2, e3, e4⟩ := slot_lst rep hi
    refine ⟨.ref p, e1, H0, ρ, _, rep, ht, fun v H2 w n e rw' _ ⟨k, ew, n, hn, hte⟩ => ?_⟩
    subst ew
    obtain rfl := rw_int rw'
    have h2 := e.lst e2
    obtain ⟨v, f1, f2⟩ := DpAll.get e3 hn
    cases f2
    refine ⟨p, vs, (k : Int), .int n, rfl, rfl, .inl (.inl h2), atI_nat f1, H0, ρ, _, rep.ext e, hte, fun v3 H3 w3 n3 e5 rw3 _ ⟨m, ew3, hE⟩ => ?_⟩
    subst ew3
    obtain rfl := rw_int rw3
    have h3 := e5.lst h2
    have hk : k < vs.length := (List.getElem?_eq_some_iff.mp f1).1
    refine ⟨n, m, rfl, rfl, p, vs, (k : Int), k, rfl, rfl, h3, ?_, ?_⟩
    · unfold ixN
      rw [if_pos (by omega), if_pos (by omega)]
      simp
    · have im2 : immAll (xs.set k (.int (n + m))) = true := immAll_iff.mpr fun x hx => by
        rcases List.mem_or_eq_of_mem_set hx with z | z
        · exact immAll_iff.mp e4 x z
        · rw [z]
          rfl
      exact kn H0 σ _ _ (Ext.refl _) (((rep.ext e).ext e5).mut hi e1 h3 (DpAll.set (.int (n + m)) k (DpAll.tups (e.trans e5).tupE _ _ e4 e3)) im2) hE
theorem o_rep1 : O2 T K rRep fRep1 := fun v u H x y k Q tb rx ry hf hq => by
  cases x with
  | d x => exact hf.elim
  | l xs =>
    cases y with
    | l _ =>
      cases xs with
      | nil => exact hf.elim
      | cons a r => cases r <;> exact hf.elim
    | d y =>
      cases y with
      | int n =>
        cases xs with
        | nil => exact hf.elim
        | cons a r =>
          cases r with
          | cons b r => exact hf.elim
          | nil =>
            obtain ⟨h0, h1, hk⟩ := hf
            obtain ⟨p, vs, rfl, e2, e3, e4⟩ := rx
            cases e3 with
            | @cons v1 _ _ _ d1 t =>
              cases t
              refine ⟨p, n, [v1], rfl, rw_int ry, e2, by omega, by omega, ?_, fun l hl => ?_⟩
              · have : n.toNat ≤ 100000 := by omega
                have h9 := big_of this
                simpa using h9
              · rw [rep1_flat]
                have ia : imm a = true := by
                  have h : (imm a && true) = true := e4
                  rw [Bool.and_true] at h
                  exact h
                have im2 : immAll (List.replicate n.toNat a) = true := immAll_iff.mpr fun x hx => by
                  rw [List.eq_of_mem_replicate hx]
                  exact ia
                exact hq _ _ (.l (List.replicate n.toNat a)) hk (Ext.new hl) ⟨l, _, rfl, upd_same, DpAll.tups (Ext.new (T := T) hl).tupE _ _ im2 (dpAll_rep d1 _), im2⟩ fun _ p ep => by cases ep; exact hl
      | _ =>
        cases xs with
        | nil => exact hf.elim
        | cons a r => cases r <;> exact hf.elim
end
end Dw

/-! part HeadT -/
set_option Elab.async false
set_option linter.all false
set_option maxRecDepth 100000
set_option maxHeartbeats 0
namespace Ik
open PySem PySem.Spec PyProof.Rows L2
def top (i : Nat) : Stmt := PySem.Challenge.pw_introducers_k95_whole_greedy_rows.main.body.getD i (.Pass ⟨0, 0, 0, 0⟩)
abbrev sLaw : Stmt := top 69
abbrev R : PySem.W.OpenRow := PySem.W.OpenLaw.row PySem.Challenge.rw_introducers_k95_whole_greedy_rows
def mkD (x : Str) (i : Nat) : He.DefD := ⟨(x, none), x, x, defArgs (top i), defBody (top i), defScope (top i), [], []⟩
def fn : List He.DefD := [mkD "is_integer" 1, mkD "is_in" 2, mkD "is_list" 3, mkD "need_web" 15, mkD "need_person" 16, mkD "need_people" 17, mkD "pairs_in" 18, mkD "count_pairs" 19,
  mkD "web_by" 20, mkD "group_in" 21, mkD "groups_in" 22, mkD "is_table" 23, mkD "rest_of" 24, mkD "last_web" 25, mkD "need_calls" 28, mkD "call_in" 29, mkD "call" 30, mkD "movers_in" 31, mkD "story_in" 32,
  mkD "after" 33, mkD "gains" 34, mkD "most_new" 35, mkD "made_in" 37, mkD "count_made" 38, mkD "greedy_row" 39, mkD "choices" 41, mkD "chain_ends" 42, mkD "told_in" 43, mkD "told" 44] ++
  [mkD "joining_in" 46, mkD "joins_all" 47, mkD "calls_to_rest" 48, mkD "least_joining" 49, mkD "without" 50, mkD "cut_in" 51, mkD "cut_people" 52, mkD "need_rule" 55, mkD "next_in" 56, mkD "row_in" 57, mkD "ruled_row" 58,
  mkD "rule_lengths" 59, mkD "best_rule" 60, mkD "least_of" 62, mkD "calls_to_pairs" 63, mkD "most_pairs_by" 64, mkD "_law_taken" 66, mkD "_law_by" 67, mkD "_law_web" 68, mkD "law" 69]
def fa : List He.Fa := [.free "isinstance", .free "int", .free "bool", .free "tuple", .free "str", .free "len", .free "enumerate", .free "all", .free "any", .free "list", .free "sorted", .free "set", .free "range", .free "min", .free "sum",
  .int "MOST_PEOPLE" 8, .int "MOST_CALLS" 60, .glo "RULES"] ++ fn.map fun d => .glo d.name
def loose : List PySem.Str := (["is_integer", "is_in", "is_list", "IntroError", "BadWeb", "BadPerson", "BadCalls", "BadPeople", "BadNumber", "BadRule", "NotMade", "MOST_PEOPLE", "need_web", "need_person", "need_people", "pairs_in", "count_pairs", "web_by", "group_in", "groups_in", "is_table", "rest_of", "last_web"] : List PySem.Str) ++
  (["MOST_CALLS", "need_calls", "call_in", "call", "movers_in", "story_in", "after", "gains", "most_new", "made_in", "count_made", "greedy_row", "choices", "chain_ends", "told_in", "told", "joining_in", "joins_all", "calls_to_rest", "least_joining", "without", "cut_in", "cut_people"] : List PySem.Str) ++
  (["RULES", "need_rule", "next_in", "row_in", "ruled_row", "rule_lengths", "best_rule", "least_of", "calls_to_pairs", "most_pairs_by", "_law_taken", "_law_by", "_law_web"] : List PySem.Str)
/-- the rules' tuple -/
def ex (K : PySem.W.Frag) : Bool := He.tupB K "RULES" [.str "first", .str "last", .str "many", .str "few", .str "popular", .str "shy"]
/-- the def with the lambda -/
def tf : List He.Defn := [("calls_to_pairs", none)]
abbrev hk : PySem.W.Hook := He.hookX 4 fa fn [] tf ex
def ob (s : PySem.W.SharedT) : He.AlX := He.obsX 4 fa fn [] tf ex (HandSHeadRun.getT s)
theorem ob_eq (s : PySem.W.SharedT) : ob s = hk.obs s.abs := He.obsX_eq (HandSHeadRun.getT_eq s)
theorem run (w : World) : HandSHeadRun.RunEq R (PySem.W.view R.prog [69]) hk ob 4000 loose w := by
  intro os
  kernel_rfl
end Ik

/-! part Sp -/
set_option Elab.async false
set_option linter.all false
set_option maxRecDepth 100000
set_option maxHeartbeats 4000000
/-! What the defs compute, in plain Lean. -/
namespace Gg
abbrev Adj := Nat → Nat → Bool
structure Ok (n : Nat) (g : Adj) : Prop where
  sym : ∀ i j, g i j = g j i
  irr : ∀ i, g i i = false
  lt : ∀ i j, g i j = true → i < n
  pos : 1 ≤ n
  le : n ≤ 6
def frs (n : Nat) (g : Adj) (i : Nat) : List Nat := (List.range n).filter (g i)
def prs (n : Nat) (g : Adj) : List (Nat × Nat) := (List.range n).flatMap fun i => ((frs n g i).filter fun j => decide (i < j)).map fun j => (i, j)
def cnt (n : Nat) (g : Adj) : Nat := (prs n g).length
def edgesG (ps : List (Nat × Nat)) : Adj := fun i j => decide ((i, j) ∈ ps ∨ (j, i) ∈ ps)
def callG (g : Adj) (p : Nat) : Adj := fun i j => g i j || (g p i && g p j && decide (i ≠ j))
def cutG (g : Adj) (p : Nat) : Adj := fun i j => g i j && decide (i ≠ p) && decide (j ≠ p)
def Mv (g : Adj) (p : Nat) : Prop := ∃ i j, g p i = true ∧ g p j = true ∧ i < j ∧ g i j = false
/-- a way from i to the last, by steps out of i or out of places of S -/
inductive Ch (g : Adj) (S : Nat → Prop) (i : Nat) : Nat → Prop where
  | here : Ch g S i i
  | step {x y : Nat} : Ch g S i x → (x = i ∨ S x) → g x y = true → Ch g S i y
def All : Nat → Prop := fun _ => True
open Classical in
noncomputable def toldG (n : Nat) (g : Adj) (S : List Nat) : Adj := fun i j => decide (i < n ∧ i ≠ j ∧ Ch g (fun x => x ∈ S) i j)
open Classical in
noncomputable def restG (n : Nat) (g : Adj) : Adj := fun i j => decide (i < n ∧ i ≠ j ∧ Ch g All i j)
open Classical in
noncomputable def grp (n : Nat) (g : Adj) (i : Nat) : List Nat := (List.range n).filter fun j => decide (Ch g All i j)
open Classical in
noncomputable def movs (n : Nat) (g : Adj) : List Nat := (List.range n).filter fun p => decide (Mv g p)
def aft (g : Adj) (l : List Nat) : Adj := l.foldl callG g
def BestP (n : Nat) (g : Adj) (p : Nat) : Prop := p < n ∧ ∀ q, q < n → cnt n (callG g q) < cnt n (callG g p) ∨ (cnt n (callG g q) = cnt n (callG g p) ∧ p ≤ q)
inductive GR (n : Nat) : Adj → List Nat → Prop where
  | done {g : Adj} : (∀ p, p < n → cnt n (callG g p) = cnt n g) → GR n g []
  | step {g : Adj} {p : Nat} {l : List Nat} : BestP n g p → cnt n g < cnt n (callG g p) → GR n (callG g p) l → GR n g (p :: l)
def LexMin (key : Nat → Int) (l : List Nat) (p : Nat) : Prop := p ∈ l ∧ ∀ q ∈ l, key p < key q ∨ (key p = key q ∧ p ≤ q)
abbrev sMany : PySem.Str := PySem.Str.ofString "many"
abbrev sFew : PySem.Str := PySem.Str.ofString "few"
abbrev sPop : PySem.Str := PySem.Str.ofString "popular"
abbrev sShy : PySem.Str := PySem.Str.ofString "shy"
abbrev sFirst : PySem.Str := PySem.Str.ofString "first"
abbrev sLast : PySem.Str := PySem.Str.ofString "last"
def rulesL : List PySem.Str := [sFirst, sLast, sMany, sFew, sPop, sShy]
/-- who is called next -/
structure Nx (n : Nat) (g : Adj) (r : PySem.Str) (p : Nat) : Prop where
  lt : p < n
  mv : Mv g p
  many : r = sMany → BestP n g p
  few : r = sFew → LexMin (fun q => (cnt n (callG g q) : Int)) (movs n g) p
  pop : r = sPop → LexMin (fun q => -((frs n g q).length : Int)) (movs n g) p
  shy : r = sShy → LexMin (fun q => ((frs n g q).length : Int)) (movs n g) p
  first : r = sFirst → ∀ q, q < n → Mv g q → p ≤ q
  last : r = sLast → ∀ q, q < n → Mv g q → q ≤ p
inductive RR (n : Nat) (r : PySem.Str) : Adj → List Nat → Prop where
  | done {g : Adj} : (∀ p, p < n → ¬ Mv g p) → RR n r g []
  | step {g : Adj} {p : Nat} {l : List Nat} : Nx n g r p → RR n r (callG g p) l → RR n r g (p :: l)
def chs : Nat → List (List Nat)
  | 0 => [[]]
  | k + 1 => chs k ++ (chs k).map fun l => l ++ [k]
def Joins (n : Nat) (g : Adj) (S : List Nat) : Prop := S ∈ chs n ∧ toldG n g S = restG n g
def IsFew (n : Nat) (g : Adj) (m : Nat) : Prop := (∃ S, Joins n g S ∧ S.length = m) ∧ ∀ S, Joins n g S → m ≤ S.length
/-- p cuts its group -/
def CutV (n : Nat) (g : Adj) (p : Nat) : Prop := p < n ∧ ∃ i j, i ≠ p ∧ j ≠ p ∧ i < n ∧ Ch g All i j ∧ ¬ Ch (cutG g p) All i j
end Gg
namespace Wk
open PySem PySem.Spec PyProof.Rows L2 Dw Gg
/-! data -/
abbrev up (l : List Nat) : List Int := l.map fun k : Nat => (k : Int)
abbrev nI (k : Nat) : PyData := .int (k : Int)
abbrev nis (l : List Nat) : List PyData := l.map nI
def tN (l : List Nat) : PyData := .tuple (nis l)
def gDs (n : Nat) (g : Adj) : List PyData := (List.range n).map fun i => tN (frs n g i)
def gD (n : Nat) (g : Adj) : PyData := .tuple (gDs n g)
abbrev pD (p : Nat × Nat) : PyData := .tuple [nI p.1, nI p.2]
abbrev prD (l : List (Nat × Nat)) : List PyData := l.map pD
abbrev tx (s : String) : PyData := .str (PySem.Str.ofString s)
def rulesD : PyData := .tuple (rulesL.map .str)
theorem rulesD_imm : imm rulesD = true := rfl
/-- every row that was made, place by place -/
def madeD (n : Nat) (g : Adj) (l : List Nat) : List PyData := (l.zipIdx).flatMap fun q => ((prs n (aft g (l.take (q.2 + 1)))).filter fun p => !(aft g (l.take q.2) p.1 p.2)).map fun p => .tuple [nI q.2, nI q.1, pD p]
structure Txt (mg : Str → Option Value) : Prop where
  isinstance : mg "isinstance" = none
  int_ : mg "int" = none
  bool_ : mg "bool" = none
  tuple_ : mg "tuple" = none
  str_ : mg "str" = none
  len_ : mg "len" = none
  enumerate_ : mg "enumerate" = none
  all_ : mg "all" = none
  any_ : mg "any" = none
  list_ : mg "list" = none
  sorted_ : mg "sorted" = none
  set_ : mg "set" = none
  range_ : mg "range" = none
  min_ : mg "min" = none
  sum_ : mg "sum" = none
  mp : ∃ t, mg "MOST_PEOPLE" = some (.int 8 t)
  mc : ∃ t, mg "MOST_CALLS" = some (.int 60 t)
/-! promises -/
def sp_is_integer : DSp := fun ws R => ∃ i : Int, ws = [.d (.int i)] ∧ R (.d (.bool true))
def sp_is_in : DSp := fun ws R => ∃ v a b : Int, ws = [.d (.int v), .d (.int a), .d (.int b)] ∧ R (.d (.bool (decide (a ≤ v) && decide (v ≤ b))))
def sp_is_list : DSp := fun ws R => ∃ (xs : List PyData) (a b : Int), ws = [.d (.tuple xs), .d (.int a), .d (.int b)] ∧ R (.d (.bool (decide (a ≤ (xs.length : Int)) && decide ((xs.length : Int) ≤ b))))
def sp_need_web : DSp := fun ws R => ∃ n g, ws = [.d (gD n g)] ∧ Ok n g ∧ R (.d .none)
def sp_need_person : DSp := fun ws R => ∃ n g p, ws = [.d (gD n g), .d (nI p)] ∧ Ok n g ∧ p < n ∧ R (.d .none)
def sp_need_people : DSp := fun ws R => ∃ n g S, ws = [.d (gD n g), .d (tN S)] ∧ Ok n g ∧ S.Pairwise (· < ·) ∧ (∀ p ∈ S, p < n) ∧ R (.d .none)
def sp_need_calls : DSp := fun ws R => ∃ n g l, ws = [.d (gD n g), .d (tN l)] ∧ Ok n g ∧ l.length ≤ 60 ∧ (∀ p ∈ l, p < n) ∧ R (.d .none)
def sp_pairs_in : DSp := fun ws R => ∃ n g, ws = [.d (gD n g)] ∧ Ok n g ∧ R (.l (prD (prs n g)))
def sp_count_pairs : DSp := fun ws R => ∃ n g, ws = [.d (gD n g)] ∧ Ok n g ∧ R (.d (nI (cnt n g)))
def sp_web_by : DSp := fun ws R => ∃ n ps, ws = [.d (nI n), .l (prD ps)] ∧ 1 ≤ n ∧ n ≤ 6 ∧ ps.length ≤ 400 ∧ (∀ p ∈ ps, p.1 < n ∧ p.2 < n ∧ p.1 ≠ p.2) ∧ R (.d (gD n (edgesG ps)))
def sp_group_in : DSp := fun ws R => ∃ n g p, ws = [.d (gD n g), .d (nI p)] ∧ Ok n g ∧ p < n ∧ R (.d (tN (grp n g p)))
def sp_groups_in : DSp := fun ws R => ∃ n g, ws = [.d (gD n g)] ∧ Ok n g ∧ ∀ gs : List (List Nat), gs.Nodup → (∀ S, S ∈ gs ↔ ∃ p, p < n ∧ S = grp n g p) → R (.l (gs.map tN))
def sp_is_table : DSp := fun ws R => ∃ n g p, ws = [.d (gD n g), .d (tN (frs n g p))] ∧ Ok n g ∧ p < n ∧ ∀ b : Bool, (b = true ↔ ¬ Mv g p) → R (.d (.bool b))
def sp_rest_of : DSp := fun ws R => ∃ n g, ws = [.d (gD n g)] ∧ Ok n g ∧ R (.d (gD n (restG n g)))
def sp_last_web : DSp := sp_rest_of
def sp_call_in : DSp := fun ws R => ∃ n g p, ws = [.d (gD n g), .d (nI p)] ∧ Ok n g ∧ p < n ∧ R (.d (gD n (callG g p)))
def sp_call : DSp := sp_call_in
def sp_movers_in : DSp := fun ws R => ∃ n g, ws = [.d (gD n g)] ∧ Ok n g ∧ R (.l (nis (movs n g)))
def sp_story_in : DSp := fun ws R => ∃ n g l, ws = [.d (gD n g), .d (tN l)] ∧ Ok n g ∧ l.length ≤ 60 ∧ (∀ p ∈ l, p < n) ∧ R (.l ((List.range (l.length + 1)).map fun i => gD n (aft g (l.take i))))
def sp_after : DSp := fun ws R => ∃ n g l, ws = [.d (gD n g), .d (tN l)] ∧ Ok n g ∧ l.length ≤ 60 ∧ (∀ p ∈ l, p < n) ∧ R (.d (gD n (aft g l)))
def sp_gains : DSp := fun ws R => ∃ n g l, ws = [.d (gD n g), .d (tN l)] ∧ Ok n g ∧ l.length ≤ 60 ∧ (∀ p ∈ l, p < n) ∧ R (.d (tI ((List.range l.length).map fun i => (cnt n (aft g (l.take (i + 1))) : Int) - (cnt n (aft g (l.take i)) : Int))))
def sp_most_new : DSp := fun ws R => ∃ n g, ws = [.d (gD n g)] ∧ Ok n g ∧ ∀ p, BestP n g p → R (.d (.tuple [.int ((cnt n (callG g p) : Int) - (cnt n g : Int)), nI p]))
def sp_made_in : DSp := fun ws R => ∃ n g l, ws = [.d (gD n g), .d (tN l)] ∧ Ok n g ∧ l.length ≤ 60 ∧ (∀ p ∈ l, p < n) ∧ R (.l (madeD n g l))
def sp_count_made : DSp := fun ws R => ∃ n g l, ws = [.d (gD n g), .d (tN l)] ∧ Ok n g ∧ l.length ≤ 60 ∧ (∀ p ∈ l, p < n) ∧ ∀ cs : List Int, cs.sum = (madeD n g l).length → R (.d (tI cs))
def sp_greedy_row : DSp := fun ws R => ∃ n g, ws = [.d (gD n g)] ∧ Ok n g ∧ ∀ l, GR n g l → R (.d (tN l))
def sp_choices : DSp := fun ws R => ∃ n, ws = [.d (nI n)] ∧ n ≤ 6 ∧ R (.l ((chs n).map tN))
def sp_chain_ends : DSp := fun ws R => ∃ n g S p, ws = [.d (gD n g), .d (tN S), .d (nI p)] ∧ Ok n g ∧ p < n ∧ ∀ ms : List Nat, ms.Nodup → (∀ x, x ∈ ms ↔ Ch g (fun x => x ∈ S) p x) → R (.l (nis ms))
def sp_told_in : DSp := fun ws R => ∃ n g S, ws = [.d (gD n g), .d (tN S)] ∧ Ok n g ∧ R (.d (gD n (toldG n g S)))
def sp_told : DSp := fun ws R => ∃ n g S, ws = [.d (gD n g), .d (tN S)] ∧ Ok n g ∧ S.Pairwise (· < ·) ∧ (∀ p ∈ S, p < n) ∧ R (.d (gD n (toldG n g S)))
def sp_joining_in : DSp := fun ws R => ∃ n g, ws = [.d (gD n g)] ∧ Ok n g ∧ ∀ js : List (List Nat), js.length ≤ 64 → (∀ S, S ∈ js ↔ Joins n g S) → R (.l (js.map tN))
def sp_joins_all : DSp := fun ws R => ∃ n g S, ws = [.d (gD n g), .d (tN S)] ∧ Ok n g ∧ S.Pairwise (· < ·) ∧ (∀ p ∈ S, p < n) ∧ ∀ b : Bool, (b = true ↔ toldG n g S = restG n g) → R (.d (.bool b))
def sp_calls_to_rest : DSp := fun ws R => ∃ n g, ws = [.d (gD n g)] ∧ Ok n g ∧ (∃ S, Joins n g S) ∧ ∀ m, IsFew n g m → R (.d (nI m))
def sp_least_joining : DSp := fun ws R => ∃ n g, ws = [.d (gD n g)] ∧ Ok n g ∧ (∃ S, Joins n g S) ∧ ∀ js : List (List Nat), js.length ≤ 64 → (∀ S, S ∈ js → Joins n g S ∧ IsFew n g S.length) → R (.l (js.map tN))
def sp_without : DSp := fun ws R => ∃ n g p, ws = [.d (gD n g), .d (nI p)] ∧ Ok n g ∧ p < n ∧ R (.d (gD n (cutG g p)))
def sp_cut_in : DSp := fun ws R => ∃ n g, ws = [.d (gD n g)] ∧ Ok n g ∧ ∀ ms : List Nat, ms.length ≤ n → (∀ p ∈ ms, CutV n g p) → R (.l (nis ms))
def sp_cut_people : DSp := fun ws R => ∃ n g, ws = [.d (gD n g)] ∧ Ok n g ∧ ∀ ms : List Nat, ms.length ≤ n → (∀ p ∈ ms, CutV n g p) → R (.d (tN ms))
def sp_need_rule : DSp := fun ws R => ∃ r, ws = [.d (.str r)] ∧ r ∈ rulesL ∧ R (.d .none)
def sp_next_in : DSp := fun ws R => ∃ n g r, ws = [.d (gD n g), .d (.str r)] ∧ Ok n g ∧ r ∈ rulesL ∧ (∃ p, p < n ∧ Mv g p) ∧ ∀ p, Nx n g r p → R (.d (nI p))
def sp_row_in : DSp := fun ws R => ∃ n g r, ws = [.d (gD n g), .d (.str r)] ∧ Ok n g ∧ r ∈ rulesL ∧ ∀ l, RR n r g l → R (.l (nis l))
def sp_ruled_row : DSp := fun ws R => ∃ n g r, ws = [.d (gD n g), .d (.str r)] ∧ Ok n g ∧ r ∈ rulesL ∧ ∀ l, RR n r g l → R (.d (tN l))
def sp_rule_lengths : DSp := fun ws R => ∃ n g, ws = [.d (gD n g)] ∧ Ok n g ∧ ∀ (rs : List Str) (f : Str → Nat), rs.length = 6 → sMany ∈ rs → (∀ r ∈ rs, r ∈ rulesL) → (∀ r ∈ rs, ∃ l, RR n r g l ∧ f r = l.length) → R (.d (.tuple (rs.map fun r => .tuple [.str r, nI (f r)])))
def sp_best_rule : DSp := fun ws R => ∃ n g, ws = [.d (gD n g)] ∧ Ok n g ∧ ∀ (m : Nat) (r : Str), (∃ l, RR n r g l ∧ m = l.length) → (∃ l, RR n sMany g l ∧ m ≤ l.length) → R (.d (.tuple [nI m, .str r]))
def Gives (n : Nat) (g : Adj) (m : Int) (S : List Nat) : Prop := S ∈ chs n ∧ m ≤ (cnt n (toldG n g S) : Int)
def sp_calls_to_pairs : DSp := fun ws R => ∃ n g m, ws = [.d (gD n g), .d (.int m)] ∧ Ok n g ∧ 0 ≤ m ∧ m ≤ 100 ∧ (∃ S, Gives n g m S) ∧ ∀ k : Nat, (∀ S, Gives n g m S → k ≤ S.length) → R (.d (nI k))
def sp_most_pairs_by : DSp := fun ws R => ∃ n g, ∃ m : Int, ws = [.d (gD n g), .d (.int m)] ∧ Ok n g ∧ 0 ≤ m ∧ m ≤ 100 ∧ ∀ S, S ∈ chs n → (S.length : Int) ≤ m → (∀ S', S' ∈ chs n → (S'.length : Int) ≤ m → cnt n (toldG n g S') ≤ cnt n (toldG n g S)) → R (.d (.tuple [nI (cnt n (toldG n g S)), tN S]))
end Wk

/-! part MathA -/
set_option Elab.async false
set_option linter.all false
namespace Gg
/-! ### pairs -/
theorem mem_frs {n : Nat} {g : Adj} {i j : Nat} : j ∈ frs n g i ↔ j < n ∧ g i j = true := by simp [frs]
def allP (n : Nat) : List (Nat × Nat) := (List.range n).flatMap fun i => ((List.range n).filter fun j => decide (i < j)).map fun j => (i, j)
theorem prs_eq (n : Nat) (g : Adj) : prs n g = (allP n).filter fun p => g p.1 p.2 := by
  unfold prs allP frs
  rw [List.filter_flatMap]
  congr 1
  funext i
  rw [List.filter_map, List.filter_filter, List.filter_filter]
  congr 1
  apply List.filter_congr
  intro j _
  simp [Bool.and_comm]
theorem mem_allP {n : Nat} {p : Nat × Nat} : p ∈ allP n ↔ p.1 < p.2 ∧ p.2 < n := by
  unfold allP
  simp only [List.mem_flatMap, List.mem_map, List.mem_filter, List.mem_range, decide_eq_true_eq]
  constructor
  · rintro ⟨i, hi, j, ⟨hj, hij⟩, rfl⟩
    exact ⟨hij, hj⟩
  · rintro ⟨h1, h2⟩
    exact ⟨p.1, by omega, p.2, ⟨h2, h1⟩, rfl⟩
theorem mem_prs {n : Nat} {g : Adj} {p : Nat × Nat} : p ∈ prs n g ↔ p.1 < p.2 ∧ p.2 < n ∧ g p.1 p.2 = true := by
  rw [prs_eq, List.mem_filter, mem_allP]
  constructor
  · rintro ⟨⟨a, b⟩, c⟩
    exact ⟨a, b, c⟩
  · rintro ⟨a, b, c⟩
    exact ⟨⟨a, b⟩, c⟩
theorem diff_len {α : Type} (p q : α → Bool) : ∀ l : List α, (∀ x ∈ l, p x = true → q x = true) → (l.filter q).length = (l.filter p).length + ((l.filter q).filter fun x => !p x).length
  | [], _ => rfl
  | x :: l, h => by
    have ih := diff_len p q l fun y hy => h y (List.mem_cons_of_mem _ hy)
    have hx := h x (List.mem_cons_self ..)
    cases hp : p x with
    | true =>
      have hq := hx hp
      simp only [List.filter_cons, hp, hq, List.length_cons, if_true, Bool.not_true]
      simp only [Bool.false_eq_true, if_false]
      omega
    | false =>
      cases hq : q x with
      | true =>
        simp only [List.filter_cons, hp, hq, List.length_cons, if_true, Bool.not_false, Bool.false_eq_true, if_false]
        omega
      | false =>
        simp only [List.filter_cons, hp, hq, Bool.false_eq_true, if_false]
        exact ih
def Le (g g' : Adj) : Prop := ∀ i j, g i j = true → g' i j = true
theorem Le.refl (g : Adj) : Le g g := fun _ _ h => h
theorem Le.trans {a b c : Adj} (h : Le a b) (k : Le b c) : Le a c := fun i j q => k i j (h i j q)
theorem cnt_diff {n : Nat} {g g' : Adj} (h : Le g g') : cnt n g' = cnt n g + ((prs n g').filter fun p => !(g p.1 p.2)).length := by
  unfold cnt
  rw [prs_eq, prs_eq]
  exact diff_len (fun p : Nat × Nat => g p.1 p.2) (fun p => g' p.1 p.2) (allP n) fun x _ => h x.1 x.2
theorem cnt_mono {n : Nat} {g g' : Adj} (h : Le g g') : cnt n g ≤ cnt n g' := by
  rw [cnt_diff h]
  omega
theorem cnt_lt {n : Nat} {g g' : Adj} (h : Le g g') {i j : Nat} (hij : i < j) (hj : j < n) (a : g' i j = true) (b : g i j = false) : cnt n g < cnt n g' := by
  rw [cnt_diff h]
  have hm : (i, j) ∈ (prs n g').filter fun p => !(g p.1 p.2) := by
    rw [List.mem_filter, mem_prs]
    exact ⟨⟨hij, hj, a⟩, by simp [b]⟩
  have := List.length_pos_of_mem hm
  omega
theorem allP_6 : ∀ n, n ≤ 6 → (allP n).length ≤ 15 := by decide
theorem cnt_le {n : Nat} (g : Adj) (h : n ≤ 6) : cnt n g ≤ 15 := by
  unfold cnt
  rw [prs_eq]
  exact Nat.le_trans (List.length_filter_le _ _) (allP_6 n h)

/-! ### ways -/
variable {n : Nat} {g g' : Adj} {S S' : Nat → Prop} {i j p q : Nat} {l : List Nat}
theorem Ch.one (h : g i j = true) : Ch g S i j := .step .here (.inl rfl) h
theorem Ch.lt (o : Ok n g) (h : Ch g S i j) (hi : i < n) : j < n := by
  induction h with
  | here => exact hi
  | step _ _ e _ => exact o.lt _ _ (by rw [o.sym]; exact e)
theorem Ch.join (a : Ch g S i p) (hp : S p) (b : Ch g S p j) : Ch g S i j := by
  induction b with
  | here => exact a
  | @step x y _ hx e ih => exact .step ih (.inr (hx.elim (fun z => z ▸ hp) id)) e
theorem Ch.symm (o : Ok n g) (h : Ch g S i j) : Ch g S j i := by
  induction h with
  | here => exact .here
  | @step x y c hx e ih =>
    have e2 : g y x = true := by rw [o.sym]; exact e
    rcases hx with rfl | hx
    · exact .one e2
    · exact (Ch.one e2).join hx ih
theorem Ch.lift (h : ∀ x y, g' x y = true → Ch g S x y) (hS : ∀ x, S' x → S x) (c : Ch g' S' i j) : Ch g S i j := by
  induction c with
  | here => exact .here
  | @step x y _ hx e ih =>
    rcases hx with rfl | hx
    · exact h _ _ e
    · exact ih.join (hS _ hx) (h _ _ e)
theorem Ch.mono (h : Le g' g) (hS : ∀ x, S' x → S x) (c : Ch g' S' i j) : Ch g S i j := c.lift (fun x y e => .one (h x y e)) hS

/-! ### webs stay webs -/
theorem Ok.lt2 (o : Ok n g) (h : g i j = true) : j < n := o.lt j i (by rw [o.sym]; exact h)
theorem Ok.ne (o : Ok n g) (h : g i j = true) : i ≠ j := fun e => by
  subst e
  rw [o.irr] at h
  cases h
theorem Ok.call (o : Ok n g) (p : Nat) : Ok n (callG g p) := by
  refine ⟨fun i j => ?_, fun i => ?_, fun i j h => ?_, o.pos, o.le⟩
  · unfold callG
    rw [o.sym i j, Bool.and_comm (g p i), show decide (i ≠ j) = decide (j ≠ i) from by simp [eq_comm]]
  · unfold callG
    rw [o.irr]
    simp
  · unfold callG at h
    simp only [Bool.or_eq_true, Bool.and_eq_true] at h
    rcases h with h | ⟨⟨h, _⟩, _⟩
    · exact o.lt _ _ h
    · exact o.lt2 h
theorem Ok.aft (o : Ok n g) : ∀ {l : List Nat}, Ok n (Gg.aft g l) := by
  intro l
  induction l generalizing g with
  | nil => exact o
  | cons p l ih => exact ih (o.call p)
theorem told_at {S : List Nat} : toldG n g S i j = true ↔ i < n ∧ i ≠ j ∧ Ch g (fun x => x ∈ S) i j := by simp [toldG]
theorem rest_at : restG n g i j = true ↔ i < n ∧ i ≠ j ∧ Ch g All i j := by simp [restG]
theorem bool_ext {a b : Bool} (h : a = true ↔ b = true) : a = b := by
  cases a <;> cases b <;> simp_all
theorem Ok.told (o : Ok n g) (S : List Nat) : Ok n (toldG n g S) := by
  refine ⟨fun i j => bool_ext ?_, fun i => ?_, fun i j h => ?_, o.pos, o.le⟩
  · rw [told_at, told_at]
    exact ⟨fun ⟨a, b, c⟩ => ⟨c.lt o a, Ne.symm b, c.symm o⟩, fun ⟨a, b, c⟩ => ⟨c.lt o a, Ne.symm b, c.symm o⟩⟩
  · cases h : toldG n g S i i with
    | false => rfl
    | true => exact absurd rfl (told_at.mp h).2.1
  · exact (told_at.mp h).1
theorem Ok.rest (o : Ok n g) : Ok n (restG n g) := by
  refine ⟨fun i j => bool_ext ?_, fun i => ?_, fun i j h => ?_, o.pos, o.le⟩
  · rw [rest_at, rest_at]
    exact ⟨fun ⟨a, b, c⟩ => ⟨c.lt o a, Ne.symm b, c.symm o⟩, fun ⟨a, b, c⟩ => ⟨c.lt o a, Ne.symm b, c.symm o⟩⟩
  · cases h : restG n g i i with
    | false => rfl
    | true => exact absurd rfl (rest_at.mp h).2.1
  · exact (rest_at.mp h).1
theorem Ok.cut (o : Ok n g) (p : Nat) : Ok n (cutG g p) := by
  refine ⟨fun i j => ?_, fun i => ?_, fun i j h => ?_, o.pos, o.le⟩
  · unfold cutG
    rw [o.sym i j, Bool.and_assoc, Bool.and_assoc, Bool.and_comm (decide (i ≠ p))]
  · unfold cutG
    rw [o.irr]
    simp
  · unfold cutG at h
    simp only [Bool.and_eq_true] at h
    exact o.lt _ _ h.1.1
theorem edges_at {ps : List (Nat × Nat)} : edgesG ps i j = true ↔ (i, j) ∈ ps ∨ (j, i) ∈ ps := by simp [edgesG]
theorem Ok.edges {ps : List (Nat × Nat)} (h1 : 1 ≤ n) (h6 : n ≤ 6) (h : ∀ p ∈ ps, p.1 < n ∧ p.2 < n ∧ p.1 ≠ p.2) : Ok n (edgesG ps) := by
  refine ⟨fun i j => bool_ext ?_, fun i => ?_, fun i j e => ?_, h1, h6⟩
  · rw [edges_at, edges_at]
    exact ⟨Or.symm, Or.symm⟩
  · cases e : edgesG ps i i with
    | false => rfl
    | true =>
      rcases edges_at.mp e with e | e
      · exact absurd rfl (h _ e).2.2
      · exact absurd rfl (h _ e).2.2
  · rcases edges_at.mp e with e | e
    · exact (h _ e).1
    · exact (h _ e).2.1

/-! ### calls -/
theorem call_at : callG g p i j = true ↔ g i j = true ∨ (g p i = true ∧ g p j = true ∧ i ≠ j) := by simp [callG, and_assoc]
theorem call_le (g : Adj) (p : Nat) : Le g (callG g p) := fun i j h => call_at.mpr (.inl h)
theorem aft_le (g : Adj) : ∀ l : List Nat, Le g (aft g l) := by
  intro l
  induction l generalizing g with
  | nil => exact Le.refl g
  | cons p l ih => exact (call_le g p).trans (ih (callG g p))
theorem call_ch (o : Ok n g) (hp : S p) (h : callG g p i j = true) : Ch g S i j := by
  rcases call_at.mp h with h | ⟨a, b, _⟩
  · exact .one h
  · exact .step (.one (by rw [o.sym]; exact a)) (.inr hp) b
theorem aft_ch (o : Ok n g) (h : aft g l i j = true) : Ch g (fun x => x ∈ l) i j := by
  induction l generalizing g i j with
  | nil => exact .one h
  | cons p l ih =>
    have c := ih (o.call p) h
    exact c.lift (fun x y e => call_ch o (List.mem_cons_self ..) e) fun x hx => List.mem_cons_of_mem _ hx
/-- no news -/
def NM (g : Adj) (p : Nat) : Prop := ∀ i j, g p i = true → g p j = true → i ≠ j → g i j = true
theorem nm_iff (o : Ok n g) : ¬ Mv g p ↔ NM g p := by
  constructor
  · intro h i j a b ne
    cases e : g i j with
    | true => rfl
    | false =>
      rcases Nat.lt_or_gt_of_ne ne with q | q
      · exact absurd ⟨i, j, a, b, q, e⟩ h
      · exact absurd ⟨j, i, b, a, q, by rw [o.sym]; exact e⟩ h
  · rintro h ⟨i, j, a, b, q, e⟩
    rw [h i j a b (by omega)] at e
    cases e
theorem nm_call (o : Ok n g) (h : NM g p) : callG g p = g := by
  funext i j
  refine bool_ext ⟨fun e => ?_, fun e => call_le g p i j e⟩
  rcases call_at.mp e with e | ⟨a, b, c⟩
  · exact e
  · exact h i j a b c
theorem mv_lt (o : Ok n g) (h : Mv g p) : cnt n g < cnt n (callG g p) := by
  obtain ⟨i, j, a, b, q, e⟩ := h
  exact cnt_lt (call_le g p) q (o.lt2 b) (call_at.mpr (.inr ⟨a, b, by omega⟩)) e
theorem mv_iff (o : Ok n g) : Mv g p ↔ cnt n g < cnt n (callG g p) := by
  refine ⟨mv_lt o, fun h => ?_⟩
  cases Classical.em (Mv g p) with
  | inl q => exact q
  | inr q =>
    rw [nm_call o ((nm_iff o).mp q)] at h
    exact absurd h (Nat.lt_irrefl _)
theorem nm_own (o : Ok n g) : NM (callG g p) p := fun i j a b ne => by
  have go : ∀ k, callG g p p k = true → g p k = true := fun k h => by
    rcases call_at.mp h with h | ⟨z, _, _⟩
    · exact h
    · rw [o.irr] at z
      cases z
  exact call_at.mpr (.inr ⟨go i a, go j b, ne⟩)
theorem nm_keep (o : Ok n g) (h : NM g q) : NM (callG g p) q := fun i j a b ne => by
  have key : ∀ x y, g q x = true → g p q = true → g p y = true → x ≠ y → callG g p x y = true := fun x y hx hq hy ne => by
    by_cases e : x = p
    · subst e
      exact call_le g x x y hy
    · have h1 := h p x (by rw [o.sym]; exact hq) hx (Ne.symm e)
      exact call_at.mpr (.inr ⟨h1, hy, ne⟩)
  rcases call_at.mp a with a | ⟨a1, a2, _⟩
  · rcases call_at.mp b with b | ⟨b1, b2, _⟩
    · exact call_le g p i j (h i j a b ne)
    · exact key i j a b1 b2 ne
  · rcases call_at.mp b with b | ⟨b1, b2, _⟩
    · rw [(o.call p).sym]
      exact key j i b a1 a2 (Ne.symm ne)
    · exact call_at.mpr (.inr ⟨a2, b2, ne⟩)
/-- at rest -/
theorem nm_ch (h : ∀ p, p < n → NM g p) (o : Ok n g) (hi : i < n) (c : Ch g S i j) : i = j ∨ g i j = true := by
  induction c with
  | here => exact .inl rfl
  | @step x y c _ e ih =>
    rcases ih with rfl | q
    · exact .inr e
    · by_cases z : i = y
      · exact .inl z
      · exact .inr (h x (c.lt o hi) i y (by rw [o.sym]; exact q) e z)
theorem aft_rest (o : Ok n g) (h : ∀ p, p < n → ¬ Mv (aft g l) p) : aft g l = restG n g := by
  funext i j
  refine bool_ext ⟨fun e => rest_at.mpr ⟨o.aft.lt _ _ e, o.aft.ne e, (aft_ch o e).mono (Le.refl g) fun _ _ => trivial⟩, fun e => ?_⟩
  obtain ⟨a, b, c⟩ := rest_at.mp e
  exact (nm_ch (fun p hp => (nm_iff o.aft).mp (h p hp)) o.aft a (c.mono (aft_le g l) fun _ h => h)).resolve_left b
theorem rest_nm (o : Ok n g) : NM (restG n g) p := fun i j a b ne => by
  have a2 := rest_at.mp a
  have b2 := rest_at.mp b
  exact rest_at.mpr ⟨a2.2.2.lt o a2.1, ne, (a2.2.2.symm o).join (show All p from trivial) b2.2.2⟩
theorem told_rest (o : Ok n g) {S : List Nat} (h : aft g l = restG n g) (hS : ∀ x ∈ l, x ∈ S) : toldG n g S = restG n g := by
  funext i j
  refine bool_ext ⟨fun e => ?_, fun e => ?_⟩
  · obtain ⟨a, b, c⟩ := told_at.mp e
    exact rest_at.mpr ⟨a, b, c.mono (Le.refl g) fun _ _ => trivial⟩
  · have e2 := e
    rw [← h] at e2
    obtain ⟨a, b, _⟩ := rest_at.mp e
    exact told_at.mpr ⟨a, b, (aft_ch o e2).mono (Le.refl g) hS⟩

/-! ### rows -/
theorem best_one {n : Nat} {g : Adj} {p q : Nat} (a : BestP n g p) (b : BestP n g q) : p = q := by
  have h1 := a.2 q b.1
  have h2 := b.2 p a.1
  omega
theorem lex_one {key : Nat → Int} {l : List Nat} {p q : Nat} (a : LexMin key l p) (b : LexMin key l q) : p = q := by
  have h1 := a.2 q b.1
  have h2 := b.2 p a.1
  omega
theorem lex_ex (key : Nat → Int) : ∀ l : List Nat, l ≠ [] → ∃ p, LexMin key l p
  | [], h => absurd rfl h
  | [a], _ => ⟨a, List.mem_singleton.mpr rfl, fun q hq => .inr (by rw [List.mem_singleton.mp hq]; exact ⟨rfl, Nat.le_refl _⟩)⟩
  | a :: b :: l, _ => by
    obtain ⟨p, hp, h⟩ := lex_ex key (b :: l) (by simp)
    by_cases c : key p < key a ∨ (key p = key a ∧ p ≤ a)
    · refine ⟨p, List.mem_cons_of_mem _ hp, fun q hq => ?_⟩
      rcases List.mem_cons.mp hq with rfl | hq
      · exact c
      · exact h q hq
    · refine ⟨a, List.mem_cons_self .., fun q hq => ?_⟩
      rcases List.mem_cons.mp hq with rfl | hq
      · exact .inr ⟨rfl, Nat.le_refl _⟩
      · have := h q hq
        omega
theorem mem_movs {p : Nat} : p ∈ movs n g ↔ p < n ∧ Mv g p := by
  unfold movs
  simp only [List.mem_filter, List.mem_range, decide_eq_true_eq]
theorem nx_one {r : PySem.Str} (hr : r ∈ rulesL) (a : Nx n g r p) (b : Nx n g r q) : p = q := by
  unfold rulesL at hr
  simp only [List.mem_cons, List.not_mem_nil, or_false] at hr
  rcases hr with h | h | h | h | h | h
  · have h1 := a.first h q b.lt b.mv
    have h2 := b.first h p a.lt a.mv
    omega
  · have h1 := a.last h q b.lt b.mv
    have h2 := b.last h p a.lt a.mv
    omega
  · exact best_one (a.many h) (b.many h)
  · exact lex_one (a.few h) (b.few h)
  · exact lex_one (a.pop h) (b.pop h)
  · exact lex_one (a.shy h) (b.shy h)
theorem nx_many (hp : p < n) (m : Mv g p) (b : BestP n g p) : Nx n g sMany p := by
  refine ⟨hp, m, fun _ => b, fun h => absurd h (by decide +kernel), fun h => absurd h (by decide +kernel), fun h => absurd h (by decide +kernel), fun h => absurd h (by decide +kernel), fun h => absurd h (by decide +kernel)⟩
theorem gr_rr (o : Ok n g) (h : GR n g l) : RR n sMany g l := by
  induction h with
  | done h =>
    refine .done fun p hp m => ?_
    have := mv_lt o m
    rw [h p hp] at this
    omega
  | @step g p l b lt _ ih => exact .step (nx_many b.1 ((mv_iff o).mpr lt) b) (ih (o.call p))
theorem rr_one {r : PySem.Str} (hr : r ∈ rulesL) (o : Ok n g) {l' : List Nat} (h : RR n r g l) (h' : RR n r g l') : l = l' := by
  induction h generalizing l' with
  | done a =>
    cases h' with
    | done _ => rfl
    | step x _ => exact absurd x.mv (a _ x.lt)
  | @step g p l x _ ih =>
    cases h' with
    | done a => exact absurd x.mv (a _ x.lt)
    | @step _ q l2 x2 r2 =>
      have e := nx_one hr x x2
      subst e
      rw [ih (o.call p) r2]
theorem rr_rest {r : PySem.Str} (h : RR n r g l) : (∀ p, p < n → ¬ Mv (aft g l) p) ∧ ∀ p ∈ l, p < n := by
  induction h with
  | done h => exact ⟨h, fun _ z => nomatch z⟩
  | @step g p l x _ ih =>
    refine ⟨ih.1, fun q hq => ?_⟩
    rcases List.mem_cons.mp hq with rfl | hq
    · exact x.lt
    · exact ih.2 q hq
theorem rr_new {r : PySem.Str} (o : Ok n g) (h : RR n r g l) : ∀ q, NM g q → q ∉ l := by
  induction h with
  | done _ => exact fun q _ z => nomatch z
  | @step g p l x _ ih =>
    intro q hq hm
    rcases List.mem_cons.mp hm with rfl | hm
    · exact (nm_iff o).mpr hq x.mv
    · exact ih (o.call p) q (nm_keep o hq) hm
theorem rr_nodup {r : PySem.Str} (o : Ok n g) (h : RR n r g l) : l.Nodup := by
  induction h with
  | done _ => exact List.nodup_nil
  | @step g p l x r ih => exact List.nodup_cons.mpr ⟨rr_new (o.call p) r p (nm_own o), ih (o.call p)⟩
theorem len_le {l : List Nat} (h : l.Nodup) (hl : ∀ p ∈ l, p < n) : l.length ≤ n := by
  have := List.Nodup.length_le_of_subset h (l₂ := List.range n) fun p hp => List.mem_range.mpr (hl p hp)
  rwa [List.length_range] at this

/-! ### choices -/
theorem mem_chs : ∀ {n : Nat} {S : List Nat}, S ∈ chs n ↔ S.Pairwise (· < ·) ∧ ∀ x ∈ S, x < n
  | 0, S => by
    show S ∈ [[]] ↔ _
    rw [List.mem_singleton]
    constructor
    · rintro rfl
      exact ⟨.nil, fun _ z => nomatch z⟩
    · rintro ⟨_, h⟩
      cases S with
      | nil => rfl
      | cons x S => exact absurd (h x (List.mem_cons_self ..)) (Nat.not_lt_zero _)
  | k + 1, S => by
    show S ∈ chs k ++ (chs k).map (fun l => l ++ [k]) ↔ _
    rw [List.mem_append, List.mem_map]
    constructor
    · rintro (h | ⟨l, h, rfl⟩)
      · obtain ⟨a, b⟩ := mem_chs.mp h
        exact ⟨a, fun x hx => Nat.lt_succ_of_lt (b x hx)⟩
      · obtain ⟨a, b⟩ := mem_chs.mp h
        refine ⟨List.pairwise_append.mpr ⟨a, List.pairwise_singleton _ _, fun x hx y hy => ?_⟩, fun x hx => ?_⟩
        · rw [List.mem_singleton.mp hy]
          exact b x hx
        · rcases List.mem_append.mp hx with hx | hx
          · exact Nat.lt_succ_of_lt (b x hx)
          · rw [List.mem_singleton.mp hx]
            exact Nat.lt_succ_self k
    · rintro ⟨a, b⟩
      rcases List.eq_nil_or_concat S with rfl | ⟨l, x, rfl⟩
      · exact .inl (mem_chs.mpr ⟨.nil, fun _ z => nomatch z⟩)
      · rw [List.concat_eq_append] at a b ⊢
        obtain ⟨a1, _, a3⟩ := List.pairwise_append.mp a
        have hx := b x (List.mem_append_right _ (List.mem_singleton.mpr rfl))
        have lx : ∀ y ∈ l, y < x := fun y hy => a3 y hy x (List.mem_singleton.mpr rfl)
        by_cases e : x = k
        · subst e
          exact .inr ⟨l, mem_chs.mpr ⟨a1, lx⟩, rfl⟩
        · refine .inl (mem_chs.mpr ⟨a, fun y hy => ?_⟩)
          rcases List.mem_append.mp hy with hy | hy
          · have := lx y hy
            omega
          · rw [List.mem_singleton.mp hy]
            omega
theorem chs_len : ∀ n, n ≤ 6 → (chs n).length ≤ 64 := by decide
/-- the places of a list, in order -/
def srt (n : Nat) (l : List Nat) : List Nat := (List.range n).filter fun x => decide (x ∈ l)
theorem mem_srt (hl : ∀ p ∈ l, p < n) {x : Nat} : x ∈ srt n l ↔ x ∈ l := by
  unfold srt
  simp only [List.mem_filter, List.mem_range, decide_eq_true_eq]
  exact ⟨fun h => h.2, fun h => ⟨hl x h, h⟩⟩
theorem range_lt (n : Nat) : (List.range n).Pairwise (· < ·) := List.pairwise_lt_range
theorem srt_chs : srt n l ∈ chs n := mem_chs.mpr ⟨(range_lt n).filter _, fun x hx => List.mem_range.mp (List.mem_filter.mp hx).1⟩
theorem lt_nodup {S : List Nat} (h : S.Pairwise (· < ·)) : S.Nodup := h.imp fun h => Nat.ne_of_lt h
theorem srt_len : (srt n l).length ≤ l.length := by
  refine List.Nodup.length_le_of_subset (lt_nodup ((range_lt n).filter _)) fun x hx => ?_
  have := (List.mem_filter.mp hx).2
  simpa using this
theorem aft_told (o : Ok n g) (hl : ∀ p ∈ l, p < n) : Le (aft g l) (toldG n g (srt n l)) := fun i j e =>
  told_at.mpr ⟨o.aft.lt _ _ e, o.aft.ne e, (aft_ch o e).mono (Le.refl g) fun x hx => (mem_srt hl).mpr hx⟩
theorem told_nil (o : Ok n g) : toldG n g [] = g := by
  funext i j
  refine bool_ext ⟨fun eo => ?_, fun e => told_at.mpr ⟨o.lt _ _ e, o.ne e, .one e⟩⟩
  obtain ⟨a, b, c⟩ := told_at.mp eo
  cases c with
  | here => exact absurd rfl b
  | @step x _ c hx e =>
    rcases hx with rfl | hx
    · exact e
    · cases hx
theorem told_one (o : Ok n g) : toldG n g [p] = callG g p := by
  funext i j
  refine bool_ext ⟨fun eo => ?_, fun e => told_at.mpr ⟨(o.call p).lt _ _ e, (o.call p).ne e, call_ch o (List.mem_singleton.mpr rfl) e⟩⟩
  obtain ⟨a, b, c⟩ := told_at.mp eo
  have key : ∀ y, Ch g (fun x => x ∈ [p]) i y → y = i ∨ g i y = true ∨ (g i p = true ∧ g p y = true) := fun y c => by
    induction c with
    | here => exact .inl rfl
    | @step x y _ hx e ih =>
      rcases hx with rfl | hx
      · exact .inr (.inl e)
      · have hx := List.mem_singleton.mp hx
        subst hx
        rcases ih with rfl | q | ⟨_, q⟩
        · exact .inr (.inl e)
        · exact .inr (.inr ⟨q, e⟩)
        · rw [o.irr] at q
          cases q
  rcases key j c with rfl | q | ⟨q, r⟩
  · exact absurd rfl b
  · exact call_at.mpr (.inl q)
  · exact call_at.mpr (.inr ⟨by rw [o.sym]; exact q, r, b⟩)

/-! ### what the law asks -/
theorem cut_in_row (o : Ok n g) (h : aft g l = restG n g) (c : CutV n g p) : p ∈ l := by
  cases Classical.em (p ∈ l) with
  | inl q => exact q
  | inr q =>
    obtain ⟨hp, i, j, hi, hj, li, a, b⟩ := c
    have key : ∀ y, Ch g (fun x => x ∈ l) i y → y ≠ p → Ch (cutG g p) All i y := fun y c => by
      induction c with
      | here => exact fun _ => .here
      | @step x y c hx e ih =>
        intro hy
        have xp : x ≠ p := by
          rcases hx with rfl | hx
          · exact hi
          · intro z
            exact q (z ▸ hx)
        exact .step (ih xp) (.inr trivial) (by simp [cutG, e, xp, hy])
    by_cases e : i = j
    · subst e
      exact absurd .here b
    · have e2 : restG n g i j = true := rest_at.mpr ⟨li, e, a⟩
      rw [← h] at e2
      exact absurd (key j (aft_ch o e2) hj) b
theorem row_joins {r : PySem.Str} (o : Ok n g) (h : RR n r g l) : Joins n g (srt n l) := by
  obtain ⟨a, b⟩ := rr_rest h
  exact ⟨srt_chs, told_rest o (aft_rest o a) fun x hx => (mem_srt b).mpr hx⟩
theorem few_le {r : PySem.Str} (o : Ok n g) (h : RR n r g l) {m : Nat} (f : IsFew n g m) : m ≤ l.length := Nat.le_trans (f.2 _ (row_joins o h)) srt_len
theorem gr_up (h : GR n g l) : ∀ i, i < l.length → cnt n (aft g (l.take i)) < cnt n (aft g (l.take (i + 1))) := by
  induction h with
  | done _ => exact fun i hi => absurd hi (Nat.not_lt_zero _)
  | @step g p l b lt _ ih =>
    intro i hi
    cases i with
    | zero => exact lt
    | succ i => exact ih i (Nat.lt_of_succ_lt_succ hi)
theorem gr_rest_nil (o : Ok n g) (h : GR n (restG n g) l) : l = [] := by
  cases h with
  | done _ => rfl
  | @step _ p l b lt _ =>
    rw [nm_call o.rest (rest_nm o)] at lt
    exact absurd lt (Nat.lt_irrefl _)
theorem aft_take (g : Adj) (l : List Nat) (i : Nat) (hi : i < l.length) : aft g (l.take (i + 1)) = callG (aft g (l.take i)) l[i] := by
  unfold aft
  rw [List.take_succ_eq_append_getElem hi, List.foldl_append]
  rfl
theorem aft_take_le (g : Adj) (l : List Nat) (i : Nat) (hi : i < l.length) : Le (aft g (l.take i)) (aft g (l.take (i + 1))) := by
  rw [aft_take g l i hi]
  exact call_le _ _
theorem best_told (o : Ok n g) (b : BestP n g p) {S : List Nat} (hS : S ∈ chs n) (hl : S.length ≤ 1) (h : ∀ S', S' ∈ chs n → S'.length ≤ 1 → cnt n (toldG n g S') ≤ cnt n (toldG n g S)) : cnt n (callG g p) = cnt n (toldG n g S) := by
  apply Nat.le_antisymm
  · have h1 := h [p] (mem_chs.mpr ⟨List.pairwise_singleton _ _, fun x hx => by rw [List.mem_singleton.mp hx]; exact b.1⟩) (Nat.le_refl 1)
    rwa [told_one o] at h1
  · match S, hl with
    | [], _ =>
      rw [told_nil o]
      exact cnt_mono (call_le g p)
    | [q], _ =>
      rw [told_one o]
      have hq := (mem_chs.mp hS).2 q (List.mem_singleton.mpr rfl)
      have := b.2 q hq
      omega
theorem has_best (o : Ok n g) : ∃ p, BestP n g p := by
  have key : ∀ k, 1 ≤ k → k ≤ n → ∃ p, p < k ∧ ∀ q, q < k → cnt n (callG g q) < cnt n (callG g p) ∨ (cnt n (callG g q) = cnt n (callG g p) ∧ p ≤ q) := by
    intro k
    induction k with
    | zero => exact fun h => absurd h (by omega)
    | succ k ih =>
      intro _ hk
      by_cases hz : k = 0
      · subst hz
        exact ⟨0, by omega, fun q hq => .inr ⟨by rw [show q = 0 by omega], by omega⟩⟩
      · obtain ⟨p, hp, h⟩ := ih (by omega) (by omega)
        by_cases c : cnt n (callG g p) < cnt n (callG g k)
        · refine ⟨k, by omega, fun q hq => ?_⟩
          by_cases e : q = k
          · subst e
            exact .inr ⟨rfl, Nat.le_refl _⟩
          · have := h q (by omega)
            exact .inl (by omega)
        · refine ⟨p, by omega, fun q hq => ?_⟩
          by_cases e : q = k
          · subst e
            by_cases d : cnt n (callG g q) = cnt n (callG g p)
            · exact .inr ⟨d, by omega⟩
            · exact .inl (by omega)
          · exact h q (by omega)
  exact key n o.pos (Nat.le_refl n)
theorem best_mv (o : Ok n g) (b : BestP n g p) (m : Mv g q) (hq : q < n) : Mv g p := by
  rw [mv_iff o] at m ⊢
  have := b.2 q hq
  omega
theorem nx_ex {r : PySem.Str} (o : Ok n g) (m : Mv g q) (hq : q < n) (hr : r ∈ rulesL) : ∃ p, Nx n g r p := by
  have hne : movs n g ≠ [] := fun e => by
    have := mem_movs.mpr ⟨hq, m⟩
    rw [e] at this
    cases this
  have no : ∀ {a b : PySem.Str}, r = a → (a = b → False) → ∀ {P : Prop}, r = b → P := fun h1 h2 P h3 => (h2 (h1.symm.trans h3)).elim
  unfold rulesL at hr
  simp only [List.mem_cons, List.not_mem_nil, or_false] at hr
  rcases hr with h | h | h | h | h | h
  · obtain ⟨p, hp⟩ := lex_ex (fun x => (x : Int)) _ hne
    have hm := mem_movs.mp hp.1
    refine ⟨p, hm.1, hm.2, no h (by decide +kernel), no h (by decide +kernel), no h (by decide +kernel), no h (by decide +kernel), fun _ q hq m => ?_, no h (by decide +kernel)⟩
    have := hp.2 q (mem_movs.mpr ⟨hq, m⟩)
    simp only at this
    omega
  · obtain ⟨p, hp⟩ := lex_ex (fun x => -(x : Int)) _ hne
    have hm := mem_movs.mp hp.1
    refine ⟨p, hm.1, hm.2, no h (by decide +kernel), no h (by decide +kernel), no h (by decide +kernel), no h (by decide +kernel), no h (by decide +kernel), fun _ q hq m => ?_⟩
    have := hp.2 q (mem_movs.mpr ⟨hq, m⟩)
    simp only at this
    omega
  · obtain ⟨p, hp⟩ := has_best o
    exact ⟨p, hp.1, best_mv o hp m hq, fun _ => hp, no h (by decide +kernel), no h (by decide +kernel), no h (by decide +kernel), no h (by decide +kernel), no h (by decide +kernel)⟩
  · obtain ⟨p, hp⟩ := lex_ex (fun q => (cnt n (callG g q) : Int)) _ hne
    have hm := mem_movs.mp hp.1
    exact ⟨p, hm.1, hm.2, no h (by decide +kernel), fun _ => hp, no h (by decide +kernel), no h (by decide +kernel), no h (by decide +kernel), no h (by decide +kernel)⟩
  · obtain ⟨p, hp⟩ := lex_ex (fun q => -((frs n g q).length : Int)) _ hne
    have hm := mem_movs.mp hp.1
    exact ⟨p, hm.1, hm.2, no h (by decide +kernel), no h (by decide +kernel), fun _ => hp, no h (by decide +kernel), no h (by decide +kernel), no h (by decide +kernel)⟩
  · obtain ⟨p, hp⟩ := lex_ex (fun q => ((frs n g q).length : Int)) _ hne
    have hm := mem_movs.mp hp.1
    exact ⟨p, hm.1, hm.2, no h (by decide +kernel), no h (by decide +kernel), no h (by decide +kernel), fun _ => hp, no h (by decide +kernel), no h (by decide +kernel)⟩
theorem rr_ex {r : PySem.Str} (hr : r ∈ rulesL) : ∀ (k : Nat) {g : Adj}, Ok n g → 15 - cnt n g = k → ∃ l, RR n r g l := by
  intro k
  induction k using Nat.strongRecOn with
  | ind k ih =>
    intro g o e
    cases Classical.em (∃ q, q < n ∧ Mv g q) with
    | inl h =>
      obtain ⟨q, hq, m⟩ := h
      obtain ⟨p, x⟩ := nx_ex o m hq hr
      have h1 := mv_lt o x.mv
      have h2 := cnt_le (callG g p) o.le
      obtain ⟨l, hl⟩ := ih (15 - cnt n (callG g p)) (by omega) (o.call p) rfl
      exact ⟨p :: l, .step x hl⟩
    | inr h => exact ⟨[], .done fun p hp m => h ⟨p, hp, m⟩⟩
end Gg

/-! part Rd -/
set_option linter.all false
namespace Wk
open PySem PySem.Spec PyProof.Rows L2 Dw Gg
def t_is_integer : DS := (dRet (dAndV (dIsi "int" (dVar 0)) (dNotV (dIsi "bool" (dVar 0)))))
def t_is_list : DS := (dRet (dAndV (dIsi "tuple" (dVar 0)) (dChain fLe fLe (dVar 1) (dU fLen (dVar 0)) (dVar 2))))
def t_pairs_in : DS := (dSeq (dAsg (dLst dNil) 1)
    (dSeq (dFor (dRng1 (dU fLen (dVar 0))) (gdName 2) (dFor (dItT (dOp fIxT (dVar 0) (dVar 2))) (gdName 3) (dIfS (dTst (dOp fLt (dVar 2) (dVar 3))) (dAppend 1 (dTup (dCons (dVar 2) (dCons (dVar 3) dNil)))) dNext)))
    (dRet (dVar 1))))
def t_group_in : DS := (dSeq (dPar 2 3 (dLst (dCons (dVar 1) dNil)) (dLst (dCons (dVar 1) dNil)))
    (dSeq (dWhile (dTst (dOp fNe (dVar 3) (dLst dNil))) (dSeq (dPopA 4 3)
    (dFor (dItT (dOp fIxT (dVar 0) (dVar 4))) (gdName 5) (dIfS (dTst (dOp (fIn true) (dVar 5) (dVar 2))) (dSeq (dAppend 2 (dVar 5))
    (dAppend 3 (dVar 5))) dNext))))
    (dRet (dU fTuple (dU fSorted (dVar 2))))))
def t_is_table : DS := (dRet (dU fAll (dLc2 (dItT (dVar 1)) (gdName 2) (dItT (dVar 1)) (gdName 3) (dTst (dOp fLt (dVar 2) (dVar 3))) (dOp (fIn false) (dVar 3) (dOp fIxT (dVar 0) (dVar 2))) [2, 3] [3])))
def t_choices : DS := (dSeq (dAsg (dLst (dCons (dTup dNil) dNil)) 1)
    (dSeq (dFor (dRng1 (dVar 0)) (gdName 2) (dExtend 1 (dLc (dItL (dVar 1)) (gdName 3) dYes (dTup (dStar (dVar 3) (dCons (dVar 2) dNil))) [3])))
    (dRet (dVar 1))))
def t_chain_ends : DS := (dSeq (dPar 3 4 (dLst (dCons (dVar 2) dNil)) (dLst (dCons (dVar 2) dNil)))
    (dSeq (dWhile (dTst (dOp fNe (dVar 4) (dLst dNil))) (dSeq (dPopA 5 4)
    (dFor (dItT (dOp fIxT (dVar 0) (dVar 5))) (gdName 6) (dIfS (dTst (dOp (fIn true) (dVar 6) (dVar 3))) (dSeq (dAppend 3 (dVar 6))
    (dIfS (dTst (dOp (fIn false) (dVar 6) (dVar 1))) (dAppend 4 (dVar 6)) dNext)) dNext))))
    (dRet (dVar 3))))
def t_need_rule : DS := (dIfS (dOr (dNot (dTst (dIsi "str" (dVar 0)))) (dTst (dOp (fIn true) (dVar 0) (dC rulesD)))) dNever dNext)
def t_is_in : DS := (dRet (dAndV (dCall sp_is_integer (dCons (dVar 0) dNil)) (dChain fLe fLe (dVar 1) (dVar 0) (dVar 2))))
def t_groups_in : DS := (dRet (dU fSortSetT (dLc (dRng1 (dU fLen (dVar 0))) (gdName 1) dYes (dCall sp_group_in (dCons (dVar 0) (dCons (dVar 1) dNil))) [1])))
def t_call_in : DS := (dSeq (dAsg (dLc2 (dItT (dOp fIxT (dVar 0) (dVar 1))) (gdName 3) (dItT (dOp fIxT (dVar 0) (dVar 1))) (gdName 4) (dTst (dOp fLt (dVar 3) (dVar 4))) (dTup (dCons (dVar 3) (dCons (dVar 4) dNil))) [3, 4] [4]) 2)
    (dRet (dCall sp_web_by (dCons (dU fLen (dVar 0)) (dCons (dOp fCat (dCall sp_pairs_in (dCons (dVar 0) dNil)) (dVar 2)) dNil)))))
def t_movers_in : DS := (dSeq (dAsg (dLst dNil) 1)
    (dSeq (dFor (dRng1 (dU fLen (dVar 0))) (gdName 2) (dIfS (dNot (dTst (dCall sp_is_table (dCons (dVar 0) (dCons (dOp fIxT (dVar 0) (dVar 2)) dNil))))) (dAppend 1 (dVar 2)) dNext))
    (dRet (dVar 1))))
def t_told_in : DS := (dSeq (dAsg (dLst dNil) 2)
    (dSeq (dFor (dRng1 (dU fLen (dVar 0))) (gdName 3) (dExtend 2 (dLc (dItL (dCall sp_chain_ends (dCons (dVar 0) (dCons (dVar 1) (dCons (dVar 3) dNil))))) (gdName 4) (dTst (dOp fLt (dVar 3) (dVar 4))) (dTup (dCons (dVar 3) (dCons (dVar 4) dNil))) [4])))
    (dRet (dCall sp_web_by (dCons (dU fLen (dVar 0)) (dCons (dVar 2) dNil))))))
def t_without : DS := (dRet (dCall sp_web_by (dCons (dU fLen (dVar 0)) (dCons (dLc (dItL (dCall sp_pairs_in (dCons (dVar 0) dNil))) (gdName 2) (dTst (dOp (fIn true) (dVar 1) (dVar 2))) (dVar 2) [2]) dNil))))
def t_need_web : DS := (dSeq (dIfS (dNot (dTst (dCall sp_is_list (dCons (dVar 0) (dCons (dC (.int 1)) (dCons (dC (.int 8)) dNil)))))) dNever dNext)
    (dSeq (dAsg (dU fLen (dVar 0)) 1)
    (dSeq (dFor (dEnum (dVar 0)) (gdTup2 2 3) (dSeq (dIfS (dOr (dNot (dTst (dCall sp_is_list (dCons (dVar 3) (dCons (dC (.int 0)) (dCons (dOp fSub (dVar 1) (dC (.int 1))) dNil)))))) (dNot (dTst (dU fAll (dLc (dItT (dVar 3)) (gdName 4) dYes (dCall sp_is_in (dCons (dVar 4) (dCons (dC (.int 0)) (dCons (dOp fSub (dVar 1) (dC (.int 1))) dNil)))) [4]))))) dNever dNext)
    (dIfS (dOr (dTst (dOp fNe (dU fList (dVar 3)) (dU fSortSet (dVar 3)))) (dTst (dOp (fIn false) (dVar 2) (dVar 3)))) dNever dNext)))
    (dFor (dEnum (dVar 0)) (gdTup2 2 3) (dIfS (dTst (dU fAny (dLc (dItT (dVar 3)) (gdName 4) dYes (dOp (fIn true) (dVar 2) (dOp fIxT (dVar 0) (dVar 4))) [4]))) dNever dNext)))))
def t_need_person : DS := (dIfS (dNot (dTst (dCall sp_is_in (dCons (dVar 1) (dCons (dC (.int 0)) (dCons (dOp fSub (dU fLen (dVar 0)) (dC (.int 1))) dNil)))))) dNever dNext)
def t_need_people : DS := (dSeq (dAsg (dU fLen (dVar 0)) 2)
    (dSeq (dIfS (dOr (dNot (dTst (dCall sp_is_list (dCons (dVar 1) (dCons (dC (.int 0)) (dCons (dVar 2) dNil)))))) (dNot (dTst (dU fAll (dLc (dItT (dVar 1)) (gdName 3) dYes (dCall sp_is_in (dCons (dVar 3) (dCons (dC (.int 0)) (dCons (dOp fSub (dVar 2) (dC (.int 1))) dNil)))) [3]))))) dNever dNext)
    (dIfS (dTst (dOp fNe (dU fList (dVar 1)) (dU fSortSet (dVar 1)))) dNever dNext)))
def t_rest_of : DS := (dSeq (dAsg (dLst dNil) 1)
    (dSeq (dFor (dItL (dCall sp_groups_in (dCons (dVar 0) dNil))) (gdName 2) (dFor (dItT (dVar 2)) (gdName 3) (dExtend 1 (dLc (dItT (dVar 2)) (gdName 4) (dTst (dOp fLt (dVar 3) (dVar 4))) (dTup (dCons (dVar 3) (dCons (dVar 4) dNil))) [4]))))
    (dRet (dCall sp_web_by (dCons (dU fLen (dVar 0)) (dCons (dVar 1) dNil))))))
def t_need_calls : DS := (dSeq (dIfS (dNot (dTst (dCall sp_is_list (dCons (dVar 1) (dCons (dC (.int 0)) (dCons (dC (.int 60)) dNil)))))) dNever dNext)
    (dFor (dEnum (dVar 1)) (gdTup2 2 3) (dIfS (dNot (dTst (dCall sp_is_in (dCons (dVar 3) (dCons (dC (.int 0)) (dCons (dOp fSub (dU fLen (dVar 0)) (dC (.int 1))) dNil)))))) dNever dNext)))
def t_story_in : DS := (dSeq (dAsg (dLst (dCons (dVar 0) dNil)) 2)
    (dSeq (dFor (dItT (dVar 1)) (gdName 3) (dAppend 2 (dCall sp_call_in (dCons (dOp fIxL (dVar 2) (dU fNeg (dC (.int 1)))) (dCons (dVar 3) dNil)))))
    (dRet (dVar 2))))
def t_cut_in : DS := (dSeq (dPar 1 2 (dU fLen (dCall sp_groups_in (dCons (dVar 0) dNil))) (dLst dNil))
    (dSeq (dFor (dRng1 (dU fLen (dVar 0))) (gdName 3) (dIfS (dAnd (dTst (dOp fNe (dOp fIxT (dVar 0) (dVar 3)) (dTup dNil))) (dTst (dOp fGt (dU fLen (dCall sp_groups_in (dCons (dCall sp_without (dCons (dVar 0) (dCons (dVar 3) dNil))) dNil))) (dOp fAdd (dVar 1) (dC (.int 1)))))) (dAppend 2 (dVar 3)) dNext))
    (dRet (dVar 2))))
def t_next_in : DS := (dSeq (dAsg (dCall sp_movers_in (dCons (dVar 0) dNil)) 2)
    (dSeq (dIfS (dTst (dOp fEq (dVar 1) (dC (.str (PySem.Str.ofString "many"))))) (dRet (dOp fIxT (dU fMin (dLc (dItL (dVar 2)) (gdName 3) dYes (dTup (dCons (dU fNeg (dU fLen (dCall sp_pairs_in (dCons (dCall sp_call_in (dCons (dVar 0) (dCons (dVar 3) dNil))) dNil)))) (dCons (dVar 3) dNil))) [3])) (dC (.int 1)))) dNext)
    (dSeq (dIfS (dTst (dOp fEq (dVar 1) (dC (.str (PySem.Str.ofString "few"))))) (dRet (dOp fIxT (dU fMin (dLc (dItL (dVar 2)) (gdName 3) dYes (dTup (dCons (dU fLen (dCall sp_pairs_in (dCons (dCall sp_call_in (dCons (dVar 0) (dCons (dVar 3) dNil))) dNil))) (dCons (dVar 3) dNil))) [3])) (dC (.int 1)))) dNext)
    (dSeq (dIfS (dTst (dOp fEq (dVar 1) (dC (.str (PySem.Str.ofString "popular"))))) (dRet (dOp fIxT (dU fMin (dLc (dItL (dVar 2)) (gdName 3) dYes (dTup (dCons (dU fNeg (dU fLen (dOp fIxT (dVar 0) (dVar 3)))) (dCons (dVar 3) dNil))) [3])) (dC (.int 1)))) dNext)
    (dSeq (dIfS (dTst (dOp fEq (dVar 1) (dC (.str (PySem.Str.ofString "shy"))))) (dRet (dOp fIxT (dU fMin (dLc (dItL (dVar 2)) (gdName 3) dYes (dTup (dCons (dU fLen (dOp fIxT (dVar 0) (dVar 3))) (dCons (dVar 3) dNil))) [3])) (dC (.int 1)))) dNext)
    (dRet (dIf (dTst (dOp fEq (dVar 1) (dC (.str (PySem.Str.ofString "first"))))) (dOp fIxL (dVar 2) (dC (.int 0))) (dOp fIxL (dVar 2) (dU fNeg (dC (.int 1)))))))))))
def t_count_pairs : DS := (dSeq (dDrop (dCall sp_need_web (dCons (dVar 0) dNil)))
    (dRet (dU fLen (dCall sp_pairs_in (dCons (dVar 0) dNil)))))
def t_last_web : DS := (dSeq (dDrop (dCall sp_need_web (dCons (dVar 0) dNil)))
    (dRet (dCall sp_rest_of (dCons (dVar 0) dNil))))
def t_call : DS := (dSeq (dDrop (dCall sp_need_web (dCons (dVar 0) dNil)))
    (dSeq (dDrop (dCall sp_need_person (dCons (dVar 0) (dCons (dVar 1) dNil))))
    (dRet (dCall sp_call_in (dCons (dVar 0) (dCons (dVar 1) dNil))))))
def t_after : DS := (dSeq (dDrop (dCall sp_need_web (dCons (dVar 0) dNil)))
    (dSeq (dDrop (dCall sp_need_calls (dCons (dVar 0) (dCons (dVar 1) dNil))))
    (dRet (dOp fIxL (dCall sp_story_in (dCons (dVar 0) (dCons (dVar 1) dNil))) (dU fNeg (dC (.int 1)))))))
def t_gains : DS := (dSeq (dDrop (dCall sp_need_web (dCons (dVar 0) dNil)))
    (dSeq (dDrop (dCall sp_need_calls (dCons (dVar 0) (dCons (dVar 1) dNil))))
    (dSeq (dAsg (dLc (dItL (dCall sp_story_in (dCons (dVar 0) (dCons (dVar 1) dNil)))) (gdName 5) dYes (dU fLen (dCall sp_pairs_in (dCons (dVar 5) dNil))) [5]) 2)
    (dSeq (dAsg (dLst dNil) 3)
    (dSeq (dFor (dRng1 (dU fLen (dVar 1))) (gdName 4) (dAppend 3 (dOp fSub (dOp fIxL (dVar 2) (dOp fAdd (dVar 4) (dC (.int 1)))) (dOp fIxL (dVar 2) (dVar 4)))))
    (dRet (dU fTuple (dVar 3))))))))
def t_most_new : DS := (dSeq (dDrop (dCall sp_need_web (dCons (dVar 0) dNil)))
    (dSeq (dAsg (dU fLen (dCall sp_pairs_in (dCons (dVar 0) dNil))) 1)
    (dSeq (dAsgG (dU fMin (dLc (dRng1 (dU fLen (dVar 0))) (gdName 3) dYes (dTup (dCons (dOp fSub (dVar 1) (dU fLen (dCall sp_pairs_in (dCons (dCall sp_call_in (dCons (dVar 0) (dCons (dVar 3) dNil))) dNil)))) (dCons (dVar 3) dNil))) [3])) (gdTup2 2 3))
    (dRet (dTup (dCons (dU fNeg (dVar 2)) (dCons (dVar 3) dNil)))))))
def t_made_in : DS := (dSeq (dPar 2 3 (dCall sp_story_in (dCons (dVar 0) (dCons (dVar 1) dNil))) (dLst dNil))
    (dSeq (dFor (dEnum (dVar 1)) (gdTup2 4 5) (dExtend 3 (dLc (dItL (dCall sp_pairs_in (dCons (dOp fIxL (dVar 2) (dOp fAdd (dVar 4) (dC (.int 1)))) dNil))) (gdName 6) (dTst (dOp (fIn true) (dOp fIxT (dVar 6) (dC (.int 1))) (dOp fIxT (dOp fIxL (dVar 2) (dVar 4)) (dOp fIxT (dVar 6) (dC (.int 0)))))) (dTup (dCons (dVar 4) (dCons (dVar 5) (dCons (dVar 6) dNil)))) [6])))
    (dRet (dVar 3))))
def t_greedy_row : DS := (dSeq (dDrop (dCall sp_need_web (dCons (dVar 0) dNil)))
    (dSeq (dAsg (dLst dNil) 1)
    (dWhile (dTst (dC (.bool true))) (dSeq (dAsg (dU fLen (dCall sp_pairs_in (dCons (dVar 0) dNil))) 2)
    (dSeq (dAsgG (dU fMin (dLc (dRng1 (dU fLen (dVar 0))) (gdName 5) dYes (dTup (dCons (dOp fSub (dVar 2) (dU fLen (dCall sp_pairs_in (dCons (dCall sp_call_in (dCons (dVar 0) (dCons (dVar 5) dNil))) dNil)))) (dCons (dVar 5) dNil))) [5])) (gdTup2 3 4))
    (dSeq (dIfS (dTst (dOp fEq (dVar 3) (dC (.int 0)))) (dRet (dU fTuple (dVar 1))) dNext)
    (dSeq (dAppend 1 (dVar 4))
    (dAsg (dCall sp_call_in (dCons (dVar 0) (dCons (dVar 4) dNil))) 0))))))))
def t_told : DS := (dSeq (dDrop (dCall sp_need_web (dCons (dVar 0) dNil)))
    (dSeq (dDrop (dCall sp_need_people (dCons (dVar 0) (dCons (dVar 1) dNil))))
    (dRet (dCall sp_told_in (dCons (dVar 0) (dCons (dVar 1) dNil))))))
def t_joining_in : DS := (dSeq (dAsg (dCall sp_rest_of (dCons (dVar 0) dNil)) 1)
    (dSeq (dAsg (dLst dNil) 2)
    (dSeq (dFor (dItL (dCall sp_choices (dCons (dU fLen (dVar 0)) dNil))) (gdName 3) (dIfS (dTst (dOp fEq (dCall sp_told_in (dCons (dVar 0) (dCons (dVar 3) dNil))) (dVar 1))) (dAppend 2 (dVar 3)) dNext))
    (dRet (dU fSorted (dVar 2))))))
def t_joins_all : DS := (dSeq (dDrop (dCall sp_need_web (dCons (dVar 0) dNil)))
    (dSeq (dDrop (dCall sp_need_people (dCons (dVar 0) (dCons (dVar 1) dNil))))
    (dRet (dOp fEq (dCall sp_told_in (dCons (dVar 0) (dCons (dVar 1) dNil))) (dCall sp_rest_of (dCons (dVar 0) dNil))))))
def t_cut_people : DS := (dSeq (dDrop (dCall sp_need_web (dCons (dVar 0) dNil)))
    (dRet (dU fTuple (dCall sp_cut_in (dCons (dVar 0) dNil)))))
def t_row_in : DS := (dSeq (dAsg (dLst dNil) 2)
    (dSeq (dWhile (dTst (dOp fNe (dCall sp_movers_in (dCons (dVar 0) dNil)) (dLst dNil))) (dSeq (dAppend 2 (dCall sp_next_in (dCons (dVar 0) (dCons (dVar 1) dNil))))
    (dAsg (dCall sp_call_in (dCons (dVar 0) (dCons (dOp fIxL (dVar 2) (dU fNeg (dC (.int 1)))) dNil))) 0)))
    (dRet (dVar 2))))
def t_most_pairs_by : DS := (dSeq (dDrop (dCall sp_need_web (dCons (dVar 0) dNil)))
    (dSeq (dIfS (dNot (dTst (dCall sp_is_in (dCons (dVar 1) (dCons (dC (.int 0)) (dCons (dC (.int 100)) dNil)))))) dNever dNext)
    (dSeq (dAsg (dLc (dItL (dCall sp_choices (dCons (dU fLen (dVar 0)) dNil))) (gdName 4) (dTst (dOp fLe (dU fLen (dVar 4)) (dVar 1))) (dVar 4) [4]) 2)
    (dSeq (dAsgG (dU fMin (dLc (dItL (dVar 2)) (gdName 4) dYes (dTup (dCons (dU fNeg (dU fLen (dCall sp_pairs_in (dCons (dCall sp_told_in (dCons (dVar 0) (dCons (dVar 4) dNil))) dNil)))) (dCons (dVar 4) dNil))) [4])) (gdTup2 3 4))
    (dRet (dTup (dCons (dU fNeg (dVar 3)) (dCons (dVar 4) dNil))))))))
def t_count_made : DS := (dSeq (dDrop (dCall sp_need_web (dCons (dVar 0) dNil)))
    (dSeq (dDrop (dCall sp_need_calls (dCons (dVar 0) (dCons (dVar 1) dNil))))
    (dSeq (dAsg (dOp fRep1 (dLst (dCons (dC (.int 0)) dNil)) (dU fLen (dVar 0))) 2)
    (dSeq (dFor (dItL (dCall sp_made_in (dCons (dVar 0) (dCons (dVar 1) dNil)))) (gdTup3 3 4 5) (dAugL 2 (dVar 4) (dC (.int 1))))
    (dRet (dU fTuple (dVar 2)))))))
def t_calls_to_rest : DS := (dSeq (dDrop (dCall sp_need_web (dCons (dVar 0) dNil)))
    (dRet (dU fMin (dLc (dItL (dCall sp_joining_in (dCons (dVar 0) dNil))) (gdName 1) dYes (dU fLen (dVar 1)) [1]))))
def t_least_joining : DS := (dSeq (dDrop (dCall sp_need_web (dCons (dVar 0) dNil)))
    (dSeq (dAsg (dCall sp_joining_in (dCons (dVar 0) dNil)) 1)
    (dSeq (dAsg (dU fMin (dLc (dItL (dVar 1)) (gdName 3) dYes (dU fLen (dVar 3)) [3])) 2)
    (dRet (dLc (dItL (dVar 1)) (gdName 3) (dTst (dOp fEq (dU fLen (dVar 3)) (dVar 2))) (dVar 3) [3])))))
def t_ruled_row : DS := (dSeq (dDrop (dCall sp_need_web (dCons (dVar 0) dNil)))
    (dSeq (dDrop (dCall sp_need_rule (dCons (dVar 1) dNil)))
    (dRet (dU fTuple (dCall sp_row_in (dCons (dVar 0) (dCons (dVar 1) dNil)))))))
def t_rule_lengths : DS := (dSeq (dDrop (dCall sp_need_web (dCons (dVar 0) dNil)))
    (dRet (dU fTuple (dLc (dItL (dU fSorted (dC rulesD))) (gdName 1) dYes (dTup (dCons (dVar 1) (dCons (dU fLen (dCall sp_row_in (dCons (dVar 0) (dCons (dVar 1) dNil)))) dNil))) [1]))))
def t_best_rule : DS := (dSeq (dDrop (dCall sp_need_web (dCons (dVar 0) dNil)))
    (dRet (dU fMin (dLc (dItL (dU fSorted (dC rulesD))) (gdName 1) dYes (dTup (dCons (dU fLen (dCall sp_row_in (dCons (dVar 0) (dCons (dVar 1) dNil)))) (dCons (dVar 1) dNil))) [1]))))
end Wk

/-! part Dl -/
set_option Elab.async false
set_option linter.all false
set_option maxRecDepth 100000
set_option maxHeartbeats 4000000
namespace Wk
open PySem PySem.Spec PyProof.Rows L2 Dw Gg
/-! ### shape -/
theorem lay_all : ∀ {xs : List PyData}, (∀ x ∈ xs, PyData.canLay0 x = true) → PyData.canLayAll0 xs = true
  | [], _ => by simp [PyData.canLayAll0]
  | x :: xs, h => by
    simp only [PyData.canLayAll0, Bool.and_eq_true]
    exact ⟨h x (List.mem_cons_self ..), lay_all fun y hy => h y (List.mem_cons_of_mem _ hy)⟩
theorem dep_all {k : Nat} : ∀ {xs : List PyData}, (∀ x ∈ xs, PyData.depth x ≤ k) → PyData.depthAll xs ≤ k
  | [], _ => by simp [PyData.depthAll]
  | x :: xs, h => by
    simp only [PyData.depthAll]
    have h1 := h x (List.mem_cons_self ..)
    have h2 := dep_all fun y hy => h y (List.mem_cons_of_mem _ hy)
    omega
structure Sh (k : Nat) (d : PyData) : Prop where
  lay : PyData.canLay0 d = true
  dep : PyData.depth d ≤ k
theorem Sh.tup {k : Nat} {xs : List PyData} (h : ∀ x ∈ xs, Sh k x) : Sh (k + 1) (.tuple xs) := ⟨by simp only [PyData.canLay0]; exact lay_all fun x hx => (h x hx).lay, by simp only [PyData.depth]; exact Nat.succ_le_succ (dep_all fun x hx => (h x hx).dep)⟩
theorem Sh.lst {k : Nat} {xs : List PyData} (h : ∀ x ∈ xs, Sh k x) : Sh (k + 1) (.list xs) := ⟨by simp only [PyData.canLay0]; exact lay_all fun x hx => (h x hx).lay, by simp only [PyData.depth]; exact Nat.succ_le_succ (dep_all fun x hx => (h x hx).dep)⟩
theorem Sh.int (i : Int) : Sh 0 (.int i) := ⟨by simp [PyData.canLay0], by simp [PyData.depth]⟩
theorem Sh.ok {k : Nat} {d : PyData} (h : Sh k d) (hk : k ≤ 60 := by decide) : SeqAt.shaped d = true := by
  show (d.canLay0 && decide (d.depth ≤ 64)) = true
  rw [Bool.and_eq_true]
  have := h.dep
  exact ⟨h.lay, decide_eq_true (by omega)⟩
theorem Sh.map {α : Type} {k : Nat} {f : α → PyData} {l : List α} (h : ∀ a ∈ l, Sh k (f a)) : ∀ x ∈ l.map f, Sh k x := fun x hx => by
  obtain ⟨a, ha, rfl⟩ := List.mem_map.mp hx
  exact h a ha
theorem sh_tI (ns : List Int) : Sh 1 (tI ns) := .tup (Sh.map fun i _ => .int i)
theorem nis_up (l : List Nat) : nis l = (up l).map .int := by
  show _ = (l.map _).map _
  rw [List.map_map]
  rfl
theorem tN_up (l : List Nat) : tN l = tI (up l) := congrArg PyData.tuple (nis_up l)
theorem sh_tN (l : List Nat) : Sh 1 (tN l) := by rw [tN_up]; exact sh_tI _
theorem sh_gD (n : Nat) (g : Adj) : Sh 2 (gD n g) := .tup (Sh.map fun i _ => sh_tN _)
theorem shaped_ints (ns : List Int) : SeqAt.shaped (.list (ns.map .int)) = true := (Sh.lst (Sh.map fun i _ => .int i)).ok
theorem shaped_nil : SeqAt.shaped (.list []) = true := (Sh.lst (k := 0) (xs := []) (by intro x hx; cases hx)).ok
theorem shaped_tnil : SeqAt.shaped (.tuple []) = true := (Sh.tup (k := 0) (xs := []) (by intro x hx; cases hx)).ok
theorem shaped_int (i : Int) : SeqAt.shaped (.int i) = true := (Sh.int i).ok
/-! ### equal -/
theorem eqv_map {α : Type} [DecidableEq α] {f : α → PyData} (h : ∀ a b, PyData.eqv (f a) (f b) = decide (a = b)) : ∀ l l' : List α, PyData.eqvAll (l.map f) (l'.map f) = decide (l = l')
  | [], [] => by simp [PyData.eqvAll]
  | [], b :: l' => by simp [PyData.eqvAll]
  | a :: l, [] => by simp [PyData.eqvAll]
  | a :: l, b :: l' => by
    simp only [List.map_cons, PyData.eqvAll, h, eqv_map h l l']
    by_cases e : a = b <;> by_cases e2 : l = l' <;> simp [e, e2]
theorem eqv_int (i j : Int) : PyData.eqv (.int i) (.int j) = decide (i = j) := by
  simp only [PyData.eqv]
  exact Bool.beq_eq_decide_eq i j
theorem eqv_tI (a b : List Int) : PyData.eqv (tI a) (tI b) = decide (a = b) := by
  show PyData.eqv (.tuple _) (.tuple _) = _
  simp only [PyData.eqv]
  exact eqv_map eqv_int a b
theorem eqv_ints (a b : List Int) : PyData.eqv (.list (a.map .int)) (.list (b.map .int)) = decide (a = b) := by
  simp only [PyData.eqv]
  exact eqv_map eqv_int a b
theorem eqv_str (a b : Str) : PyData.eqv (.str a) (.str b) = decide (a = b) := by
  simp only [PyData.eqv]
  by_cases h : a = b
  · simp [h]
  · simp [h]
theorem up_inj {a b : List Nat} : up a = up b ↔ a = b := by
  constructor
  · intro h
    exact List.map_inj_right (fun x y h => Int.ofNat.inj h) |>.mp h
  · rintro rfl
    rfl
theorem frs_ext {n : Nat} {g g' : Adj} (o : Ok n g) (o' : Ok n g') (h : ∀ i, i < n → frs n g i = frs n g' i) : g = g' := by
  funext i j
  by_cases hi : i < n
  · by_cases hj : j < n
    · refine bool_ext ⟨fun e => ?_, fun e => ?_⟩
      · have m : j ∈ frs n g i := mem_frs.mpr ⟨hj, e⟩
        rw [h i hi] at m
        exact (mem_frs.mp m).2
      · have m : j ∈ frs n g' i := mem_frs.mpr ⟨hj, e⟩
        rw [← h i hi] at m
        exact (mem_frs.mp m).2
    · cases e : g i j with
      | true => exact absurd (o.lt2 e) hj
      | false =>
        cases e' : g' i j with
        | true => exact absurd (o'.lt2 e') hj
        | false => rfl
  · cases e : g i j with
    | true => exact absurd (o.lt _ _ e) hi
    | false =>
      cases e' : g' i j with
      | true => exact absurd (o'.lt _ _ e') hi
      | false => rfl
theorem rows_ext {n : Nat} {g g' : Adj} (o : Ok n g) (o' : Ok n g') (h : (List.range n).map (fun i => up (frs n g i)) = (List.range n).map fun i => up (frs n g' i)) : g = g' :=
  frs_ext o o' fun i hi => up_inj.mp (List.map_inj_left.mp h i (List.mem_range.mpr hi))
theorem gDs_rows (n : Nat) (g : Adj) : gDs n g = ((List.range n).map fun i => up (frs n g i)).map tI := by
  rw [List.map_map]
  exact List.map_congr_left fun i _ => tN_up _
theorem eqv_gD {n : Nat} {g g' : Adj} (o : Ok n g) (o' : Ok n g') : PyData.eqv (gD n g) (gD n g') = true ↔ g = g' := by
  show PyData.eqv (.tuple _) (.tuple _) = true ↔ _
  simp only [PyData.eqv]
  rw [gDs_rows, gDs_rows, eqv_map eqv_tI, decide_eq_true_eq]
  exact ⟨rows_ext o o', fun h => by rw [h]⟩
theorem tI_inj {a b : List Int} (h : tI a = tI b) : a = b := by
  have h2 := eqv_tI a b
  rw [h, eqv_tI] at h2
  simpa using h2.symm
theorem gD_inj {n : Nat} {g g' : Adj} (o : Ok n g) (o' : Ok n g') (h : gD n g = gD n g') : g = g' := by
  have h2 := (eqv_gD o o).mpr rfl
  rw [← eqv_gD o o', ← h]
  exact h2
theorem tN_inj {a b : List Nat} (h : tN a = tN b) : a = b := up_inj.mp (tI_inj (by rw [← tN_up, ← tN_up]; exact h))
theorem nI_inj {a b : Nat} (h : nI a = nI b) : a = b := by
  injection h with h
  exact Int.ofNat.inj h
theorem pD_inj {a b : Nat × Nat} (h : pD a = pD b) : a = b := by
  injection h with h
  injection h with h1 h2
  injection h2 with h2 _
  exact Prod.ext (nI_inj h1) (nI_inj h2)
theorem str_inj {a b : Str} (h : PyData.str a = PyData.str b) : a = b := by
  injection h
theorem eqv_nis (a b : List Nat) : PyData.eqv (.list (nis a)) (.list (nis b)) = decide (a = b) := by
  rw [nis_up, nis_up, eqv_ints]
  exact decide_eq_decide.mpr up_inj
theorem eqv_tN (a b : List Nat) : PyData.eqv (tN a) (tN b) = decide (a = b) := by
  rw [tN_up, tN_up, eqv_tI]
  exact decide_eq_decide.mpr up_inj
theorem shaped_nis (l : List Nat) : SeqAt.shaped (.list (nis l)) = true := (Sh.lst (Sh.map fun i _ => .int _)).ok
/-! ### the least -/
section
variable {β : Type} {Le' : PyData → PyData → Prop}
theorem minD_le (rf : ∀ a, Le' a a) (tr : ∀ a b c, Le' a b → Le' b c → Le' a c) : ∀ (xs : List PyData) (x : PyData), (∀ a ∈ x :: xs, ∀ b ∈ x :: xs, (PySem.W.dataLt a b = true → Le' a b) ∧ (PySem.W.dataLt a b = false → Le' b a)) → ∀ d ∈ x :: xs, Le' (PySem.W.minD x xs) d
  | [], x, _, d, hd => by
    rw [List.mem_singleton.mp hd]
    exact rf _
  | y :: xs, x, h, d, hd => by
    have hx : x ∈ x :: y :: xs := List.mem_cons_self ..
    have hy : y ∈ x :: y :: xs := List.mem_cons_of_mem _ (List.mem_cons_self ..)
    have hxs : ∀ z ∈ xs, z ∈ x :: y :: xs := fun z hz => List.mem_cons_of_mem _ (List.mem_cons_of_mem _ hz)
    show Le' (PySem.W.minD (if PySem.W.dataLt y x = true then y else x) xs) d
    cases e : PySem.W.dataLt y x with
    | true =>
      rw [if_pos rfl]
      have ih := minD_le rf tr xs y fun a ha b hb => h a ((List.mem_cons.mp ha).elim (fun q => q ▸ hy) (hxs a)) b ((List.mem_cons.mp hb).elim (fun q => q ▸ hy) (hxs b))
      rcases List.mem_cons.mp hd with rfl | hd
      · exact tr _ _ _ (ih y (List.mem_cons_self ..)) ((h y hy d hx).1 e)
      · exact ih d hd
    | false =>
      rw [if_neg Bool.false_ne_true]
      have ih := minD_le rf tr xs x fun a ha b hb => h a ((List.mem_cons.mp ha).elim (fun q => q ▸ hx) (hxs a)) b ((List.mem_cons.mp hb).elim (fun q => q ▸ hx) (hxs b))
      rcases List.mem_cons.mp hd with rfl | hd
      · exact ih d (List.mem_cons_self ..)
      · rcases List.mem_cons.mp hd with rfl | hd
        · exact tr _ _ _ (ih x (List.mem_cons_self ..)) ((h d hy x hx).2 e)
        · exact ih d (List.mem_cons_of_mem _ hd)
end
def fstI : PyData → Int
  | .tuple (.int i :: _) => i
  | .int i => i
  | _ => 0
def sndI : PyData → Int
  | .tuple [_, .int i] => i
  | _ => 0
/-- pairs by a number, and alike data -/
def PairI (d : PyData) : Prop := ∃ i y, d = .tuple [.int i, y]
theorem lt_fst {a b : PyData} (h : PySem.W.alike a b = true) (pa : PairI a) (pb : PairI b) : (PySem.W.dataLt a b = true → fstI a ≤ fstI b) ∧ (PySem.W.dataLt a b = false → fstI b ≤ fstI a) := by
  obtain ⟨i, y, rfl⟩ := pa
  obtain ⟨j, z, rfl⟩ := pb
  have hy : PySem.W.alike y z = true := by
    simpa [PySem.W.alike, PySem.W.alikeAll] using h
  rw [PySem.W.dataLt_pair (by simp [PySem.W.alike]) hy, PySem.W.dataLt_int, eqv_int]
  show (_ → i ≤ j) ∧ (_ → j ≤ i)
  by_cases e : i = j
  · subst e
    exact ⟨fun _ => Int.le_refl _, fun _ => Int.le_refl _⟩
  · rw [decide_eq_false e, if_neg Bool.false_ne_true]
    constructor
    · intro q
      have := of_decide_eq_true q
      omega
    · intro q
      have := of_decide_eq_false q
      omega
theorem minD_fst {x : PyData} {xs : List PyData} (h : PySem.W.AlikeAll (x :: xs)) (hp : ∀ d ∈ x :: xs, PairI d) : ∀ d ∈ x :: xs, fstI (PySem.W.minD x xs) ≤ fstI d :=
  minD_le (Le' := fun a b => fstI a ≤ fstI b) (fun _ => Int.le_refl _) (fun _ _ _ => Int.le_trans) xs x fun a ha b hb => lt_fst (h.1 a ha b hb) (hp a ha) (hp b hb)
theorem minD_int {x : PyData} {xs : List PyData} (hp : ∀ d ∈ x :: xs, ∃ i, d = .int i) : ∀ d ∈ x :: xs, fstI (PySem.W.minD x xs) ≤ fstI d :=
  minD_le (Le' := fun a b => fstI a ≤ fstI b) (fun _ => Int.le_refl _) (fun _ _ _ => Int.le_trans) xs x fun a ha b hb => by
    obtain ⟨i, rfl⟩ := hp a ha
    obtain ⟨j, rfl⟩ := hp b hb
    rw [PySem.W.dataLt_int]
    show (_ → i ≤ j) ∧ (_ → j ≤ i)
    constructor
    · intro q
      have := of_decide_eq_true q
      omega
    · intro q
      have := of_decide_eq_false q
      omega
def PairII (d : PyData) : Prop := ∃ i j : Int, d = .tuple [.int i, .int j]
theorem minD_ii {x : PyData} {xs : List PyData} (hp : ∀ d ∈ x :: xs, PairII d) : ∀ d ∈ x :: xs, fstI (PySem.W.minD x xs) < fstI d ∨ (fstI (PySem.W.minD x xs) = fstI d ∧ sndI (PySem.W.minD x xs) ≤ sndI d) :=
  minD_le (Le' := fun a b => fstI a < fstI b ∨ (fstI a = fstI b ∧ sndI a ≤ sndI b)) (fun _ => .inr ⟨rfl, Int.le_refl _⟩) (fun _ _ _ h1 h2 => by omega) xs x fun a ha b hb => by
    obtain ⟨i, j, rfl⟩ := hp a ha
    obtain ⟨k, l, rfl⟩ := hp b hb
    rw [PySem.W.dataLt_ii]
    show (_ → i < k ∨ (i = k ∧ j ≤ l)) ∧ (_ → k < i ∨ (k = i ∧ l ≤ j))
    constructor
    · intro q
      have := of_decide_eq_true q
      omega
    · intro q
      have := of_decide_eq_false q
      omega
theorem alikeAll_of {α : Type} {f : α → PyData} {l : List α} (h : ∀ a ∈ l, ∀ b ∈ l, PySem.W.alike (f a) (f b) = true) (hn : ∀ a ∈ l, f a ≠ .none) : PySem.W.AlikeAll (l.map f) := ⟨fun x hx y hy => by
  obtain ⟨a, ha, rfl⟩ := List.mem_map.mp hx
  obtain ⟨b, hb, rfl⟩ := List.mem_map.mp hy
  exact h a ha b hb, fun x hx => by
  obtain ⟨a, ha, rfl⟩ := List.mem_map.mp hx
  exact hn a ha⟩
theorem alike_ints : ∀ a b : List Int, PySem.W.alikeAll (a.map .int) (b.map .int) = true
  | [], [] => by simp [PySem.W.alikeAll]
  | [], _ :: _ => by simp [PySem.W.alikeAll]
  | _ :: _, [] => by simp [PySem.W.alikeAll]
  | x :: a, y :: b => by
    simp only [List.map_cons, PySem.W.alikeAll, PySem.W.alike, alike_ints a b, Bool.and_true]
/-- the least of pairs, from a list that is not empty -/
theorem min_pairs {α : Type} {f : α → PyData} {l : List α} {k : W → Prop} (hl : l ≠ []) (al : ∀ a ∈ l, ∀ b ∈ l, PySem.W.alike (f a) (f b) = true) (hp : ∀ a ∈ l, PairI (f a)) (hs : ∀ a ∈ l, Sh 60 (f a))
    (h : ∀ a ∈ l, (∀ b ∈ l, fstI (f a) ≤ fstI (f b)) → k (.d (f a))) : fMin (.l (l.map f)) k := by
  cases l with
  | nil => exact absurd rfl hl
  | cons x xs =>
    have ha : PySem.W.AlikeAll (f x :: xs.map f) := alikeAll_of (l := x :: xs) al fun a ha e => by
      obtain ⟨i, y, q⟩ := hp a ha
      rw [q] at e
      cases e
    refine ⟨f x, xs.map f, .inl rfl, ha, dep_all fun d hd => ?_, ?_⟩
    · obtain ⟨a, ha, rfl⟩ := List.mem_map.mp (show d ∈ (x :: xs).map f from hd)
      exact (hs a ha).dep
    · have hm := minD_mem (f x) (xs.map f)
      obtain ⟨a, ha1, e⟩ := List.mem_map.mp (show PySem.W.minD (f x) (xs.map f) ∈ (x :: xs).map f from hm)
      rw [← e]
      refine h a ha1 fun b hb => ?_
      rw [e]
      exact minD_fst ha (fun d hd => by
        obtain ⟨c, hc, rfl⟩ := List.mem_map.mp (show d ∈ (x :: xs).map f from hd)
        exact hp c hc) _ (List.mem_map_of_mem (f := f) hb)
theorem min_ii {α : Type} {f : α → PyData} {l : List α} {k : W → Prop} (hl : l ≠ []) (hp : ∀ a ∈ l, PairII (f a))
    (h : ∀ a ∈ l, (∀ b ∈ l, fstI (f a) < fstI (f b) ∨ (fstI (f a) = fstI (f b) ∧ sndI (f a) ≤ sndI (f b))) → k (.d (f a))) : fMin (.l (l.map f)) k := by
  cases l with
  | nil => exact absurd rfl hl
  | cons x xs =>
    have ha : PySem.W.AlikeAll (f x :: xs.map f) := alikeAll_of (l := x :: xs) (fun a ha b hb => by
      obtain ⟨i, j, e⟩ := hp a ha
      obtain ⟨k, m, e2⟩ := hp b hb
      rw [e, e2]
      simp [PySem.W.alike, PySem.W.alikeAll]) fun a ha e => by
      obtain ⟨i, y, q⟩ := hp a ha
      rw [q] at e
      cases e
    refine ⟨f x, xs.map f, .inl rfl, ha, dep_all fun d hd => ?_, ?_⟩
    · obtain ⟨a, ha, rfl⟩ := List.mem_map.mp (show d ∈ (x :: xs).map f from hd)
      obtain ⟨i, j, e⟩ := hp a ha
      rw [e]
      simp [PyData.depth, PyData.depthAll]
    · have hm := minD_mem (f x) (xs.map f)
      obtain ⟨a, ha1, e⟩ := List.mem_map.mp (show PySem.W.minD (f x) (xs.map f) ∈ (x :: xs).map f from hm)
      rw [← e]
      refine h a ha1 fun b hb => ?_
      rw [e]
      exact minD_ii (fun d hd => by
        obtain ⟨c, hc, rfl⟩ := List.mem_map.mp (show d ∈ (x :: xs).map f from hd)
        exact hp c hc) _ (List.mem_map_of_mem (f := f) hb)
theorem min_int {α : Type} {f : α → Int} {l : List α} {k : W → Prop} (hl : l ≠ []) (h : ∀ a ∈ l, (∀ b ∈ l, f a ≤ f b) → k (.d (.int (f a)))) : fMin (.l (l.map fun a => .int (f a))) k := by
  cases l with
  | nil => exact absurd rfl hl
  | cons x xs =>
    have ha : PySem.W.AlikeAll ((x :: xs).map fun a => PyData.int (f a)) := alikeAll_of (l := x :: xs) (fun a ha b hb => by simp [PySem.W.alike]) fun a ha e => by cases e
    refine ⟨.int (f x), xs.map fun a => .int (f a), .inl rfl, ha, dep_all (k := 60) fun d hd => ?_, ?_⟩
    · obtain ⟨a, ha, rfl⟩ := List.mem_map.mp (show d ∈ (x :: xs).map fun a => PyData.int (f a) from hd)
      simp [PyData.depth]
    · have hm := minD_mem (.int (f x)) (xs.map fun a => .int (f a))
      obtain ⟨a, ha1, e⟩ := List.mem_map.mp (show PySem.W.minD (.int (f x)) (xs.map fun a => .int (f a)) ∈ (x :: xs).map fun a => PyData.int (f a) from hm)
      rw [← e]
      refine h a ha1 fun b hb => ?_
      have := minD_int (x := .int (f x)) (xs := xs.map fun a => .int (f a)) (fun d hd => by
        obtain ⟨c, hc, rfl⟩ := List.mem_map.mp (show d ∈ (x :: xs).map fun a => PyData.int (f a) from hd)
        exact ⟨_, rfl⟩) (.int (f b)) (List.mem_map_of_mem (f := fun a => PyData.int (f a)) hb)
      rw [← e] at this
      exact this
/-! ### sorted -/
theorem le_int (a b : Int) : PySem.W.dataLe false id (.int a) (.int b) = decide (a ≤ b) := by
  show (!PySem.W.dataLt (.int b) (.int a)) = _
  rw [PySem.W.dataLt_int]
  by_cases h : b < a
  · simp [h, show ¬ a ≤ b by omega]
  · simp [h, show a ≤ b by omega]
theorem sort_map {α : Type} (f : α → PyData) (l : List α) : ∃ l' : List α, l'.Perm l ∧ (l.map f).mergeSort (PySem.W.dataLe false id) = l'.map f := by
  refine ⟨l.mergeSort fun a b => PySem.W.dataLe false id (f a) (f b), List.mergeSort_perm _ _, ?_⟩
  rw [List.map_mergeSort]
  intro a _ b _
  rfl
theorem sort_ints {l : List Nat} (nd : l.Nodup) : ∃ S : List Nat, S.Pairwise (· < ·) ∧ (∀ x, x ∈ S ↔ x ∈ l) ∧ (nis l).mergeSort (PySem.W.dataLe false id) = nis S := by
  have hp := List.mergeSort_perm l fun a b => decide (a ≤ b)
  refine ⟨l.mergeSort fun a b => decide (a ≤ b), ?_, fun x => hp.mem_iff, ?_⟩
  · have h1 := List.pairwise_mergeSort (le := fun a b : Nat => decide (a ≤ b)) (fun a b c h1 h2 => by simp at *; omega) (fun a b => by simp; omega) l
    have h2 := hp.nodup_iff.mpr nd
    have h3 := List.Pairwise.and h1 h2
    exact h3.imp fun ⟨a, b⟩ => by
      simp at a
      omega
  · show (l.map nI).mergeSort _ = List.map nI _
    rw [List.map_mergeSort]
    intro a _ b _
    rw [le_int]
    simp
theorem sorted_int {l : List Nat} {k : W → Prop} {w : W} (nd : l.Nodup) (hw : w = .l (nis l) ∨ w = .d (tN l)) (h : ∀ S : List Nat, S.Pairwise (· < ·) → (∀ x, x ∈ S ↔ x ∈ l) → k (.l (nis S))) : fSorted w k := by
  refine ⟨nis l, hw, fun d hd d' hd' => ?_, .inl (.inr fun d hd => ?_), fun d hd => ?_, ?_⟩
  · obtain ⟨i, _, rfl⟩ := List.mem_map.mp hd
    obtain ⟨j, _, rfl⟩ := List.mem_map.mp hd'
    simp [PySem.W.alike]
  · obtain ⟨i, _, rfl⟩ := List.mem_map.mp hd
    exact ⟨fun e => (nomatch e), fun xs e => nomatch e⟩
  · obtain ⟨i, _, rfl⟩ := List.mem_map.mp hd
    simp [PyData.depth]
  · obtain ⟨S, h1, h2, e⟩ := sort_ints nd
    rw [e]
    exact h S h1 h2
/-- two sorted rows of the same places are one -/
theorem sorted_ext : ∀ {a b : List Nat}, a.Pairwise (· < ·) → b.Pairwise (· < ·) → (∀ x, x ∈ a ↔ x ∈ b) → a = b
  | [], [], _, _, _ => rfl
  | [], y :: b, _, _, h => absurd ((h y).mpr (List.mem_cons_self ..)) (fun z => nomatch z)
  | x :: a, [], _, _, h => absurd ((h x).mp (List.mem_cons_self ..)) (fun z => nomatch z)
  | x :: a, y :: b, ha, hb, h => by
    obtain ⟨a1, a2⟩ := List.pairwise_cons.mp ha
    obtain ⟨b1, b2⟩ := List.pairwise_cons.mp hb
    have e : x = y := by
      rcases List.mem_cons.mp ((h x).mp (List.mem_cons_self ..)) with q | q
      · exact q
      · rcases List.mem_cons.mp ((h y).mpr (List.mem_cons_self ..)) with r | r
        · exact r.symm
        · have := a1 y r
          have := b1 x q
          omega
    subst e
    rw [sorted_ext a2 b2 fun z => ?_]
    constructor
    · intro hz
      rcases List.mem_cons.mp ((h z).mp (List.mem_cons_of_mem _ hz)) with q | q
      · subst q
        exact absurd (a1 z hz) (Nat.lt_irrefl _)
      · exact q
    · intro hz
      rcases List.mem_cons.mp ((h z).mpr (List.mem_cons_of_mem _ hz)) with q | q
      · subst q
        exact absurd (b1 z hz) (Nat.lt_irrefl _)
      · exact q
/-! ### comprehensions over known places -/
/-- the heart of a comprehension -/
def lcB (xs : List PyData) (dg : DG) (tt : DB) (te : DT) (ρ : Rho) (R : W → Nat → Prop) : Prop := ∃ (sel : PyData → Bool) (f : PyData → PyData),
    (∀ (i : Nat) (x : PyData), xs[i]? = some x → dg x ρ fun ρ' => tt ρ' fun b => b = sel x ∧ (b = true → te ρ' fun w _ => w = .d (f x))) ∧ R (.l ((xs.filter sel).map f)) 2
theorem dLc_eq (it : DI) (dg : DG) (tt : DB) (te : DT) (vs : List Nat) (ρ : Rho) (R : W → Nat → Prop) : dLc it dg tt te vs ρ R = it ρ fun xs _ => xs.length ≤ 100000 ∧ lcB xs dg tt te (wipeR ρ vs) R := rfl
/-- .. of two clauses -/
def lcI (ys : List PyData) (dg1 : DG) (tt1 : DB) (te : DT) (ρ : Rho) (zs : List PyData) : Prop := ∃ (sel : PyData → Bool) (f : PyData → PyData),
    (∀ (j : Nat) (y : PyData), ys[j]? = some y → dg1 y ρ fun ρ2 => tt1 ρ2 fun b => b = sel y ∧ (b = true → te ρ2 fun w _ => w = .d (f y))) ∧ zs = (ys.filter sel).map f
def lcO (xs : List PyData) (dg : DG) (it1 : DI) (dg1 : DG) (tt1 : DB) (te : DT) (vs1 : List Nat) (ρ : Rho) (R : W → Nat → Prop) : Prop := ∃ g : PyData → List PyData,
    (∀ (i : Nat) (x : PyData), xs[i]? = some x → dg x ρ fun ρ' => it1 ρ' fun ys n => n ≠ 1 ∧ ys.length ≤ 300 ∧ lcI ys dg1 tt1 te (wipeR ρ' vs1) (g x)) ∧ (∀ x ∈ xs, (g x).length ≤ 300) ∧ R (.l (xs.flatMap g)) 2
theorem dLc2_eq (it : DI) (dg : DG) (it1 : DI) (dg1 : DG) (tt1 : DB) (te : DT) (vs vs1 : List Nat) (ρ : Rho) (R : W → Nat → Prop) : dLc2 it dg it1 dg1 tt1 te vs vs1 ρ R = it ρ fun xs _ => xs.length ≤ 300 ∧ lcO xs dg it1 dg1 tt1 te vs1 (wipeR ρ vs) R := rfl
theorem lcM {α : Type} {enc : α → PyData} {l : List α} (s : α → Bool) (F : α → PyData) (inj : ∀ a ∈ l, ∀ b ∈ l, enc a = enc b → a = b) {dg : DG} {tt : DB} {te : DT} {ρ : Rho} {R : W → Nat → Prop}
    (hb : ∀ a ∈ l, dg (enc a) ρ fun ρ' => tt ρ' fun b => b = s a ∧ (b = true → te ρ' fun w _ => w = .d (F a))) (r : R (.l ((l.filter s).map F)) 2) : lcB (l.map enc) dg tt te ρ R := by
  classical
  let back : PyData → Option α := fun x => l.find? fun a => decide (enc a = x)
  have hback : ∀ a ∈ l, back (enc a) = some a := fun a ha => by
    show l.find? _ = _
    cases e : l.find? (fun b => decide (enc b = enc a)) with
    | none =>
      have := List.find?_eq_none.mp e a ha
      simp at this
    | some b =>
      have h1 := List.find?_some e
      have h2 := List.mem_of_find?_eq_some e
      rw [inj b h2 a ha (by simpa using h1)]
  have h1 : ((l.map enc).filter fun x => (back x).elim false s).map (fun x => (back x).elim .none F) = (l.filter s).map F := by
    rw [List.filter_map, List.map_map]
    have e1 : l.filter ((fun x => (back x).elim false s) ∘ enc) = l.filter s := List.filter_congr fun a ha => by
      show (back (enc a)).elim false s = s a
      rw [hback a ha]
      rfl
    rw [e1]
    refine List.map_congr_left fun a ha => ?_
    show (back (enc a)).elim .none F = F a
    rw [hback a (List.mem_filter.mp ha).1]
    rfl
  refine ⟨fun x => (back x).elim false s, fun x => (back x).elim .none F, fun i x hx => ?_, by rw [h1]; exact r⟩
  obtain ⟨a, ha, rfl⟩ := List.mem_map.mp (List.mem_of_getElem? hx)
  simp only [hback a ha]
  exact hb a ha
theorem lcC {α : Type} {enc : α → PyData} {l : List α} (s : α → Bool) (F : α → PyData) (inj : ∀ a ∈ l, ∀ b ∈ l, enc a = enc b → a = b) {dg : DG} {tt : DB} {te : DT} {ρ : Rho}
    (hb : ∀ a ∈ l, dg (enc a) ρ fun ρ' => tt ρ' fun b => b = s a ∧ (b = true → te ρ' fun w _ => w = .d (F a))) : lcI (l.map enc) dg tt te ρ ((l.filter s).map F) := by
  obtain ⟨sel, f, h1, h2⟩ := lcM (R := fun w _ => w = .l ((l.filter s).map F)) s F inj hb rfl
  injection h2 with h2
  exact ⟨sel, f, h1, h2.symm⟩
/-- two clauses -/
theorem lc2M {α : Type} {enc : α → PyData} {l : List α} (G : α → List PyData) (inj : ∀ a ∈ l, ∀ b ∈ l, enc a = enc b → a = b) {dg : DG} {it1 : DI} {dg1 : DG} {tt1 : DB} {te : DT} {vs1 : List Nat} {ρ : Rho} {R : W → Nat → Prop}
    (hb : ∀ a ∈ l, dg (enc a) ρ fun ρ' => it1 ρ' fun ys n => n ≠ 1 ∧ ys.length ≤ 300 ∧ lcI ys dg1 tt1 te (wipeR ρ' vs1) (G a)) (hl : ∀ a ∈ l, (G a).length ≤ 300) (r : R (.l (l.flatMap G)) 2) : lcO (l.map enc) dg it1 dg1 tt1 te vs1 ρ R := by
  classical
  let back : PyData → Option α := fun x => l.find? fun a => decide (enc a = x)
  have hback : ∀ a ∈ l, back (enc a) = some a := fun a ha => by
    show l.find? _ = _
    cases e : l.find? (fun b => decide (enc b = enc a)) with
    | none =>
      have := List.find?_eq_none.mp e a ha
      simp at this
    | some b =>
      have h1 := List.find?_some e
      have h2 := List.mem_of_find?_eq_some e
      rw [inj b h2 a ha (by simpa using h1)]
  have hg : ∀ a ∈ l, (back (enc a)).elim [] G = G a := fun a ha => by rw [hback a ha]; rfl
  refine ⟨fun x => (back x).elim [] G, fun i x hx => ?_, fun x hx => ?_, ?_⟩
  · obtain ⟨a, ha, rfl⟩ := List.mem_map.mp (List.mem_of_getElem? hx)
    simp only [hg a ha]
    exact hb a ha
  · obtain ⟨a, ha, rfl⟩ := List.mem_map.mp hx
    show ((back (enc a)).elim [] G).length ≤ 300
    rw [hg a ha]
    exact hl a ha
  · have e : (l.map enc).flatMap (fun x => (back x).elim [] G) = l.flatMap G := by
      rw [List.flatMap_map]
      unfold List.flatMap
      congr 1
      exact List.map_congr_left fun a ha => hg a ha
    rw [e]
    exact r
end Wk

/-! part LawR -/
set_option linter.all false
namespace Wk
open PySem PySem.Spec PyProof.Rows L2 Dw Gg
def sl_0 : DS := (dPar 3 4 (dCall sp_greedy_row (dCons (dVar 2) dNil)) (dCall sp_calls_to_rest (dCons (dVar 2) dNil)))
def sl_1 : DS := (dIfS (dOr (dTst (dOp fNe (dVar 3) (dCall sp_ruled_row (dCons (dVar 2) (dCons (dC (.str (PySem.Str.ofString "many"))) dNil))))) (dTst (dOp fNe (dCall sp_after (dCons (dVar 2) (dCons (dVar 3) dNil))) (dCall sp_last_web (dCons (dVar 2) dNil))))) (dRet (dC (.bool false))) dNext)
def sl_2 : DS := (dIfS (dOr (dTst (dOp fLt (dU fLen (dVar 3)) (dVar 4))) (dTst (dOp fNe (dU fLenSet (dVar 3)) (dU fLen (dVar 3))))) (dRet (dC (.bool false))) dNext)
def sl_3 : DS := (dIfS (dTst (dOp fNe (dLc (dItT (dCall sp_cut_people (dCons (dVar 2) dNil))) (gdName 9) (dTst (dOp (fIn true) (dVar 9) (dVar 3))) (dVar 9) [9]) (dLst dNil))) (dRet (dC (.bool false))) dNext)
def sl_4 : DS := (dIfS (dNot (dTst (dCall sp_joins_all (dCons (dVar 2) (dCons (dU fTuple (dU fSorted (dVar 3))) dNil))))) (dRet (dC (.bool false))) dNext)
def sl_5 : DS := (dAsg (dCall sp_gains (dCons (dVar 2) (dCons (dVar 3) dNil))) 5)
def sl_6 : DS := (dIfS (dAnd (dTst (dOp fNe (dVar 3) (dTup dNil))) (dOr (dTst (dOp fNe (dOp fIxT (dVar 5) (dC (.int 0))) (dOp fIxT (dCall sp_most_new (dCons (dVar 2) dNil)) (dC (.int 0))))) (dOr (dTst (dOp fNe (dOp fIxT (dVar 3) (dC (.int 0))) (dOp fIxT (dCall sp_most_new (dCons (dVar 2) dNil)) (dC (.int 1))))) (dTst (dOp fLt (dU fMin (dVar 5)) (dC (.int 1))))))) (dRet (dC (.bool false))) dNext)
def sl_7 : DS := (dIfS (dTst (dOp fNe (dU fSum (dVar 5)) (dU fSum (dCall sp_count_made (dCons (dVar 2) (dCons (dVar 3) dNil)))))) (dRet (dC (.bool false))) dNext)
def sl_8 : DS := (dIfS (dAnd (dTst (dOp fNe (dVar 3) (dTup dNil))) (dTst (dOp fNe (dCall sp_count_pairs (dCons (dCall sp_call (dCons (dVar 2) (dCons (dOp fIxT (dVar 3) (dC (.int 0))) dNil))) dNil)) (dOp fIxT (dCall sp_most_pairs_by (dCons (dVar 2) (dCons (dC (.int 1)) dNil))) (dC (.int 0)))))) (dRet (dC (.bool false))) dNext)
def sl_9 : DS := (dFor (dRng1 (dOp fAdd (dVar 4) (dC (.int 1)))) (gdName 6) (dSeq (dAsgG (dCall sp_most_pairs_by (dCons (dVar 2) (dCons (dVar 6) dNil))) (gdTup2 7 8))
    (dSeq (dIfS (dOr (dTst (dOp fGt (dCall sp_count_pairs (dCons (dCall sp_after (dCons (dVar 2) (dCons (dCut (dVar 3) (dVar 6)) dNil))) dNil)) (dVar 7))) (dTst (dOp fGt (dCall sp_calls_to_pairs (dCons (dVar 2) (dCons (dVar 7) dNil))) (dVar 6)))) (dRet (dC (.bool false))) dNext)
    (dIfS (dTst (dOp fNe (dCall sp_count_pairs (dCons (dCall sp_told (dCons (dVar 2) (dCons (dVar 8) dNil))) dNil)) (dVar 7))) (dRet (dC (.bool false))) dNext))))
def sl_10 : DS := (dIfS (dOr (dTst (dOp fLt (dOp fIxT (dCall sp_best_rule (dCons (dVar 2) dNil)) (dC (.int 0))) (dVar 4))) (dTst (dOp fGt (dOp fIxT (dCall sp_best_rule (dCons (dVar 2) dNil)) (dC (.int 0))) (dU fLen (dVar 3))))) (dRet (dC (.bool false))) dNext)
def sl_11 : DS := (dIfS (dTst (dOp fNotInD (dTup (dCons (dU fLen (dVar 3)) (dCons (dC (.str (PySem.Str.ofString "many"))) dNil))) (dLc (dItT (dCall sp_rule_lengths (dCons (dVar 2) dNil))) (gdTup2 10 6) dYes (dTup (dCons (dVar 6) (dCons (dVar 10) dNil))) [10, 6]))) (dRet (dC (.bool false))) dNext)
def sl_12 : DS := (dIfS (dTst (dOp fNe (dLc (dItL (dCall sp_least_joining (dCons (dVar 2) dNil))) (gdName 8) (dTst (dOp fGt (dU fLen (dVar 8)) (dU fLen (dVar 3)))) (dVar 8) [8]) (dLst dNil))) (dRet (dC (.bool false))) dNext)
def sl_13 : DS := (dRet (dOp fEq (dCall sp_greedy_row (dCons (dCall sp_last_web (dCons (dVar 2) dNil)) dNil)) (dTup dNil)))
def t_law : DS := (dSeq sl_0 (dSeq sl_1 (dSeq sl_2 (dSeq sl_3 (dSeq sl_4 (dSeq sl_5 (dSeq sl_6 (dSeq sl_7 (dSeq sl_8 (dSeq sl_9 (dSeq sl_10 (dSeq sl_11 (dSeq sl_12 sl_13)))))))))))))
end Wk

/-! part SemA -/
set_option Elab.async false
set_option linter.all false
set_option maxRecDepth 100000
set_option maxHeartbeats 4000000
namespace Wk
open PySem PySem.Spec PyProof.Rows L2 Dw Gg
/-! ### rules of reading -/
theorem ex_gD {n : Nat} {g : Adj} {P : List PyData → Prop} : (∃ xs, gD n g = .tuple xs ∧ P xs) ↔ P (gDs n g) :=
  ⟨fun ⟨xs, e, h⟩ => by cases e; exact h, fun h => ⟨_, rfl, h⟩⟩
theorem ex_tN {l : List Nat} {P : List PyData → Prop} : (∃ xs, tN l = .tuple xs ∧ P xs) ↔ P (nis l) :=
  ⟨fun ⟨xs, e, h⟩ => by cases e; exact h, fun h => ⟨_, rfl, h⟩⟩
theorem ex_pair {a b : PyData} {P : PyData → PyData → Prop} : (∃ y z, [a, b] = [y, z] ∧ P y z) ↔ P a b := ⟨fun ⟨y, z, e, h⟩ => by cases e; exact h, fun h => ⟨a, b, rfl, h⟩⟩
theorem ex_trip {a b c : PyData} {P : PyData → PyData → PyData → Prop} : (∃ y z u, [a, b, c] = [y, z, u] ∧ P y z u) ↔ P a b c := ⟨fun ⟨y, z, u, e, h⟩ => by cases e; exact h, fun h => ⟨a, b, c, rfl, h⟩⟩
theorem gDs_len (n : Nat) (g : Adj) : (gDs n g).length = n := by simp [gDs]
theorem nis_len (l : List Nat) : (nis l).length = l.length := by simp
theorem fLen_gD {n : Nat} {g : Adj} {k : W → Prop} : fLen (.d (gD n g)) k = k (.d (nI n)) := by
  show k (.d (.int ((gDs n g).length : Int))) = _
  rw [gDs_len]
theorem fLen_tN {l : List Nat} {k : W → Prop} : fLen (.d (tN l)) k = k (.d (nI l.length)) := by
  show k (.d (.int ((nis l).length : Int))) = _
  rw [nis_len]
theorem fLen_l {xs : List PyData} {k : W → Prop} : fLen (.l xs) k = k (.d (nI xs.length)) := rfl
theorem fI2_eq {f : Int → Int → PyData} {i j : Int} {k : W → Prop} : fI2 f (.d (.int i)) (.d (.int j)) k = k (.d (f i j)) := rfl
theorem fNeg_eq {i : Int} {k : W → Prop} : fNeg (.d (.int i)) k = k (.d (.int (-i))) := rfl
theorem fTuple_l {xs : List PyData} {k : W → Prop} : fTuple (.l xs) k = k (.d (.tuple xs)) := rfl
theorem fTuple_nis {xs : List Nat} {k : W → Prop} : fTuple (.l (nis xs)) k = k (.d (tN xs)) := rfl
theorem fList_l {xs : List PyData} {k : W → Prop} : fList (.l xs) k = k (.l xs) := rfl
theorem fList_tN {l : List Nat} {k : W → Prop} : fList (.d (tN l)) k = k (.l (nis l)) := rfl
theorem fCat_eq {xs ys : List PyData} {k : W → Prop} : fCat (.l xs) (.l ys) k = (xs.length + ys.length ≤ 100000 ∧ k (.l (xs ++ ys))) := rfl
theorem unD_nil : unD [] = some [] := rfl
theorem unD_d {x : PyData} {ws : List W} : unD (.d x :: ws) = (unD ws).map (x :: ·) := rfl
theorem retOk_d {x : PyData} {n : Nat} : (retOk (.d x) n = true) = True := by simp [retOk]
theorem retOk_1 {x : List PyData} : (retOk (.l x) 1 = true) = True := by simp [retOk]
theorem retOk_2 {x : List PyData} : (retOk (.l x) 2 = true) = True := by simp [retOk]
theorem asgOk_d {x : PyData} {n : Nat} : (asgOk (.d x) n = true) = True := by simp [asgOk]
theorem asgOk_2 {x : List PyData} : (asgOk (.l x) 2 = true) = True := by simp [asgOk]
theorem len100 : (0 ≤ 100000) = True := by simp
theorem ge1 : decide (1 ≤ 1) = true := rfl
theorem ge2 : decide (2 ≤ 2) = true := rfl
theorem one_ne : (2 ≠ 1) = True := by simp
theorem two_ne : (0 ≠ 1) = True := by simp
theorem isT_ii (i : Int) : isT "int" (.d (.int i)) = some true := by rfl
theorem isT_ib (i : Int) : isT "bool" (.d (.int i)) = some false := by
  show L2.kitB "int" "bool" = some false
  decide +kernel
theorem isT_tt (xs : List PyData) : isT "tuple" (.d (.tuple xs)) = some true := by rfl
theorem isT_ss (s : Str) : isT "str" (.d (.str s)) = some true := by rfl
theorem is_integer_eq {i : Int} {R : W → Prop} : sp_is_integer [.d (.int i)] R ↔ R (.d (.bool true)) := ⟨fun ⟨_, e, h⟩ => h, fun h => ⟨i, rfl, h⟩⟩
theorem is_in_eq {v a b : Int} {R : W → Prop} : sp_is_in [.d (.int v), .d (.int a), .d (.int b)] R ↔ R (.d (.bool (decide (a ≤ v) && decide (v ≤ b)))) := ⟨fun ⟨_, _, _, e, h⟩ => by cases e; exact h, fun h => ⟨v, a, b, rfl, h⟩⟩
theorem is_list_eq {xs : List PyData} {a b : Int} {R : W → Prop} : sp_is_list [.d (.tuple xs), .d (.int a), .d (.int b)] R ↔ R (.d (.bool (decide (a ≤ (xs.length : Int)) && decide ((xs.length : Int) ≤ b)))) := ⟨fun ⟨_, _, _, e, h⟩ => by cases e; exact h, fun h => ⟨xs, a, b, rfl, h⟩⟩
theorem is_list_tN {l : List Nat} {a b : Int} {R : W → Prop} : sp_is_list [.d (tN l), .d (.int a), .d (.int b)] R ↔ R (.d (.bool (decide (a ≤ (l.length : Int)) && decide ((l.length : Int) ≤ b)))) := by
  unfold tN
  rw [is_list_eq, nis_len]
theorem is_list_gD {n : Nat} {g : Adj} {a b : Int} {R : W → Prop} : sp_is_list [.d (gD n g), .d (.int a), .d (.int b)] R ↔ R (.d (.bool (decide (a ≤ (n : Int)) && decide ((n : Int) ≤ b)))) := by
  unfold gD
  rw [is_list_eq, gDs_len]
theorem sem_is_integer : ∀ ws R, sp_is_integer ws R → t_is_integer { nx := fun _ => R (.d .none), rt := R } (startR ["value"] ws) := by
  rintro _ R ⟨i, rfl, r⟩
  (try simp only [dSeq, dNext, dDrop, dAsg, dAsgG, dRet, dIfS, dPar, dVar, dC, dU, dOp, dTst, dAnd, dOr, dNot, dAndV, dNotV, dChain, dIf, dNil, dCons, dStar, dTup, dLst, dCall, dItL, dItT, dRng1, dRng2, dEnum, gdName, gdTup2, gdTup3, dYes, wipeR, dAppend, dExtend, dPopA, dAugL, dCut, dIsi, dLc_eq, dLc2_eq, dFor, dWhile, fAdd, fSub, fLt, fLe, fGt, fGe, fI2_eq, fNeg_eq, fTuple_nis, fTuple_l, fList_l, fList_tN, fCat_eq, unD_nil, unD_d, startR, List.map_cons, List.map_nil, List.length_cons, List.length_nil, List.replicate, List.cons_append, List.nil_append, Nat.zero_add, Nat.reduceAdd, Nat.reduceSub, List.append_nil, List.getElem?_cons_zero, List.getElem?_cons_succ, List.set_cons_zero, List.set_cons_succ, Option.some.injEq, Prod.mk.injEq, Option.map_some, Option.map_none, W.d.injEq, W.l.injEq, PyData.tuple.injEq, PyData.int.injEq, PyData.bool.injEq, PyData.str.injEq, reduceCtorEq, retOk_d, retOk_1, retOk_2, asgOk_d, asgOk_2, and_assoc, exists_and_left, exists_eq_left', exists_eq_left, true_and, and_true, ex_gD, ex_tN, fLen_gD, fLen_tN, fLen_l, len100, Int.toNat_natCast, Nat.reduceLeDiff, isT_ii, isT_ib, isT_tt, isT_ss, is_integer_eq, is_in_eq, is_list_eq, is_list_tN, is_list_gD, if_true, eq_self, Bool.false_eq_true, if_false, ge1, ge2, one_ne, two_ne, true_implies, unD_append, ex_pair, ex_trip, t_is_integer])
  exact r
theorem sem_is_in : ∀ ws R, sp_is_in ws R → t_is_in { nx := fun _ => R (.d .none), rt := R } (startR ["value", "least", "most"] ws) := by
  rintro _ R ⟨v, a, b, rfl, r⟩
  (try simp only [dSeq, dNext, dDrop, dAsg, dAsgG, dRet, dIfS, dPar, dVar, dC, dU, dOp, dTst, dAnd, dOr, dNot, dAndV, dNotV, dChain, dIf, dNil, dCons, dStar, dTup, dLst, dCall, dItL, dItT, dRng1, dRng2, dEnum, gdName, gdTup2, gdTup3, dYes, wipeR, dAppend, dExtend, dPopA, dAugL, dCut, dIsi, dLc_eq, dLc2_eq, dFor, dWhile, fAdd, fSub, fLt, fLe, fGt, fGe, fI2_eq, fNeg_eq, fTuple_nis, fTuple_l, fList_l, fList_tN, fCat_eq, unD_nil, unD_d, startR, List.map_cons, List.map_nil, List.length_cons, List.length_nil, List.replicate, List.cons_append, List.nil_append, Nat.zero_add, Nat.reduceAdd, Nat.reduceSub, List.append_nil, List.getElem?_cons_zero, List.getElem?_cons_succ, List.set_cons_zero, List.set_cons_succ, Option.some.injEq, Prod.mk.injEq, Option.map_some, Option.map_none, W.d.injEq, W.l.injEq, PyData.tuple.injEq, PyData.int.injEq, PyData.bool.injEq, PyData.str.injEq, reduceCtorEq, retOk_d, retOk_1, retOk_2, asgOk_d, asgOk_2, and_assoc, exists_and_left, exists_eq_left', exists_eq_left, true_and, and_true, ex_gD, ex_tN, fLen_gD, fLen_tN, fLen_l, len100, Int.toNat_natCast, Nat.reduceLeDiff, isT_ii, isT_ib, isT_tt, isT_ss, is_integer_eq, is_in_eq, is_list_eq, is_list_tN, is_list_gD, if_true, eq_self, Bool.false_eq_true, if_false, ge1, ge2, one_ne, two_ne, true_implies, unD_append, ex_pair, ex_trip, t_is_in])
  by_cases h : a ≤ v
  · simpa [h] using r
  · simpa [h] using r
theorem sem_is_list : ∀ ws R, sp_is_list ws R → t_is_list { nx := fun _ => R (.d .none), rt := R } (startR ["value", "least", "most"] ws) := by
  rintro _ R ⟨v, a, b, rfl, r⟩
  (try simp only [dSeq, dNext, dDrop, dAsg, dAsgG, dRet, dIfS, dPar, dVar, dC, dU, dOp, dTst, dAnd, dOr, dNot, dAndV, dNotV, dChain, dIf, dNil, dCons, dStar, dTup, dLst, dCall, dItL, dItT, dRng1, dRng2, dEnum, gdName, gdTup2, gdTup3, dYes, wipeR, dAppend, dExtend, dPopA, dAugL, dCut, dIsi, dLc_eq, dLc2_eq, dFor, dWhile, fAdd, fSub, fLt, fLe, fGt, fGe, fI2_eq, fNeg_eq, fTuple_nis, fTuple_l, fList_l, fList_tN, fCat_eq, unD_nil, unD_d, startR, List.map_cons, List.map_nil, List.length_cons, List.length_nil, List.replicate, List.cons_append, List.nil_append, Nat.zero_add, Nat.reduceAdd, Nat.reduceSub, List.append_nil, List.getElem?_cons_zero, List.getElem?_cons_succ, List.set_cons_zero, List.set_cons_succ, Option.some.injEq, Prod.mk.injEq, Option.map_some, Option.map_none, W.d.injEq, W.l.injEq, PyData.tuple.injEq, PyData.int.injEq, PyData.bool.injEq, PyData.str.injEq, reduceCtorEq, retOk_d, retOk_1, retOk_2, asgOk_d, asgOk_2, and_assoc, exists_and_left, exists_eq_left', exists_eq_left, true_and, and_true, ex_gD, ex_tN, fLen_gD, fLen_tN, fLen_l, len100, Int.toNat_natCast, Nat.reduceLeDiff, isT_ii, isT_ib, isT_tt, isT_ss, is_integer_eq, is_in_eq, is_list_eq, is_list_tN, is_list_gD, if_true, eq_self, Bool.false_eq_true, if_false, ge1, ge2, one_ne, two_ne, true_implies, unD_append, ex_pair, ex_trip, t_is_list, fLen])
  by_cases h : a ≤ (v.length : Int)
  · simpa [h] using r
  · simpa [h] using r
/-! items -/
theorem gDs_at {n : Nat} {g : Adj} {i : Nat} {x : PyData} (h : (gDs n g)[i]? = some x) : i < n ∧ x = tN (frs n g i) := by
  have hi := (List.getElem?_eq_some_iff.mp h).1
  rw [gDs_len] at hi
  unfold gDs at h
  rw [List.getElem?_map, List.getElem?_range hi] at h
  exact ⟨hi, (Option.some.inj h).symm⟩
theorem nis_at {l : List Nat} {i : Nat} {x : PyData} (h : (nis l)[i]? = some x) : ∃ k, l[i]? = some k ∧ x = nI k := by
  rw [List.getElem?_map] at h
  cases e : l[i]? with
  | none =>
    rw [e] at h
    cases h
  | some k =>
    rw [e] at h
    exact ⟨k, rfl, (Option.some.inj h).symm⟩
theorem map_at {α : Type} {f : α → PyData} {l : List α} {i : Nat} {x : PyData} (h : (l.map f)[i]? = some x) : ∃ k, l[i]? = some k ∧ x = f k := by
  rw [List.getElem?_map] at h
  cases e : l[i]? with
  | none =>
    rw [e] at h
    cases h
  | some k =>
    rw [e] at h
    exact ⟨k, rfl, (Option.some.inj h).symm⟩
theorem rng_nat {n i : Nat} {x : PyData} (h : (rng 0 n)[i]? = some x) : x = nI i ∧ i < n := by
  obtain ⟨a, b⟩ := rng_at h
  exact ⟨by rw [a, Int.zero_add], b⟩
theorem atI_nat {α : Type} {xs : List α} {i : Nat} {x : α} (h : xs[i]? = some x) : atI xs (i : Int) = some x := by
  have hi := (List.getElem?_eq_some_iff.mp h).1
  unfold atI ixN
  rw [if_pos (Int.natCast_nonneg i), if_pos (by omega)]
  exact h
theorem atI_last {α : Type} (xs : List α) (x : α) : atI (xs ++ [x]) (-1) = some x := by
  unfold atI ixN
  rw [if_neg (by decide), if_pos (by simp; omega)]
  have e : (-1 + (((xs ++ [x]).length : Nat) : Int)).toNat = xs.length := by
    rw [List.length_append]
    show (-1 + ((xs.length + 1 : Nat) : Int)).toNat = _
    omega
  show (xs ++ [x])[(-1 + (((xs ++ [x]).length : Nat) : Int)).toNat]? = _
  rw [e]
  simp
theorem ix_gD {n : Nat} {g : Adj} {i : Nat} (hi : i < n) {k : W → Prop} (r : k (.d (tN (frs n g i)))) : fIxT (.d (gD n g)) (.d (nI i)) k :=
  ⟨tN (frs n g i), atI_nat (by unfold gDs; rw [List.getElem?_map, List.getElem?_range hi]; rfl), r⟩
theorem frs_len {n : Nat} {g : Adj} {i : Nat} : (frs n g i).length ≤ n := by
  have := List.length_filter_le (g i) (List.range n)
  rwa [List.length_range] at this
/-! calls -/
theorem c_need_web {n : Nat} {g : Adj} {R : W → Prop} (o : Ok n g) (r : R (.d .none)) : sp_need_web [.d (gD n g)] R := ⟨n, g, rfl, o, r⟩
theorem c_need_person {n : Nat} {g : Adj} {p : Nat} {R : W → Prop} (o : Ok n g) (hp : p < n) (r : R (.d .none)) : sp_need_person [.d (gD n g), .d (nI p)] R := ⟨n, g, p, rfl, o, hp, r⟩
theorem c_need_people {n : Nat} {g : Adj} {S : List Nat} {R : W → Prop} (o : Ok n g) (h1 : S.Pairwise (· < ·)) (h2 : ∀ p ∈ S, p < n) (r : R (.d .none)) : sp_need_people [.d (gD n g), .d (tN S)] R := ⟨n, g, S, rfl, o, h1, h2, r⟩
theorem c_need_calls {n : Nat} {g : Adj} {l : List Nat} {R : W → Prop} (o : Ok n g) (h1 : l.length ≤ 60) (h2 : ∀ p ∈ l, p < n) (r : R (.d .none)) : sp_need_calls [.d (gD n g), .d (tN l)] R := ⟨n, g, l, rfl, o, h1, h2, r⟩
theorem c_pairs_in {n : Nat} {g : Adj} {R : W → Prop} (o : Ok n g) (r : R (.l (prD (prs n g)))) : sp_pairs_in [.d (gD n g)] R := ⟨n, g, rfl, o, r⟩
theorem c_count_pairs {n : Nat} {g : Adj} {R : W → Prop} (o : Ok n g) (r : R (.d (nI (cnt n g)))) : sp_count_pairs [.d (gD n g)] R := ⟨n, g, rfl, o, r⟩
theorem c_web_by {n : Nat} {ps : List (Nat × Nat)} {R : W → Prop} (h1 : 1 ≤ n) (h2 : n ≤ 6) (h3 : ps.length ≤ 400) (h4 : ∀ p ∈ ps, p.1 < n ∧ p.2 < n ∧ p.1 ≠ p.2) (r : R (.d (gD n (edgesG ps)))) : sp_web_by [.d (nI n), .l (prD ps)] R := ⟨n, ps, rfl, h1, h2, h3, h4, r⟩
theorem c_group_in {n : Nat} {g : Adj} {p : Nat} {R : W → Prop} (o : Ok n g) (hp : p < n) (r : R (.d (tN (grp n g p)))) : sp_group_in [.d (gD n g), .d (nI p)] R := ⟨n, g, p, rfl, o, hp, r⟩
theorem c_groups_in {n : Nat} {g : Adj} {R : W → Prop} (o : Ok n g) (r : ∀ gs : List (List Nat), gs.Nodup → (∀ S, S ∈ gs ↔ ∃ p, p < n ∧ S = grp n g p) → R (.l (gs.map tN))) : sp_groups_in [.d (gD n g)] R := ⟨n, g, rfl, o, r⟩
theorem c_is_table {n : Nat} {g : Adj} {p : Nat} {R : W → Prop} (o : Ok n g) (hp : p < n) (r : ∀ b : Bool, (b = true ↔ ¬ Mv g p) → R (.d (.bool b))) : sp_is_table [.d (gD n g), .d (tN (frs n g p))] R := ⟨n, g, p, rfl, o, hp, r⟩
theorem c_rest_of {n : Nat} {g : Adj} {R : W → Prop} (o : Ok n g) (r : R (.d (gD n (restG n g)))) : sp_rest_of [.d (gD n g)] R := ⟨n, g, rfl, o, r⟩
theorem c_last_web {n : Nat} {g : Adj} {R : W → Prop} (o : Ok n g) (r : R (.d (gD n (restG n g)))) : sp_last_web [.d (gD n g)] R := ⟨n, g, rfl, o, r⟩
theorem c_call_in {n : Nat} {g : Adj} {p : Nat} {R : W → Prop} (o : Ok n g) (hp : p < n) (r : R (.d (gD n (callG g p)))) : sp_call_in [.d (gD n g), .d (nI p)] R := ⟨n, g, p, rfl, o, hp, r⟩
theorem c_call {n : Nat} {g : Adj} {p : Nat} {R : W → Prop} (o : Ok n g) (hp : p < n) (r : R (.d (gD n (callG g p)))) : sp_call [.d (gD n g), .d (nI p)] R := ⟨n, g, p, rfl, o, hp, r⟩
theorem c_movers_in {n : Nat} {g : Adj} {R : W → Prop} (o : Ok n g) (r : R (.l (nis (movs n g)))) : sp_movers_in [.d (gD n g)] R := ⟨n, g, rfl, o, r⟩
theorem c_story_in {n : Nat} {g : Adj} {l : List Nat} {R : W → Prop} (o : Ok n g) (h1 : l.length ≤ 60) (h2 : ∀ p ∈ l, p < n) (r : R (.l ((List.range (l.length + 1)).map fun i => gD n (aft g (l.take i))))) : sp_story_in [.d (gD n g), .d (tN l)] R := ⟨n, g, l, rfl, o, h1, h2, r⟩
theorem c_after {n : Nat} {g : Adj} {l : List Nat} {R : W → Prop} (o : Ok n g) (h1 : l.length ≤ 60) (h2 : ∀ p ∈ l, p < n) (r : R (.d (gD n (aft g l)))) : sp_after [.d (gD n g), .d (tN l)] R := ⟨n, g, l, rfl, o, h1, h2, r⟩
theorem c_made_in {n : Nat} {g : Adj} {l : List Nat} {R : W → Prop} (o : Ok n g) (h1 : l.length ≤ 60) (h2 : ∀ p ∈ l, p < n) (r : R (.l (madeD n g l))) : sp_made_in [.d (gD n g), .d (tN l)] R := ⟨n, g, l, rfl, o, h1, h2, r⟩
theorem c_choices {n : Nat} {R : W → Prop} (h : n ≤ 6) (r : R (.l ((chs n).map tN))) : sp_choices [.d (nI n)] R := ⟨n, rfl, h, r⟩
theorem c_chain_ends {n : Nat} {g : Adj} {S : List Nat} {p : Nat} {R : W → Prop} (o : Ok n g) (hp : p < n) (r : ∀ ms : List Nat, ms.Nodup → (∀ x, x ∈ ms ↔ Ch g (fun x => x ∈ S) p x) → R (.l (nis ms))) : sp_chain_ends [.d (gD n g), .d (tN S), .d (nI p)] R := ⟨n, g, S, p, rfl, o, hp, r⟩
theorem c_told_in {n : Nat} {g : Adj} {S : List Nat} {R : W → Prop} (o : Ok n g) (r : R (.d (gD n (toldG n g S)))) : sp_told_in [.d (gD n g), .d (tN S)] R := ⟨n, g, S, rfl, o, r⟩
theorem c_joining_in {n : Nat} {g : Adj} {R : W → Prop} (o : Ok n g) (r : ∀ js : List (List Nat), js.length ≤ 64 → (∀ S, S ∈ js ↔ Joins n g S) → R (.l (js.map tN))) : sp_joining_in [.d (gD n g)] R := ⟨n, g, rfl, o, r⟩
theorem c_without {n : Nat} {g : Adj} {p : Nat} {R : W → Prop} (o : Ok n g) (hp : p < n) (r : R (.d (gD n (cutG g p)))) : sp_without [.d (gD n g), .d (nI p)] R := ⟨n, g, p, rfl, o, hp, r⟩
theorem c_cut_in {n : Nat} {g : Adj} {R : W → Prop} (o : Ok n g) (r : ∀ ms : List Nat, ms.length ≤ n → (∀ p ∈ ms, CutV n g p) → R (.l (nis ms))) : sp_cut_in [.d (gD n g)] R := ⟨n, g, rfl, o, r⟩
theorem c_need_rule {r : Str} {R : W → Prop} (h : r ∈ rulesL) (k : R (.d .none)) : sp_need_rule [.d (.str r)] R := ⟨r, rfl, h, k⟩
theorem c_next_in {n : Nat} {g : Adj} {r : Str} {R : W → Prop} (o : Ok n g) (hr : r ∈ rulesL) (h : ∃ p, p < n ∧ Mv g p) (k : ∀ p, Nx n g r p → R (.d (nI p))) : sp_next_in [.d (gD n g), .d (.str r)] R := ⟨n, g, r, rfl, o, hr, h, k⟩
theorem c_row_in {n : Nat} {g : Adj} {r : Str} {R : W → Prop} (o : Ok n g) (hr : r ∈ rulesL) (k : ∀ l, RR n r g l → R (.l (nis l))) : sp_row_in [.d (gD n g), .d (.str r)] R := ⟨n, g, r, rfl, o, hr, k⟩
/-! ### the defs that only call -/
theorem sem_count_pairs : ∀ ws R, sp_count_pairs ws R → t_count_pairs { nx := fun _ => R (.d .none), rt := R } (startR ["web"] ws) := by
  rintro _ R ⟨n, g, rfl, o, r⟩
  (try simp only [dSeq, dNext, dDrop, dAsg, dAsgG, dRet, dIfS, dPar, dVar, dC, dU, dOp, dTst, dAnd, dOr, dNot, dAndV, dNotV, dChain, dIf, dNil, dCons, dStar, dTup, dLst, dCall, dItL, dItT, dRng1, dRng2, dEnum, gdName, gdTup2, gdTup3, dYes, wipeR, dAppend, dExtend, dPopA, dAugL, dCut, dIsi, dLc_eq, dLc2_eq, dFor, dWhile, fAdd, fSub, fLt, fLe, fGt, fGe, fI2_eq, fNeg_eq, fTuple_nis, fTuple_l, fList_l, fList_tN, fCat_eq, unD_nil, unD_d, startR, List.map_cons, List.map_nil, List.length_cons, List.length_nil, List.replicate, List.cons_append, List.nil_append, Nat.zero_add, Nat.reduceAdd, Nat.reduceSub, List.append_nil, List.getElem?_cons_zero, List.getElem?_cons_succ, List.set_cons_zero, List.set_cons_succ, Option.some.injEq, Prod.mk.injEq, Option.map_some, Option.map_none, W.d.injEq, W.l.injEq, PyData.tuple.injEq, PyData.int.injEq, PyData.bool.injEq, PyData.str.injEq, reduceCtorEq, retOk_d, retOk_1, retOk_2, asgOk_d, asgOk_2, and_assoc, exists_and_left, exists_eq_left', exists_eq_left, true_and, and_true, ex_gD, ex_tN, fLen_gD, fLen_tN, fLen_l, len100, Int.toNat_natCast, Nat.reduceLeDiff, isT_ii, isT_ib, isT_tt, isT_ss, is_integer_eq, is_in_eq, is_list_eq, is_list_tN, is_list_gD, if_true, eq_self, Bool.false_eq_true, if_false, ge1, ge2, one_ne, two_ne, true_implies, unD_append, ex_pair, ex_trip, t_count_pairs])
  refine c_need_web o ?_
  refine c_pairs_in o ?_
  (try simp only [dSeq, dNext, dDrop, dAsg, dAsgG, dRet, dIfS, dPar, dVar, dC, dU, dOp, dTst, dAnd, dOr, dNot, dAndV, dNotV, dChain, dIf, dNil, dCons, dStar, dTup, dLst, dCall, dItL, dItT, dRng1, dRng2, dEnum, gdName, gdTup2, gdTup3, dYes, wipeR, dAppend, dExtend, dPopA, dAugL, dCut, dIsi, dLc_eq, dLc2_eq, dFor, dWhile, fAdd, fSub, fLt, fLe, fGt, fGe, fI2_eq, fNeg_eq, fTuple_nis, fTuple_l, fList_l, fList_tN, fCat_eq, unD_nil, unD_d, startR, List.map_cons, List.map_nil, List.length_cons, List.length_nil, List.replicate, List.cons_append, List.nil_append, Nat.zero_add, Nat.reduceAdd, Nat.reduceSub, List.append_nil, List.getElem?_cons_zero, List.getElem?_cons_succ, List.set_cons_zero, List.set_cons_succ, Option.some.injEq, Prod.mk.injEq, Option.map_some, Option.map_none, W.d.injEq, W.l.injEq, PyData.tuple.injEq, PyData.int.injEq, PyData.bool.injEq, PyData.str.injEq, reduceCtorEq, retOk_d, retOk_1, retOk_2, asgOk_d, asgOk_2, and_assoc, exists_and_left, exists_eq_left', exists_eq_left, true_and, and_true, ex_gD, ex_tN, fLen_gD, fLen_tN, fLen_l, len100, Int.toNat_natCast, Nat.reduceLeDiff, isT_ii, isT_ib, isT_tt, isT_ss, is_integer_eq, is_in_eq, is_list_eq, is_list_tN, is_list_gD, if_true, eq_self, Bool.false_eq_true, if_false, ge1, ge2, one_ne, two_ne, true_implies, unD_append, ex_pair, ex_trip, List.length_map])
  exact r
theorem sem_last_web : ∀ ws R, sp_last_web ws R → t_last_web { nx := fun _ => R (.d .none), rt := R } (startR ["web"] ws) := by
  rintro _ R ⟨n, g, rfl, o, r⟩
  (try simp only [dSeq, dNext, dDrop, dAsg, dAsgG, dRet, dIfS, dPar, dVar, dC, dU, dOp, dTst, dAnd, dOr, dNot, dAndV, dNotV, dChain, dIf, dNil, dCons, dStar, dTup, dLst, dCall, dItL, dItT, dRng1, dRng2, dEnum, gdName, gdTup2, gdTup3, dYes, wipeR, dAppend, dExtend, dPopA, dAugL, dCut, dIsi, dLc_eq, dLc2_eq, dFor, dWhile, fAdd, fSub, fLt, fLe, fGt, fGe, fI2_eq, fNeg_eq, fTuple_nis, fTuple_l, fList_l, fList_tN, fCat_eq, unD_nil, unD_d, startR, List.map_cons, List.map_nil, List.length_cons, List.length_nil, List.replicate, List.cons_append, List.nil_append, Nat.zero_add, Nat.reduceAdd, Nat.reduceSub, List.append_nil, List.getElem?_cons_zero, List.getElem?_cons_succ, List.set_cons_zero, List.set_cons_succ, Option.some.injEq, Prod.mk.injEq, Option.map_some, Option.map_none, W.d.injEq, W.l.injEq, PyData.tuple.injEq, PyData.int.injEq, PyData.bool.injEq, PyData.str.injEq, reduceCtorEq, retOk_d, retOk_1, retOk_2, asgOk_d, asgOk_2, and_assoc, exists_and_left, exists_eq_left', exists_eq_left, true_and, and_true, ex_gD, ex_tN, fLen_gD, fLen_tN, fLen_l, len100, Int.toNat_natCast, Nat.reduceLeDiff, isT_ii, isT_ib, isT_tt, isT_ss, is_integer_eq, is_in_eq, is_list_eq, is_list_tN, is_list_gD, if_true, eq_self, Bool.false_eq_true, if_false, ge1, ge2, one_ne, two_ne, true_implies, unD_append, ex_pair, ex_trip, t_last_web])
  refine c_need_web o ?_
  refine c_rest_of o ?_
  (try simp only [dSeq, dNext, dDrop, dAsg, dAsgG, dRet, dIfS, dPar, dVar, dC, dU, dOp, dTst, dAnd, dOr, dNot, dAndV, dNotV, dChain, dIf, dNil, dCons, dStar, dTup, dLst, dCall, dItL, dItT, dRng1, dRng2, dEnum, gdName, gdTup2, gdTup3, dYes, wipeR, dAppend, dExtend, dPopA, dAugL, dCut, dIsi, dLc_eq, dLc2_eq, dFor, dWhile, fAdd, fSub, fLt, fLe, fGt, fGe, fI2_eq, fNeg_eq, fTuple_nis, fTuple_l, fList_l, fList_tN, fCat_eq, unD_nil, unD_d, startR, List.map_cons, List.map_nil, List.length_cons, List.length_nil, List.replicate, List.cons_append, List.nil_append, Nat.zero_add, Nat.reduceAdd, Nat.reduceSub, List.append_nil, List.getElem?_cons_zero, List.getElem?_cons_succ, List.set_cons_zero, List.set_cons_succ, Option.some.injEq, Prod.mk.injEq, Option.map_some, Option.map_none, W.d.injEq, W.l.injEq, PyData.tuple.injEq, PyData.int.injEq, PyData.bool.injEq, PyData.str.injEq, reduceCtorEq, retOk_d, retOk_1, retOk_2, asgOk_d, asgOk_2, and_assoc, exists_and_left, exists_eq_left', exists_eq_left, true_and, and_true, ex_gD, ex_tN, fLen_gD, fLen_tN, fLen_l, len100, Int.toNat_natCast, Nat.reduceLeDiff, isT_ii, isT_ib, isT_tt, isT_ss, is_integer_eq, is_in_eq, is_list_eq, is_list_tN, is_list_gD, if_true, eq_self, Bool.false_eq_true, if_false, ge1, ge2, one_ne, two_ne, true_implies, unD_append, ex_pair, ex_trip])
  exact r
theorem sem_call : ∀ ws R, sp_call ws R → t_call { nx := fun _ => R (.d .none), rt := R } (startR ["web", "person"] ws) := by
  rintro _ R ⟨n, g, p, rfl, o, hp, r⟩
  (try simp only [dSeq, dNext, dDrop, dAsg, dAsgG, dRet, dIfS, dPar, dVar, dC, dU, dOp, dTst, dAnd, dOr, dNot, dAndV, dNotV, dChain, dIf, dNil, dCons, dStar, dTup, dLst, dCall, dItL, dItT, dRng1, dRng2, dEnum, gdName, gdTup2, gdTup3, dYes, wipeR, dAppend, dExtend, dPopA, dAugL, dCut, dIsi, dLc_eq, dLc2_eq, dFor, dWhile, fAdd, fSub, fLt, fLe, fGt, fGe, fI2_eq, fNeg_eq, fTuple_nis, fTuple_l, fList_l, fList_tN, fCat_eq, unD_nil, unD_d, startR, List.map_cons, List.map_nil, List.length_cons, List.length_nil, List.replicate, List.cons_append, List.nil_append, Nat.zero_add, Nat.reduceAdd, Nat.reduceSub, List.append_nil, List.getElem?_cons_zero, List.getElem?_cons_succ, List.set_cons_zero, List.set_cons_succ, Option.some.injEq, Prod.mk.injEq, Option.map_some, Option.map_none, W.d.injEq, W.l.injEq, PyData.tuple.injEq, PyData.int.injEq, PyData.bool.injEq, PyData.str.injEq, reduceCtorEq, retOk_d, retOk_1, retOk_2, asgOk_d, asgOk_2, and_assoc, exists_and_left, exists_eq_left', exists_eq_left, true_and, and_true, ex_gD, ex_tN, fLen_gD, fLen_tN, fLen_l, len100, Int.toNat_natCast, Nat.reduceLeDiff, isT_ii, isT_ib, isT_tt, isT_ss, is_integer_eq, is_in_eq, is_list_eq, is_list_tN, is_list_gD, if_true, eq_self, Bool.false_eq_true, if_false, ge1, ge2, one_ne, two_ne, true_implies, unD_append, ex_pair, ex_trip, t_call])
  refine c_need_web o ?_
  refine c_need_person o hp ?_
  refine c_call_in o hp ?_
  (try simp only [dSeq, dNext, dDrop, dAsg, dAsgG, dRet, dIfS, dPar, dVar, dC, dU, dOp, dTst, dAnd, dOr, dNot, dAndV, dNotV, dChain, dIf, dNil, dCons, dStar, dTup, dLst, dCall, dItL, dItT, dRng1, dRng2, dEnum, gdName, gdTup2, gdTup3, dYes, wipeR, dAppend, dExtend, dPopA, dAugL, dCut, dIsi, dLc_eq, dLc2_eq, dFor, dWhile, fAdd, fSub, fLt, fLe, fGt, fGe, fI2_eq, fNeg_eq, fTuple_nis, fTuple_l, fList_l, fList_tN, fCat_eq, unD_nil, unD_d, startR, List.map_cons, List.map_nil, List.length_cons, List.length_nil, List.replicate, List.cons_append, List.nil_append, Nat.zero_add, Nat.reduceAdd, Nat.reduceSub, List.append_nil, List.getElem?_cons_zero, List.getElem?_cons_succ, List.set_cons_zero, List.set_cons_succ, Option.some.injEq, Prod.mk.injEq, Option.map_some, Option.map_none, W.d.injEq, W.l.injEq, PyData.tuple.injEq, PyData.int.injEq, PyData.bool.injEq, PyData.str.injEq, reduceCtorEq, retOk_d, retOk_1, retOk_2, asgOk_d, asgOk_2, and_assoc, exists_and_left, exists_eq_left', exists_eq_left, true_and, and_true, ex_gD, ex_tN, fLen_gD, fLen_tN, fLen_l, len100, Int.toNat_natCast, Nat.reduceLeDiff, isT_ii, isT_ib, isT_tt, isT_ss, is_integer_eq, is_in_eq, is_list_eq, is_list_tN, is_list_gD, if_true, eq_self, Bool.false_eq_true, if_false, ge1, ge2, one_ne, two_ne, true_implies, unD_append, ex_pair, ex_trip])
  exact r
theorem sem_told : ∀ ws R, sp_told ws R → t_told { nx := fun _ => R (.d .none), rt := R } (startR ["web", "called"] ws) := by
  rintro _ R ⟨n, g, S, rfl, o, h1, h2, r⟩
  (try simp only [dSeq, dNext, dDrop, dAsg, dAsgG, dRet, dIfS, dPar, dVar, dC, dU, dOp, dTst, dAnd, dOr, dNot, dAndV, dNotV, dChain, dIf, dNil, dCons, dStar, dTup, dLst, dCall, dItL, dItT, dRng1, dRng2, dEnum, gdName, gdTup2, gdTup3, dYes, wipeR, dAppend, dExtend, dPopA, dAugL, dCut, dIsi, dLc_eq, dLc2_eq, dFor, dWhile, fAdd, fSub, fLt, fLe, fGt, fGe, fI2_eq, fNeg_eq, fTuple_nis, fTuple_l, fList_l, fList_tN, fCat_eq, unD_nil, unD_d, startR, List.map_cons, List.map_nil, List.length_cons, List.length_nil, List.replicate, List.cons_append, List.nil_append, Nat.zero_add, Nat.reduceAdd, Nat.reduceSub, List.append_nil, List.getElem?_cons_zero, List.getElem?_cons_succ, List.set_cons_zero, List.set_cons_succ, Option.some.injEq, Prod.mk.injEq, Option.map_some, Option.map_none, W.d.injEq, W.l.injEq, PyData.tuple.injEq, PyData.int.injEq, PyData.bool.injEq, PyData.str.injEq, reduceCtorEq, retOk_d, retOk_1, retOk_2, asgOk_d, asgOk_2, and_assoc, exists_and_left, exists_eq_left', exists_eq_left, true_and, and_true, ex_gD, ex_tN, fLen_gD, fLen_tN, fLen_l, len100, Int.toNat_natCast, Nat.reduceLeDiff, isT_ii, isT_ib, isT_tt, isT_ss, is_integer_eq, is_in_eq, is_list_eq, is_list_tN, is_list_gD, if_true, eq_self, Bool.false_eq_true, if_false, ge1, ge2, one_ne, two_ne, true_implies, unD_append, ex_pair, ex_trip, t_told])
  refine c_need_web o ?_
  refine c_need_people o h1 h2 ?_
  refine c_told_in o ?_
  (try simp only [dSeq, dNext, dDrop, dAsg, dAsgG, dRet, dIfS, dPar, dVar, dC, dU, dOp, dTst, dAnd, dOr, dNot, dAndV, dNotV, dChain, dIf, dNil, dCons, dStar, dTup, dLst, dCall, dItL, dItT, dRng1, dRng2, dEnum, gdName, gdTup2, gdTup3, dYes, wipeR, dAppend, dExtend, dPopA, dAugL, dCut, dIsi, dLc_eq, dLc2_eq, dFor, dWhile, fAdd, fSub, fLt, fLe, fGt, fGe, fI2_eq, fNeg_eq, fTuple_nis, fTuple_l, fList_l, fList_tN, fCat_eq, unD_nil, unD_d, startR, List.map_cons, List.map_nil, List.length_cons, List.length_nil, List.replicate, List.cons_append, List.nil_append, Nat.zero_add, Nat.reduceAdd, Nat.reduceSub, List.append_nil, List.getElem?_cons_zero, List.getElem?_cons_succ, List.set_cons_zero, List.set_cons_succ, Option.some.injEq, Prod.mk.injEq, Option.map_some, Option.map_none, W.d.injEq, W.l.injEq, PyData.tuple.injEq, PyData.int.injEq, PyData.bool.injEq, PyData.str.injEq, reduceCtorEq, retOk_d, retOk_1, retOk_2, asgOk_d, asgOk_2, and_assoc, exists_and_left, exists_eq_left', exists_eq_left, true_and, and_true, ex_gD, ex_tN, fLen_gD, fLen_tN, fLen_l, len100, Int.toNat_natCast, Nat.reduceLeDiff, isT_ii, isT_ib, isT_tt, isT_ss, is_integer_eq, is_in_eq, is_list_eq, is_list_tN, is_list_gD, if_true, eq_self, Bool.false_eq_true, if_false, ge1, ge2, one_ne, two_ne, true_implies, unD_append, ex_pair, ex_trip])
  exact r
theorem sem_joins_all : ∀ ws R, sp_joins_all ws R → t_joins_all { nx := fun _ => R (.d .none), rt := R } (startR ["web", "called"] ws) := by
  rintro _ R ⟨n, g, S, rfl, o, h1, h2, r⟩
  (try simp only [dSeq, dNext, dDrop, dAsg, dAsgG, dRet, dIfS, dPar, dVar, dC, dU, dOp, dTst, dAnd, dOr, dNot, dAndV, dNotV, dChain, dIf, dNil, dCons, dStar, dTup, dLst, dCall, dItL, dItT, dRng1, dRng2, dEnum, gdName, gdTup2, gdTup3, dYes, wipeR, dAppend, dExtend, dPopA, dAugL, dCut, dIsi, dLc_eq, dLc2_eq, dFor, dWhile, fAdd, fSub, fLt, fLe, fGt, fGe, fI2_eq, fNeg_eq, fTuple_nis, fTuple_l, fList_l, fList_tN, fCat_eq, unD_nil, unD_d, startR, List.map_cons, List.map_nil, List.length_cons, List.length_nil, List.replicate, List.cons_append, List.nil_append, Nat.zero_add, Nat.reduceAdd, Nat.reduceSub, List.append_nil, List.getElem?_cons_zero, List.getElem?_cons_succ, List.set_cons_zero, List.set_cons_succ, Option.some.injEq, Prod.mk.injEq, Option.map_some, Option.map_none, W.d.injEq, W.l.injEq, PyData.tuple.injEq, PyData.int.injEq, PyData.bool.injEq, PyData.str.injEq, reduceCtorEq, retOk_d, retOk_1, retOk_2, asgOk_d, asgOk_2, and_assoc, exists_and_left, exists_eq_left', exists_eq_left, true_and, and_true, ex_gD, ex_tN, fLen_gD, fLen_tN, fLen_l, len100, Int.toNat_natCast, Nat.reduceLeDiff, isT_ii, isT_ib, isT_tt, isT_ss, is_integer_eq, is_in_eq, is_list_eq, is_list_tN, is_list_gD, if_true, eq_self, Bool.false_eq_true, if_false, ge1, ge2, one_ne, two_ne, true_implies, unD_append, ex_pair, ex_trip, t_joins_all])
  refine c_need_web o ?_
  refine c_need_people o h1 h2 ?_
  refine c_told_in o ?_
  refine c_rest_of o ?_
  refine ⟨(sh_gD _ _).ok, (sh_gD _ _).ok, ?_⟩
  (try simp only [dSeq, dNext, dDrop, dAsg, dAsgG, dRet, dIfS, dPar, dVar, dC, dU, dOp, dTst, dAnd, dOr, dNot, dAndV, dNotV, dChain, dIf, dNil, dCons, dStar, dTup, dLst, dCall, dItL, dItT, dRng1, dRng2, dEnum, gdName, gdTup2, gdTup3, dYes, wipeR, dAppend, dExtend, dPopA, dAugL, dCut, dIsi, dLc_eq, dLc2_eq, dFor, dWhile, fAdd, fSub, fLt, fLe, fGt, fGe, fI2_eq, fNeg_eq, fTuple_nis, fTuple_l, fList_l, fList_tN, fCat_eq, unD_nil, unD_d, startR, List.map_cons, List.map_nil, List.length_cons, List.length_nil, List.replicate, List.cons_append, List.nil_append, Nat.zero_add, Nat.reduceAdd, Nat.reduceSub, List.append_nil, List.getElem?_cons_zero, List.getElem?_cons_succ, List.set_cons_zero, List.set_cons_succ, Option.some.injEq, Prod.mk.injEq, Option.map_some, Option.map_none, W.d.injEq, W.l.injEq, PyData.tuple.injEq, PyData.int.injEq, PyData.bool.injEq, PyData.str.injEq, reduceCtorEq, retOk_d, retOk_1, retOk_2, asgOk_d, asgOk_2, and_assoc, exists_and_left, exists_eq_left', exists_eq_left, true_and, and_true, ex_gD, ex_tN, fLen_gD, fLen_tN, fLen_l, len100, Int.toNat_natCast, Nat.reduceLeDiff, isT_ii, isT_ib, isT_tt, isT_ss, is_integer_eq, is_in_eq, is_list_eq, is_list_tN, is_list_gD, if_true, eq_self, Bool.false_eq_true, if_false, ge1, ge2, one_ne, two_ne, true_implies, unD_append, ex_pair, ex_trip])
  exact r _ (eqv_gD (o.told S) o.rest)
theorem sem_after : ∀ ws R, sp_after ws R → t_after { nx := fun _ => R (.d .none), rt := R } (startR ["web", "calls"] ws) := by
  rintro _ R ⟨n, g, l, rfl, o, h1, h2, r⟩
  (try simp only [dSeq, dNext, dDrop, dAsg, dAsgG, dRet, dIfS, dPar, dVar, dC, dU, dOp, dTst, dAnd, dOr, dNot, dAndV, dNotV, dChain, dIf, dNil, dCons, dStar, dTup, dLst, dCall, dItL, dItT, dRng1, dRng2, dEnum, gdName, gdTup2, gdTup3, dYes, wipeR, dAppend, dExtend, dPopA, dAugL, dCut, dIsi, dLc_eq, dLc2_eq, dFor, dWhile, fAdd, fSub, fLt, fLe, fGt, fGe, fI2_eq, fNeg_eq, fTuple_nis, fTuple_l, fList_l, fList_tN, fCat_eq, unD_nil, unD_d, startR, List.map_cons, List.map_nil, List.length_cons, List.length_nil, List.replicate, List.cons_append, List.nil_append, Nat.zero_add, Nat.reduceAdd, Nat.reduceSub, List.append_nil, List.getElem?_cons_zero, List.getElem?_cons_succ, List.set_cons_zero, List.set_cons_succ, Option.some.injEq, Prod.mk.injEq, Option.map_some, Option.map_none, W.d.injEq, W.l.injEq, PyData.tuple.injEq, PyData.int.injEq, PyData.bool.injEq, PyData.str.injEq, reduceCtorEq, retOk_d, retOk_1, retOk_2, asgOk_d, asgOk_2, and_assoc, exists_and_left, exists_eq_left', exists_eq_left, true_and, and_true, ex_gD, ex_tN, fLen_gD, fLen_tN, fLen_l, len100, Int.toNat_natCast, Nat.reduceLeDiff, isT_ii, isT_ib, isT_tt, isT_ss, is_integer_eq, is_in_eq, is_list_eq, is_list_tN, is_list_gD, if_true, eq_self, Bool.false_eq_true, if_false, ge1, ge2, one_ne, two_ne, true_implies, unD_append, ex_pair, ex_trip, t_after])
  refine c_need_web o ?_
  refine c_need_calls o h1 h2 ?_
  refine c_story_in o h1 h2 ?_
  refine ⟨gD n (aft g l), ?_, ?_⟩
  · rw [List.range_succ, List.map_append]
    show atI (_ ++ [gD n (aft g (l.take l.length))]) (-1) = _
    rw [List.take_length]
    exact atI_last _ _
  · (try simp only [dSeq, dNext, dDrop, dAsg, dAsgG, dRet, dIfS, dPar, dVar, dC, dU, dOp, dTst, dAnd, dOr, dNot, dAndV, dNotV, dChain, dIf, dNil, dCons, dStar, dTup, dLst, dCall, dItL, dItT, dRng1, dRng2, dEnum, gdName, gdTup2, gdTup3, dYes, wipeR, dAppend, dExtend, dPopA, dAugL, dCut, dIsi, dLc_eq, dLc2_eq, dFor, dWhile, fAdd, fSub, fLt, fLe, fGt, fGe, fI2_eq, fNeg_eq, fTuple_nis, fTuple_l, fList_l, fList_tN, fCat_eq, unD_nil, unD_d, startR, List.map_cons, List.map_nil, List.length_cons, List.length_nil, List.replicate, List.cons_append, List.nil_append, Nat.zero_add, Nat.reduceAdd, Nat.reduceSub, List.append_nil, List.getElem?_cons_zero, List.getElem?_cons_succ, List.set_cons_zero, List.set_cons_succ, Option.some.injEq, Prod.mk.injEq, Option.map_some, Option.map_none, W.d.injEq, W.l.injEq, PyData.tuple.injEq, PyData.int.injEq, PyData.bool.injEq, PyData.str.injEq, reduceCtorEq, retOk_d, retOk_1, retOk_2, asgOk_d, asgOk_2, and_assoc, exists_and_left, exists_eq_left', exists_eq_left, true_and, and_true, ex_gD, ex_tN, fLen_gD, fLen_tN, fLen_l, len100, Int.toNat_natCast, Nat.reduceLeDiff, isT_ii, isT_ib, isT_tt, isT_ss, is_integer_eq, is_in_eq, is_list_eq, is_list_tN, is_list_gD, if_true, eq_self, Bool.false_eq_true, if_false, ge1, ge2, one_ne, two_ne, true_implies, unD_append, ex_pair, ex_trip])
    exact r
theorem sem_cut_people : ∀ ws R, sp_cut_people ws R → t_cut_people { nx := fun _ => R (.d .none), rt := R } (startR ["web"] ws) := by
  rintro _ R ⟨n, g, rfl, o, r⟩
  (try simp only [dSeq, dNext, dDrop, dAsg, dAsgG, dRet, dIfS, dPar, dVar, dC, dU, dOp, dTst, dAnd, dOr, dNot, dAndV, dNotV, dChain, dIf, dNil, dCons, dStar, dTup, dLst, dCall, dItL, dItT, dRng1, dRng2, dEnum, gdName, gdTup2, gdTup3, dYes, wipeR, dAppend, dExtend, dPopA, dAugL, dCut, dIsi, dLc_eq, dLc2_eq, dFor, dWhile, fAdd, fSub, fLt, fLe, fGt, fGe, fI2_eq, fNeg_eq, fTuple_nis, fTuple_l, fList_l, fList_tN, fCat_eq, unD_nil, unD_d, startR, List.map_cons, List.map_nil, List.length_cons, List.length_nil, List.replicate, List.cons_append, List.nil_append, Nat.zero_add, Nat.reduceAdd, Nat.reduceSub, List.append_nil, List.getElem?_cons_zero, List.getElem?_cons_succ, List.set_cons_zero, List.set_cons_succ, Option.some.injEq, Prod.mk.injEq, Option.map_some, Option.map_none, W.d.injEq, W.l.injEq, PyData.tuple.injEq, PyData.int.injEq, PyData.bool.injEq, PyData.str.injEq, reduceCtorEq, retOk_d, retOk_1, retOk_2, asgOk_d, asgOk_2, and_assoc, exists_and_left, exists_eq_left', exists_eq_left, true_and, and_true, ex_gD, ex_tN, fLen_gD, fLen_tN, fLen_l, len100, Int.toNat_natCast, Nat.reduceLeDiff, isT_ii, isT_ib, isT_tt, isT_ss, is_integer_eq, is_in_eq, is_list_eq, is_list_tN, is_list_gD, if_true, eq_self, Bool.false_eq_true, if_false, ge1, ge2, one_ne, two_ne, true_implies, unD_append, ex_pair, ex_trip, t_cut_people])
  refine c_need_web o ?_
  refine c_cut_in o fun ms h1 h2 => ?_
  (try simp only [dSeq, dNext, dDrop, dAsg, dAsgG, dRet, dIfS, dPar, dVar, dC, dU, dOp, dTst, dAnd, dOr, dNot, dAndV, dNotV, dChain, dIf, dNil, dCons, dStar, dTup, dLst, dCall, dItL, dItT, dRng1, dRng2, dEnum, gdName, gdTup2, gdTup3, dYes, wipeR, dAppend, dExtend, dPopA, dAugL, dCut, dIsi, dLc_eq, dLc2_eq, dFor, dWhile, fAdd, fSub, fLt, fLe, fGt, fGe, fI2_eq, fNeg_eq, fTuple_nis, fTuple_l, fList_l, fList_tN, fCat_eq, unD_nil, unD_d, startR, List.map_cons, List.map_nil, List.length_cons, List.length_nil, List.replicate, List.cons_append, List.nil_append, Nat.zero_add, Nat.reduceAdd, Nat.reduceSub, List.append_nil, List.getElem?_cons_zero, List.getElem?_cons_succ, List.set_cons_zero, List.set_cons_succ, Option.some.injEq, Prod.mk.injEq, Option.map_some, Option.map_none, W.d.injEq, W.l.injEq, PyData.tuple.injEq, PyData.int.injEq, PyData.bool.injEq, PyData.str.injEq, reduceCtorEq, retOk_d, retOk_1, retOk_2, asgOk_d, asgOk_2, and_assoc, exists_and_left, exists_eq_left', exists_eq_left, true_and, and_true, ex_gD, ex_tN, fLen_gD, fLen_tN, fLen_l, len100, Int.toNat_natCast, Nat.reduceLeDiff, isT_ii, isT_ib, isT_tt, isT_ss, is_integer_eq, is_in_eq, is_list_eq, is_list_tN, is_list_gD, if_true, eq_self, Bool.false_eq_true, if_false, ge1, ge2, one_ne, two_ne, true_implies, unD_append, ex_pair, ex_trip])
  exact r ms h1 h2
theorem sem_ruled_row : ∀ ws R, sp_ruled_row ws R → t_ruled_row { nx := fun _ => R (.d .none), rt := R } (startR ["web", "rule"] ws) := by
  rintro _ R ⟨n, g, s, rfl, o, h, r⟩
  (try simp only [dSeq, dNext, dDrop, dAsg, dAsgG, dRet, dIfS, dPar, dVar, dC, dU, dOp, dTst, dAnd, dOr, dNot, dAndV, dNotV, dChain, dIf, dNil, dCons, dStar, dTup, dLst, dCall, dItL, dItT, dRng1, dRng2, dEnum, gdName, gdTup2, gdTup3, dYes, wipeR, dAppend, dExtend, dPopA, dAugL, dCut, dIsi, dLc_eq, dLc2_eq, dFor, dWhile, fAdd, fSub, fLt, fLe, fGt, fGe, fI2_eq, fNeg_eq, fTuple_nis, fTuple_l, fList_l, fList_tN, fCat_eq, unD_nil, unD_d, startR, List.map_cons, List.map_nil, List.length_cons, List.length_nil, List.replicate, List.cons_append, List.nil_append, Nat.zero_add, Nat.reduceAdd, Nat.reduceSub, List.append_nil, List.getElem?_cons_zero, List.getElem?_cons_succ, List.set_cons_zero, List.set_cons_succ, Option.some.injEq, Prod.mk.injEq, Option.map_some, Option.map_none, W.d.injEq, W.l.injEq, PyData.tuple.injEq, PyData.int.injEq, PyData.bool.injEq, PyData.str.injEq, reduceCtorEq, retOk_d, retOk_1, retOk_2, asgOk_d, asgOk_2, and_assoc, exists_and_left, exists_eq_left', exists_eq_left, true_and, and_true, ex_gD, ex_tN, fLen_gD, fLen_tN, fLen_l, len100, Int.toNat_natCast, Nat.reduceLeDiff, isT_ii, isT_ib, isT_tt, isT_ss, is_integer_eq, is_in_eq, is_list_eq, is_list_tN, is_list_gD, if_true, eq_self, Bool.false_eq_true, if_false, ge1, ge2, one_ne, two_ne, true_implies, unD_append, ex_pair, ex_trip, t_ruled_row])
  refine c_need_web o ?_
  refine c_need_rule h ?_
  refine c_row_in o h fun l hl => ?_
  (try simp only [dSeq, dNext, dDrop, dAsg, dAsgG, dRet, dIfS, dPar, dVar, dC, dU, dOp, dTst, dAnd, dOr, dNot, dAndV, dNotV, dChain, dIf, dNil, dCons, dStar, dTup, dLst, dCall, dItL, dItT, dRng1, dRng2, dEnum, gdName, gdTup2, gdTup3, dYes, wipeR, dAppend, dExtend, dPopA, dAugL, dCut, dIsi, dLc_eq, dLc2_eq, dFor, dWhile, fAdd, fSub, fLt, fLe, fGt, fGe, fI2_eq, fNeg_eq, fTuple_nis, fTuple_l, fList_l, fList_tN, fCat_eq, unD_nil, unD_d, startR, List.map_cons, List.map_nil, List.length_cons, List.length_nil, List.replicate, List.cons_append, List.nil_append, Nat.zero_add, Nat.reduceAdd, Nat.reduceSub, List.append_nil, List.getElem?_cons_zero, List.getElem?_cons_succ, List.set_cons_zero, List.set_cons_succ, Option.some.injEq, Prod.mk.injEq, Option.map_some, Option.map_none, W.d.injEq, W.l.injEq, PyData.tuple.injEq, PyData.int.injEq, PyData.bool.injEq, PyData.str.injEq, reduceCtorEq, retOk_d, retOk_1, retOk_2, asgOk_d, asgOk_2, and_assoc, exists_and_left, exists_eq_left', exists_eq_left, true_and, and_true, ex_gD, ex_tN, fLen_gD, fLen_tN, fLen_l, len100, Int.toNat_natCast, Nat.reduceLeDiff, isT_ii, isT_ib, isT_tt, isT_ss, is_integer_eq, is_in_eq, is_list_eq, is_list_tN, is_list_gD, if_true, eq_self, Bool.false_eq_true, if_false, ge1, ge2, one_ne, two_ne, true_implies, unD_append, ex_pair, ex_trip])
  exact r l hl
theorem sem_need_person : ∀ ws R, sp_need_person ws R → t_need_person { nx := fun _ => R (.d .none), rt := R } (startR ["web", "person"] ws) := by
  rintro _ R ⟨n, g, p, rfl, o, hp, r⟩
  (try simp only [dSeq, dNext, dDrop, dAsg, dAsgG, dRet, dIfS, dPar, dVar, dC, dU, dOp, dTst, dAnd, dOr, dNot, dAndV, dNotV, dChain, dIf, dNil, dCons, dStar, dTup, dLst, dCall, dItL, dItT, dRng1, dRng2, dEnum, gdName, gdTup2, gdTup3, dYes, wipeR, dAppend, dExtend, dPopA, dAugL, dCut, dIsi, dLc_eq, dLc2_eq, dFor, dWhile, fAdd, fSub, fLt, fLe, fGt, fGe, fI2_eq, fNeg_eq, fTuple_nis, fTuple_l, fList_l, fList_tN, fCat_eq, unD_nil, unD_d, startR, List.map_cons, List.map_nil, List.length_cons, List.length_nil, List.replicate, List.cons_append, List.nil_append, Nat.zero_add, Nat.reduceAdd, Nat.reduceSub, List.append_nil, List.getElem?_cons_zero, List.getElem?_cons_succ, List.set_cons_zero, List.set_cons_succ, Option.some.injEq, Prod.mk.injEq, Option.map_some, Option.map_none, W.d.injEq, W.l.injEq, PyData.tuple.injEq, PyData.int.injEq, PyData.bool.injEq, PyData.str.injEq, reduceCtorEq, retOk_d, retOk_1, retOk_2, asgOk_d, asgOk_2, and_assoc, exists_and_left, exists_eq_left', exists_eq_left, true_and, and_true, ex_gD, ex_tN, fLen_gD, fLen_tN, fLen_l, len100, Int.toNat_natCast, Nat.reduceLeDiff, isT_ii, isT_ib, isT_tt, isT_ss, is_integer_eq, is_in_eq, is_list_eq, is_list_tN, is_list_gD, if_true, eq_self, Bool.false_eq_true, if_false, ge1, ge2, one_ne, two_ne, true_implies, unD_append, ex_pair, ex_trip, t_need_person])
  simp only [show decide ((0 : Int) ≤ (p : Int)) = true from decide_eq_true (by omega), show decide ((p : Int) ≤ (n : Int) - 1) = true from decide_eq_true (by omega)]
  exact r
end Wk

/-! part SemB -/
set_option Elab.async false
set_option linter.all false
set_option maxRecDepth 100000
set_option maxHeartbeats 4000000
namespace Wk
open PySem PySem.Spec PyProof.Rows L2 Dw Gg
theorem take_sel {α β : Type} {l : List α} {j : Nat} {k : α} (h : l[j]? = some k) (s : α → Bool) (f : α → β) : ((l.take (j + 1)).filter s).map f = ((l.take j).filter s).map f ++ (if s k = true then [f k] else []) := by
  rw [List.take_add_one, h, List.filter_append, List.map_append]
  congr 1
  show ((([k] : List α).filter s).map f) = _
  cases q : s k <;> simp [q]
theorem ilt {i k : Nat} : decide ((i : Int) < (k : Int)) = decide (i < k) := by simp
/-! pairs_in -/
def prTo (n : Nat) (g : Adj) (i : Nat) : List (Nat × Nat) := (List.range i).flatMap fun a => ((frs n g a).filter fun j => decide (a < j)).map fun j => (a, j)
theorem prTo_succ (n : Nat) (g : Adj) (i : Nat) : prTo n g (i + 1) = prTo n g i ++ ((frs n g i).filter fun j => decide (i < j)).map fun j => (i, j) := by
  unfold prTo
  rw [List.range_succ, List.flatMap_append]
  simp
theorem prTo_len (n : Nat) (g : Adj) : ∀ i, (prTo n g i).length ≤ n * i
  | 0 => by simp [prTo]
  | i + 1 => by
    rw [prTo_succ, List.length_append, List.length_map]
    have h1 := prTo_len n g i
    have h2 : ((frs n g i).filter fun j => decide (i < j)).length ≤ n := Nat.le_trans (List.length_filter_le _ _) frs_len
    rw [Nat.mul_succ]
    omega
theorem sem_pairs_in : ∀ ws R, sp_pairs_in ws R → t_pairs_in { nx := fun _ => R (.d .none), rt := R } (startR ["web", "found", "one", "other"] ws) := by
  rintro _ R ⟨n, g, rfl, o, r⟩
  have hn := o.le
  (try simp only [dSeq, dNext, dDrop, dAsg, dAsgG, dRet, dIfS, dPar, dVar, dC, dU, dOp, dTst, dAnd, dOr, dNot, dAndV, dNotV, dChain, dIf, dNil, dCons, dStar, dTup, dLst, dCall, dItL, dItT, dRng1, dRng2, dEnum, gdName, gdTup2, gdTup3, dYes, wipeR, dAppend, dExtend, dPopA, dAugL, dCut, dIsi, dLc_eq, dLc2_eq, dFor, dWhile, fAdd, fSub, fLt, fLe, fGt, fGe, fI2_eq, fNeg_eq, fTuple_nis, fTuple_l, fList_l, fList_tN, fCat_eq, unD_nil, unD_d, startR, List.map_cons, List.map_nil, List.length_cons, List.length_nil, List.replicate, List.cons_append, List.nil_append, Nat.zero_add, Nat.reduceAdd, Nat.reduceSub, List.append_nil, List.getElem?_cons_zero, List.getElem?_cons_succ, List.set_cons_zero, List.set_cons_succ, Option.some.injEq, Prod.mk.injEq, Option.map_some, Option.map_none, W.d.injEq, W.l.injEq, PyData.tuple.injEq, PyData.int.injEq, PyData.bool.injEq, PyData.str.injEq, reduceCtorEq, retOk_d, retOk_1, retOk_2, asgOk_d, asgOk_2, and_assoc, exists_and_left, exists_eq_left', exists_eq_left, true_and, and_true, ex_gD, ex_tN, fLen_gD, fLen_tN, fLen_l, len100, Int.toNat_natCast, Nat.reduceLeDiff, isT_ii, isT_ib, isT_tt, isT_ss, is_integer_eq, is_in_eq, is_list_eq, is_list_tN, is_list_gD, if_true, eq_self, Bool.false_eq_true, if_false, ge1, ge2, one_ne, two_ne, true_implies, unD_append, ex_pair, ex_trip, t_pairs_in])
  refine ⟨by omega, by omega, fun i ρ' => ∃ a b, ρ' = [some (.d (gD n g), false), some (.l (prD (prTo n g i)), true), a, b], ⟨_, _, rfl⟩, ?_, ?_⟩
  · rintro i x _ hx ⟨a, b, rfl⟩
    obtain ⟨rfl, hi⟩ := rng_nat hx
    (try simp only [dSeq, dNext, dDrop, dAsg, dAsgG, dRet, dIfS, dPar, dVar, dC, dU, dOp, dTst, dAnd, dOr, dNot, dAndV, dNotV, dChain, dIf, dNil, dCons, dStar, dTup, dLst, dCall, dItL, dItT, dRng1, dRng2, dEnum, gdName, gdTup2, gdTup3, dYes, wipeR, dAppend, dExtend, dPopA, dAugL, dCut, dIsi, dLc_eq, dLc2_eq, dFor, dWhile, fAdd, fSub, fLt, fLe, fGt, fGe, fI2_eq, fNeg_eq, fTuple_nis, fTuple_l, fList_l, fList_tN, fCat_eq, unD_nil, unD_d, startR, List.map_cons, List.map_nil, List.length_cons, List.length_nil, List.replicate, List.cons_append, List.nil_append, Nat.zero_add, Nat.reduceAdd, Nat.reduceSub, List.append_nil, List.getElem?_cons_zero, List.getElem?_cons_succ, List.set_cons_zero, List.set_cons_succ, Option.some.injEq, Prod.mk.injEq, Option.map_some, Option.map_none, W.d.injEq, W.l.injEq, PyData.tuple.injEq, PyData.int.injEq, PyData.bool.injEq, PyData.str.injEq, reduceCtorEq, retOk_d, retOk_1, retOk_2, asgOk_d, asgOk_2, and_assoc, exists_and_left, exists_eq_left', exists_eq_left, true_and, and_true, ex_gD, ex_tN, fLen_gD, fLen_tN, fLen_l, len100, Int.toNat_natCast, Nat.reduceLeDiff, isT_ii, isT_ib, isT_tt, isT_ss, is_integer_eq, is_in_eq, is_list_eq, is_list_tN, is_list_gD, if_true, eq_self, Bool.false_eq_true, if_false, ge1, ge2, one_ne, two_ne, true_implies, unD_append, ex_pair, ex_trip])
    refine ix_gD hi ?_
    (try simp only [dSeq, dNext, dDrop, dAsg, dAsgG, dRet, dIfS, dPar, dVar, dC, dU, dOp, dTst, dAnd, dOr, dNot, dAndV, dNotV, dChain, dIf, dNil, dCons, dStar, dTup, dLst, dCall, dItL, dItT, dRng1, dRng2, dEnum, gdName, gdTup2, gdTup3, dYes, wipeR, dAppend, dExtend, dPopA, dAugL, dCut, dIsi, dLc_eq, dLc2_eq, dFor, dWhile, fAdd, fSub, fLt, fLe, fGt, fGe, fI2_eq, fNeg_eq, fTuple_nis, fTuple_l, fList_l, fList_tN, fCat_eq, unD_nil, unD_d, startR, List.map_cons, List.map_nil, List.length_cons, List.length_nil, List.replicate, List.cons_append, List.nil_append, Nat.zero_add, Nat.reduceAdd, Nat.reduceSub, List.append_nil, List.getElem?_cons_zero, List.getElem?_cons_succ, List.set_cons_zero, List.set_cons_succ, Option.some.injEq, Prod.mk.injEq, Option.map_some, Option.map_none, W.d.injEq, W.l.injEq, PyData.tuple.injEq, PyData.int.injEq, PyData.bool.injEq, PyData.str.injEq, reduceCtorEq, retOk_d, retOk_1, retOk_2, asgOk_d, asgOk_2, and_assoc, exists_and_left, exists_eq_left', exists_eq_left, true_and, and_true, ex_gD, ex_tN, fLen_gD, fLen_tN, fLen_l, len100, Int.toNat_natCast, Nat.reduceLeDiff, isT_ii, isT_ib, isT_tt, isT_ss, is_integer_eq, is_in_eq, is_list_eq, is_list_tN, is_list_gD, if_true, eq_self, Bool.false_eq_true, if_false, ge1, ge2, one_ne, two_ne, true_implies, unD_append, ex_pair, ex_trip])
    refine ⟨fun j ρ' => ∃ a, ρ' = [some (.d (gD n g), false), some (.l (prD (prTo n g i ++ (((frs n g i).take j).filter fun k => decide (i < k)).map fun k => (i, k))), true), some (.d (nI i), true), a], ⟨b, by simp⟩, ?_, ?_⟩
    · rintro j y _ hy ⟨a, rfl⟩
      obtain ⟨k, hk, rfl⟩ := nis_at hy
      (try simp only [dSeq, dNext, dDrop, dAsg, dAsgG, dRet, dIfS, dPar, dVar, dC, dU, dOp, dTst, dAnd, dOr, dNot, dAndV, dNotV, dChain, dIf, dNil, dCons, dStar, dTup, dLst, dCall, dItL, dItT, dRng1, dRng2, dEnum, gdName, gdTup2, gdTup3, dYes, wipeR, dAppend, dExtend, dPopA, dAugL, dCut, dIsi, dLc_eq, dLc2_eq, dFor, dWhile, fAdd, fSub, fLt, fLe, fGt, fGe, fI2_eq, fNeg_eq, fTuple_nis, fTuple_l, fList_l, fList_tN, fCat_eq, unD_nil, unD_d, startR, List.map_cons, List.map_nil, List.length_cons, List.length_nil, List.replicate, List.cons_append, List.nil_append, Nat.zero_add, Nat.reduceAdd, Nat.reduceSub, List.append_nil, List.getElem?_cons_zero, List.getElem?_cons_succ, List.set_cons_zero, List.set_cons_succ, Option.some.injEq, Prod.mk.injEq, Option.map_some, Option.map_none, W.d.injEq, W.l.injEq, PyData.tuple.injEq, PyData.int.injEq, PyData.bool.injEq, PyData.str.injEq, reduceCtorEq, retOk_d, retOk_1, retOk_2, asgOk_d, asgOk_2, and_assoc, exists_and_left, exists_eq_left', exists_eq_left, true_and, and_true, ex_gD, ex_tN, fLen_gD, fLen_tN, fLen_l, len100, Int.toNat_natCast, Nat.reduceLeDiff, isT_ii, isT_ib, isT_tt, isT_ss, is_integer_eq, is_in_eq, is_list_eq, is_list_tN, is_list_gD, if_true, eq_self, Bool.false_eq_true, if_false, ge1, ge2, one_ne, two_ne, true_implies, unD_append, ex_pair, ex_trip, ilt])
      have hs := take_sel hk (fun k => decide (i < k)) fun k => (i, k)
      by_cases h : i < k
      · (try simp only [dSeq, dNext, dDrop, dAsg, dAsgG, dRet, dIfS, dPar, dVar, dC, dU, dOp, dTst, dAnd, dOr, dNot, dAndV, dNotV, dChain, dIf, dNil, dCons, dStar, dTup, dLst, dCall, dItL, dItT, dRng1, dRng2, dEnum, gdName, gdTup2, gdTup3, dYes, wipeR, dAppend, dExtend, dPopA, dAugL, dCut, dIsi, dLc_eq, dLc2_eq, dFor, dWhile, fAdd, fSub, fLt, fLe, fGt, fGe, fI2_eq, fNeg_eq, fTuple_nis, fTuple_l, fList_l, fList_tN, fCat_eq, unD_nil, unD_d, startR, List.map_cons, List.map_nil, List.length_cons, List.length_nil, List.replicate, List.cons_append, List.nil_append, Nat.zero_add, Nat.reduceAdd, Nat.reduceSub, List.append_nil, List.getElem?_cons_zero, List.getElem?_cons_succ, List.set_cons_zero, List.set_cons_succ, Option.some.injEq, Prod.mk.injEq, Option.map_some, Option.map_none, W.d.injEq, W.l.injEq, PyData.tuple.injEq, PyData.int.injEq, PyData.bool.injEq, PyData.str.injEq, reduceCtorEq, retOk_d, retOk_1, retOk_2, asgOk_d, asgOk_2, and_assoc, exists_and_left, exists_eq_left', exists_eq_left, true_and, and_true, ex_gD, ex_tN, fLen_gD, fLen_tN, fLen_l, len100, Int.toNat_natCast, Nat.reduceLeDiff, isT_ii, isT_ib, isT_tt, isT_ss, is_integer_eq, is_in_eq, is_list_eq, is_list_tN, is_list_gD, if_true, eq_self, Bool.false_eq_true, if_false, ge1, ge2, one_ne, two_ne, true_implies, unD_append, ex_pair, ex_trip, h, decide_true])
        refine ⟨?_, ⟨some (.d (nI k), true), ?_⟩⟩
        · rw [List.length_map, List.length_append, List.length_map]
          have h1 := prTo_len n g i
          have h2 : (((frs n g i).take j).filter fun k => decide (i < k)).length ≤ n := Nat.le_trans (List.length_filter_le _ _) (Nat.le_trans (List.length_take_le' _ _) frs_len)
          have h3 : n * i ≤ 6 * 6 := Nat.mul_le_mul hn (by omega)
          omega
        · rw [hs, if_pos (decide_eq_true h)]
          simp
      · (try simp only [dSeq, dNext, dDrop, dAsg, dAsgG, dRet, dIfS, dPar, dVar, dC, dU, dOp, dTst, dAnd, dOr, dNot, dAndV, dNotV, dChain, dIf, dNil, dCons, dStar, dTup, dLst, dCall, dItL, dItT, dRng1, dRng2, dEnum, gdName, gdTup2, gdTup3, dYes, wipeR, dAppend, dExtend, dPopA, dAugL, dCut, dIsi, dLc_eq, dLc2_eq, dFor, dWhile, fAdd, fSub, fLt, fLe, fGt, fGe, fI2_eq, fNeg_eq, fTuple_nis, fTuple_l, fList_l, fList_tN, fCat_eq, unD_nil, unD_d, startR, List.map_cons, List.map_nil, List.length_cons, List.length_nil, List.replicate, List.cons_append, List.nil_append, Nat.zero_add, Nat.reduceAdd, Nat.reduceSub, List.append_nil, List.getElem?_cons_zero, List.getElem?_cons_succ, List.set_cons_zero, List.set_cons_succ, Option.some.injEq, Prod.mk.injEq, Option.map_some, Option.map_none, W.d.injEq, W.l.injEq, PyData.tuple.injEq, PyData.int.injEq, PyData.bool.injEq, PyData.str.injEq, reduceCtorEq, retOk_d, retOk_1, retOk_2, asgOk_d, asgOk_2, and_assoc, exists_and_left, exists_eq_left', exists_eq_left, true_and, and_true, ex_gD, ex_tN, fLen_gD, fLen_tN, fLen_l, len100, Int.toNat_natCast, Nat.reduceLeDiff, isT_ii, isT_ib, isT_tt, isT_ss, is_integer_eq, is_in_eq, is_list_eq, is_list_tN, is_list_gD, if_true, eq_self, Bool.false_eq_true, if_false, ge1, ge2, one_ne, two_ne, true_implies, unD_append, ex_pair, ex_trip, h, decide_false])
        refine ⟨some (.d (nI k), true), ?_⟩
        rw [hs, if_neg (by simpa using h)]
        simp
    · rintro _ ⟨a, rfl⟩
      refine ⟨some (.d (nI i), true), a, ?_⟩
      rw [nis_len, List.take_length, prTo_succ]
  · rintro _ ⟨a, b, rfl⟩
    (try simp only [dSeq, dNext, dDrop, dAsg, dAsgG, dRet, dIfS, dPar, dVar, dC, dU, dOp, dTst, dAnd, dOr, dNot, dAndV, dNotV, dChain, dIf, dNil, dCons, dStar, dTup, dLst, dCall, dItL, dItT, dRng1, dRng2, dEnum, gdName, gdTup2, gdTup3, dYes, wipeR, dAppend, dExtend, dPopA, dAugL, dCut, dIsi, dLc_eq, dLc2_eq, dFor, dWhile, fAdd, fSub, fLt, fLe, fGt, fGe, fI2_eq, fNeg_eq, fTuple_nis, fTuple_l, fList_l, fList_tN, fCat_eq, unD_nil, unD_d, startR, List.map_cons, List.map_nil, List.length_cons, List.length_nil, List.replicate, List.cons_append, List.nil_append, Nat.zero_add, Nat.reduceAdd, Nat.reduceSub, List.append_nil, List.getElem?_cons_zero, List.getElem?_cons_succ, List.set_cons_zero, List.set_cons_succ, Option.some.injEq, Prod.mk.injEq, Option.map_some, Option.map_none, W.d.injEq, W.l.injEq, PyData.tuple.injEq, PyData.int.injEq, PyData.bool.injEq, PyData.str.injEq, reduceCtorEq, retOk_d, retOk_1, retOk_2, asgOk_d, asgOk_2, and_assoc, exists_and_left, exists_eq_left', exists_eq_left, true_and, and_true, ex_gD, ex_tN, fLen_gD, fLen_tN, fLen_l, len100, Int.toNat_natCast, Nat.reduceLeDiff, isT_ii, isT_ib, isT_tt, isT_ss, is_integer_eq, is_in_eq, is_list_eq, is_list_tN, is_list_gD, if_true, eq_self, Bool.false_eq_true, if_false, ge1, ge2, one_ne, two_ne, true_implies, unD_append, ex_pair, ex_trip])
    rw [rng_len]
    exact r
/-! movers_in -/
open Classical in
theorem movs_succ (g : Adj) (i : Nat) : ((List.range (i + 1)).filter fun p => decide (Mv g p)) = ((List.range i).filter fun p => decide (Mv g p)) ++ if Mv g i then [i] else [] := by
  rw [List.range_succ, List.filter_append]
  congr 1
  by_cases h : Mv g i <;> simp [h]
theorem filter_range_len (s : Nat → Bool) (i : Nat) : ((List.range i).filter s).length ≤ i := by
  have := List.length_filter_le s (List.range i)
  rwa [List.length_range] at this
theorem nis_app (l : List Nat) (k : Nat) : nis l ++ [nI k] = nis (l ++ [k]) := by simp
open Classical in
theorem sem_movers_in : ∀ ws R, sp_movers_in ws R → t_movers_in { nx := fun _ => R (.d .none), rt := R } (startR ["web", "found", "person"] ws) := by
  rintro _ R ⟨n, g, rfl, o, r⟩
  have hn := o.le
  (try simp only [dSeq, dNext, dDrop, dAsg, dAsgG, dRet, dIfS, dPar, dVar, dC, dU, dOp, dTst, dAnd, dOr, dNot, dAndV, dNotV, dChain, dIf, dNil, dCons, dStar, dTup, dLst, dCall, dItL, dItT, dRng1, dRng2, dEnum, gdName, gdTup2, gdTup3, dYes, wipeR, dAppend, dExtend, dPopA, dAugL, dCut, dIsi, dLc_eq, dLc2_eq, dFor, dWhile, fAdd, fSub, fLt, fLe, fGt, fGe, fI2_eq, fNeg_eq, fTuple_nis, fTuple_l, fList_l, fList_tN, fCat_eq, unD_nil, unD_d, startR, List.map_cons, List.map_nil, List.length_cons, List.length_nil, List.replicate, List.cons_append, List.nil_append, Nat.zero_add, Nat.reduceAdd, Nat.reduceSub, List.append_nil, List.getElem?_cons_zero, List.getElem?_cons_succ, List.set_cons_zero, List.set_cons_succ, Option.some.injEq, Prod.mk.injEq, Option.map_some, Option.map_none, W.d.injEq, W.l.injEq, PyData.tuple.injEq, PyData.int.injEq, PyData.bool.injEq, PyData.str.injEq, reduceCtorEq, retOk_d, retOk_1, retOk_2, asgOk_d, asgOk_2, and_assoc, exists_and_left, exists_eq_left', exists_eq_left, true_and, and_true, ex_gD, ex_tN, fLen_gD, fLen_tN, fLen_l, len100, Int.toNat_natCast, Nat.reduceLeDiff, isT_ii, isT_ib, isT_tt, isT_ss, is_integer_eq, is_in_eq, is_list_eq, is_list_tN, is_list_gD, if_true, eq_self, Bool.false_eq_true, if_false, ge1, ge2, one_ne, two_ne, true_implies, unD_append, ex_pair, ex_trip, t_movers_in])
  refine ⟨by omega, by omega, fun i ρ' => ∃ a, ρ' = [some (.d (gD n g), false), some (.l (nis ((List.range i).filter fun p => decide (Mv g p))), true), a], ⟨_, rfl⟩, ?_, ?_⟩
  · rintro i x _ hx ⟨a, rfl⟩
    obtain ⟨rfl, hi⟩ := rng_nat hx
    (try simp only [dSeq, dNext, dDrop, dAsg, dAsgG, dRet, dIfS, dPar, dVar, dC, dU, dOp, dTst, dAnd, dOr, dNot, dAndV, dNotV, dChain, dIf, dNil, dCons, dStar, dTup, dLst, dCall, dItL, dItT, dRng1, dRng2, dEnum, gdName, gdTup2, gdTup3, dYes, wipeR, dAppend, dExtend, dPopA, dAugL, dCut, dIsi, dLc_eq, dLc2_eq, dFor, dWhile, fAdd, fSub, fLt, fLe, fGt, fGe, fI2_eq, fNeg_eq, fTuple_nis, fTuple_l, fList_l, fList_tN, fCat_eq, unD_nil, unD_d, startR, List.map_cons, List.map_nil, List.length_cons, List.length_nil, List.replicate, List.cons_append, List.nil_append, Nat.zero_add, Nat.reduceAdd, Nat.reduceSub, List.append_nil, List.getElem?_cons_zero, List.getElem?_cons_succ, List.set_cons_zero, List.set_cons_succ, Option.some.injEq, Prod.mk.injEq, Option.map_some, Option.map_none, W.d.injEq, W.l.injEq, PyData.tuple.injEq, PyData.int.injEq, PyData.bool.injEq, PyData.str.injEq, reduceCtorEq, retOk_d, retOk_1, retOk_2, asgOk_d, asgOk_2, and_assoc, exists_and_left, exists_eq_left', exists_eq_left, true_and, and_true, ex_gD, ex_tN, fLen_gD, fLen_tN, fLen_l, len100, Int.toNat_natCast, Nat.reduceLeDiff, isT_ii, isT_ib, isT_tt, isT_ss, is_integer_eq, is_in_eq, is_list_eq, is_list_tN, is_list_gD, if_true, eq_self, Bool.false_eq_true, if_false, ge1, ge2, one_ne, two_ne, true_implies, unD_append, ex_pair, ex_trip])
    refine ix_gD hi ?_
    (try simp only [dSeq, dNext, dDrop, dAsg, dAsgG, dRet, dIfS, dPar, dVar, dC, dU, dOp, dTst, dAnd, dOr, dNot, dAndV, dNotV, dChain, dIf, dNil, dCons, dStar, dTup, dLst, dCall, dItL, dItT, dRng1, dRng2, dEnum, gdName, gdTup2, gdTup3, dYes, wipeR, dAppend, dExtend, dPopA, dAugL, dCut, dIsi, dLc_eq, dLc2_eq, dFor, dWhile, fAdd, fSub, fLt, fLe, fGt, fGe, fI2_eq, fNeg_eq, fTuple_nis, fTuple_l, fList_l, fList_tN, fCat_eq, unD_nil, unD_d, startR, List.map_cons, List.map_nil, List.length_cons, List.length_nil, List.replicate, List.cons_append, List.nil_append, Nat.zero_add, Nat.reduceAdd, Nat.reduceSub, List.append_nil, List.getElem?_cons_zero, List.getElem?_cons_succ, List.set_cons_zero, List.set_cons_succ, Option.some.injEq, Prod.mk.injEq, Option.map_some, Option.map_none, W.d.injEq, W.l.injEq, PyData.tuple.injEq, PyData.int.injEq, PyData.bool.injEq, PyData.str.injEq, reduceCtorEq, retOk_d, retOk_1, retOk_2, asgOk_d, asgOk_2, and_assoc, exists_and_left, exists_eq_left', exists_eq_left, true_and, and_true, ex_gD, ex_tN, fLen_gD, fLen_tN, fLen_l, len100, Int.toNat_natCast, Nat.reduceLeDiff, isT_ii, isT_ib, isT_tt, isT_ss, is_integer_eq, is_in_eq, is_list_eq, is_list_tN, is_list_gD, if_true, eq_self, Bool.false_eq_true, if_false, ge1, ge2, one_ne, two_ne, true_implies, unD_append, ex_pair, ex_trip])
    refine c_is_table o hi fun b hb => ?_
    (try simp only [dSeq, dNext, dDrop, dAsg, dAsgG, dRet, dIfS, dPar, dVar, dC, dU, dOp, dTst, dAnd, dOr, dNot, dAndV, dNotV, dChain, dIf, dNil, dCons, dStar, dTup, dLst, dCall, dItL, dItT, dRng1, dRng2, dEnum, gdName, gdTup2, gdTup3, dYes, wipeR, dAppend, dExtend, dPopA, dAugL, dCut, dIsi, dLc_eq, dLc2_eq, dFor, dWhile, fAdd, fSub, fLt, fLe, fGt, fGe, fI2_eq, fNeg_eq, fTuple_nis, fTuple_l, fList_l, fList_tN, fCat_eq, unD_nil, unD_d, startR, List.map_cons, List.map_nil, List.length_cons, List.length_nil, List.replicate, List.cons_append, List.nil_append, Nat.zero_add, Nat.reduceAdd, Nat.reduceSub, List.append_nil, List.getElem?_cons_zero, List.getElem?_cons_succ, List.set_cons_zero, List.set_cons_succ, Option.some.injEq, Prod.mk.injEq, Option.map_some, Option.map_none, W.d.injEq, W.l.injEq, PyData.tuple.injEq, PyData.int.injEq, PyData.bool.injEq, PyData.str.injEq, reduceCtorEq, retOk_d, retOk_1, retOk_2, asgOk_d, asgOk_2, and_assoc, exists_and_left, exists_eq_left', exists_eq_left, true_and, and_true, ex_gD, ex_tN, fLen_gD, fLen_tN, fLen_l, len100, Int.toNat_natCast, Nat.reduceLeDiff, isT_ii, isT_ib, isT_tt, isT_ss, is_integer_eq, is_in_eq, is_list_eq, is_list_tN, is_list_gD, if_true, eq_self, Bool.false_eq_true, if_false, ge1, ge2, one_ne, two_ne, true_implies, unD_append, ex_pair, ex_trip])
    cases b with
    | true =>
      (try simp only [dSeq, dNext, dDrop, dAsg, dAsgG, dRet, dIfS, dPar, dVar, dC, dU, dOp, dTst, dAnd, dOr, dNot, dAndV, dNotV, dChain, dIf, dNil, dCons, dStar, dTup, dLst, dCall, dItL, dItT, dRng1, dRng2, dEnum, gdName, gdTup2, gdTup3, dYes, wipeR, dAppend, dExtend, dPopA, dAugL, dCut, dIsi, dLc_eq, dLc2_eq, dFor, dWhile, fAdd, fSub, fLt, fLe, fGt, fGe, fI2_eq, fNeg_eq, fTuple_nis, fTuple_l, fList_l, fList_tN, fCat_eq, unD_nil, unD_d, startR, List.map_cons, List.map_nil, List.length_cons, List.length_nil, List.replicate, List.cons_append, List.nil_append, Nat.zero_add, Nat.reduceAdd, Nat.reduceSub, List.append_nil, List.getElem?_cons_zero, List.getElem?_cons_succ, List.set_cons_zero, List.set_cons_succ, Option.some.injEq, Prod.mk.injEq, Option.map_some, Option.map_none, W.d.injEq, W.l.injEq, PyData.tuple.injEq, PyData.int.injEq, PyData.bool.injEq, PyData.str.injEq, reduceCtorEq, retOk_d, retOk_1, retOk_2, asgOk_d, asgOk_2, and_assoc, exists_and_left, exists_eq_left', exists_eq_left, true_and, and_true, ex_gD, ex_tN, fLen_gD, fLen_tN, fLen_l, len100, Int.toNat_natCast, Nat.reduceLeDiff, isT_ii, isT_ib, isT_tt, isT_ss, is_integer_eq, is_in_eq, is_list_eq, is_list_tN, is_list_gD, if_true, eq_self, Bool.false_eq_true, if_false, ge1, ge2, one_ne, two_ne, true_implies, unD_append, ex_pair, ex_trip, Bool.not_true])
      refine ⟨some (.d (nI i), true), ?_⟩
      rw [movs_succ, if_neg (hb.mp rfl), List.append_nil]
    | false =>
      (try simp only [dSeq, dNext, dDrop, dAsg, dAsgG, dRet, dIfS, dPar, dVar, dC, dU, dOp, dTst, dAnd, dOr, dNot, dAndV, dNotV, dChain, dIf, dNil, dCons, dStar, dTup, dLst, dCall, dItL, dItT, dRng1, dRng2, dEnum, gdName, gdTup2, gdTup3, dYes, wipeR, dAppend, dExtend, dPopA, dAugL, dCut, dIsi, dLc_eq, dLc2_eq, dFor, dWhile, fAdd, fSub, fLt, fLe, fGt, fGe, fI2_eq, fNeg_eq, fTuple_nis, fTuple_l, fList_l, fList_tN, fCat_eq, unD_nil, unD_d, startR, List.map_cons, List.map_nil, List.length_cons, List.length_nil, List.replicate, List.cons_append, List.nil_append, Nat.zero_add, Nat.reduceAdd, Nat.reduceSub, List.append_nil, List.getElem?_cons_zero, List.getElem?_cons_succ, List.set_cons_zero, List.set_cons_succ, Option.some.injEq, Prod.mk.injEq, Option.map_some, Option.map_none, W.d.injEq, W.l.injEq, PyData.tuple.injEq, PyData.int.injEq, PyData.bool.injEq, PyData.str.injEq, reduceCtorEq, retOk_d, retOk_1, retOk_2, asgOk_d, asgOk_2, and_assoc, exists_and_left, exists_eq_left', exists_eq_left, true_and, and_true, ex_gD, ex_tN, fLen_gD, fLen_tN, fLen_l, len100, Int.toNat_natCast, Nat.reduceLeDiff, isT_ii, isT_ib, isT_tt, isT_ss, is_integer_eq, is_in_eq, is_list_eq, is_list_tN, is_list_gD, if_true, eq_self, Bool.false_eq_true, if_false, ge1, ge2, one_ne, two_ne, true_implies, unD_append, ex_pair, ex_trip, Bool.not_false])
      have hm : Mv g i := Classical.byContradiction fun h => by cases hb.mpr h
      refine ⟨?_, ⟨some (.d (nI i), true), ?_⟩⟩
      · rw [nis_len]
        have := filter_range_len (fun p => decide (Mv g p)) i
        omega
      · rw [movs_succ, if_pos hm, nis_app]
  · rintro _ ⟨a, rfl⟩
    (try simp only [dSeq, dNext, dDrop, dAsg, dAsgG, dRet, dIfS, dPar, dVar, dC, dU, dOp, dTst, dAnd, dOr, dNot, dAndV, dNotV, dChain, dIf, dNil, dCons, dStar, dTup, dLst, dCall, dItL, dItT, dRng1, dRng2, dEnum, gdName, gdTup2, gdTup3, dYes, wipeR, dAppend, dExtend, dPopA, dAugL, dCut, dIsi, dLc_eq, dLc2_eq, dFor, dWhile, fAdd, fSub, fLt, fLe, fGt, fGe, fI2_eq, fNeg_eq, fTuple_nis, fTuple_l, fList_l, fList_tN, fCat_eq, unD_nil, unD_d, startR, List.map_cons, List.map_nil, List.length_cons, List.length_nil, List.replicate, List.cons_append, List.nil_append, Nat.zero_add, Nat.reduceAdd, Nat.reduceSub, List.append_nil, List.getElem?_cons_zero, List.getElem?_cons_succ, List.set_cons_zero, List.set_cons_succ, Option.some.injEq, Prod.mk.injEq, Option.map_some, Option.map_none, W.d.injEq, W.l.injEq, PyData.tuple.injEq, PyData.int.injEq, PyData.bool.injEq, PyData.str.injEq, reduceCtorEq, retOk_d, retOk_1, retOk_2, asgOk_d, asgOk_2, and_assoc, exists_and_left, exists_eq_left', exists_eq_left, true_and, and_true, ex_gD, ex_tN, fLen_gD, fLen_tN, fLen_l, len100, Int.toNat_natCast, Nat.reduceLeDiff, isT_ii, isT_ib, isT_tt, isT_ss, is_integer_eq, is_in_eq, is_list_eq, is_list_tN, is_list_gD, if_true, eq_self, Bool.false_eq_true, if_false, ge1, ge2, one_ne, two_ne, true_implies, unD_append, ex_pair, ex_trip])
    rw [rng_len]
    exact r
/-! membership -/
theorem in_ints (x : Nat) (l : List Nat) : (nis l).all flatD = true ∧ (nis l).any (fun y => eqF y (nI x)) = decide (x ∈ l) := by
  induction l with
  | nil => exact ⟨rfl, by simp⟩
  | cons a l ih =>
    refine ⟨?_, ?_⟩
    · show (true && (nis l).all flatD) = true
      rw [ih.1]
      rfl
    · show (decide ((a : Int) = (x : Int)) || (nis l).any fun y => eqF y (nI x)) = _
      rw [ih.2]
      by_cases h : x = a
      · subst h
        simp
      · simp [h, show ¬ ((a : Int) = (x : Int)) by omega]
theorem fIn_t {neg : Bool} {x : Nat} {l : List Nat} {k : W → Prop} : fIn neg (.d (nI x)) (.d (tN l)) k = k (.d (.bool (if neg = true then !decide (x ∈ l) else decide (x ∈ l)))) := by
  have h := in_ints x l
  show (true = true ∧ (nis l).all flatD = true ∧ k (.d (.bool (if neg = true then !((nis l).any fun y => eqF y (nI x)) else (nis l).any fun y => eqF y (nI x))))) = _
  rw [h.1, h.2]
  simp
theorem fIn_l {neg : Bool} {x : Nat} {l : List Nat} {k : W → Prop} : fIn neg (.d (nI x)) (.l (nis l)) k = k (.d (.bool (if neg = true then !decide (x ∈ l) else decide (x ∈ l)))) := by
  have h := in_ints x l
  show (true = true ∧ (nis l).all flatD = true ∧ k (.d (.bool (if neg = true then !((nis l).any fun y => eqF y (nI x)) else (nis l).any fun y => eqF y (nI x))))) = _
  rw [h.1, h.2]
  simp
/-! is_table -/
theorem sem_is_table : ∀ ws R, sp_is_table ws R → t_is_table { nx := fun _ => R (.d .none), rt := R } (startR ["web", "people", "one", "other"] ws) := by
  rintro _ R ⟨n, g, p, rfl, o, hp, r⟩
  have hn := o.le
  have hl := frs_len (n := n) (g := g) (i := p)
  (try simp only [dSeq, dNext, dDrop, dAsg, dAsgG, dRet, dIfS, dPar, dVar, dC, dU, dOp, dTst, dAnd, dOr, dNot, dAndV, dNotV, dChain, dIf, dNil, dCons, dStar, dTup, dLst, dCall, dItL, dItT, dRng1, dRng2, dEnum, gdName, gdTup2, gdTup3, dYes, wipeR, dAppend, dExtend, dPopA, dAugL, dCut, dIsi, dLc_eq, dLc2_eq, dFor, dWhile, fAdd, fSub, fLt, fLe, fGt, fGe, fI2_eq, fNeg_eq, fTuple_nis, fTuple_l, fList_l, fList_tN, fCat_eq, unD_nil, unD_d, startR, List.map_cons, List.map_nil, List.length_cons, List.length_nil, List.replicate, List.cons_append, List.nil_append, Nat.zero_add, Nat.reduceAdd, Nat.reduceSub, List.append_nil, List.getElem?_cons_zero, List.getElem?_cons_succ, List.set_cons_zero, List.set_cons_succ, Option.some.injEq, Prod.mk.injEq, Option.map_some, Option.map_none, W.d.injEq, W.l.injEq, PyData.tuple.injEq, PyData.int.injEq, PyData.bool.injEq, PyData.str.injEq, reduceCtorEq, retOk_d, retOk_1, retOk_2, asgOk_d, asgOk_2, and_assoc, exists_and_left, exists_eq_left', exists_eq_left, true_and, and_true, ex_gD, ex_tN, fLen_gD, fLen_tN, fLen_l, len100, Int.toNat_natCast, Nat.reduceLeDiff, isT_ii, isT_ib, isT_tt, isT_ss, is_integer_eq, is_in_eq, is_list_eq, is_list_tN, is_list_gD, if_true, eq_self, Bool.false_eq_true, if_false, ge1, ge2, one_ne, two_ne, true_implies, unD_append, ex_pair, ex_trip, t_is_table])
  refine ⟨by rw [nis_len]; omega, ?_⟩
  refine lc2M (fun a => ((frs n g p).filter fun b => decide (a < b)).map fun b => PyData.bool (decide (b ∈ frs n g a))) (fun a _ b _ => nI_inj) (fun a ha => ?_) (fun a ha => ?_) ?_
  · have han := (mem_frs.mp ha).1
    (try simp only [dSeq, dNext, dDrop, dAsg, dAsgG, dRet, dIfS, dPar, dVar, dC, dU, dOp, dTst, dAnd, dOr, dNot, dAndV, dNotV, dChain, dIf, dNil, dCons, dStar, dTup, dLst, dCall, dItL, dItT, dRng1, dRng2, dEnum, gdName, gdTup2, gdTup3, dYes, wipeR, dAppend, dExtend, dPopA, dAugL, dCut, dIsi, dLc_eq, dLc2_eq, dFor, dWhile, fAdd, fSub, fLt, fLe, fGt, fGe, fI2_eq, fNeg_eq, fTuple_nis, fTuple_l, fList_l, fList_tN, fCat_eq, unD_nil, unD_d, startR, List.map_cons, List.map_nil, List.length_cons, List.length_nil, List.replicate, List.cons_append, List.nil_append, Nat.zero_add, Nat.reduceAdd, Nat.reduceSub, List.append_nil, List.getElem?_cons_zero, List.getElem?_cons_succ, List.set_cons_zero, List.set_cons_succ, Option.some.injEq, Prod.mk.injEq, Option.map_some, Option.map_none, W.d.injEq, W.l.injEq, PyData.tuple.injEq, PyData.int.injEq, PyData.bool.injEq, PyData.str.injEq, reduceCtorEq, retOk_d, retOk_1, retOk_2, asgOk_d, asgOk_2, and_assoc, exists_and_left, exists_eq_left', exists_eq_left, true_and, and_true, ex_gD, ex_tN, fLen_gD, fLen_tN, fLen_l, len100, Int.toNat_natCast, Nat.reduceLeDiff, isT_ii, isT_ib, isT_tt, isT_ss, is_integer_eq, is_in_eq, is_list_eq, is_list_tN, is_list_gD, if_true, eq_self, Bool.false_eq_true, if_false, ge1, ge2, one_ne, two_ne, true_implies, unD_append, ex_pair, ex_trip])
    refine ⟨by rw [List.length_map]; omega, ?_⟩
    refine lcC (enc := nI) (l := frs n g p) (fun b => decide (a < b)) (fun b => PyData.bool (decide (b ∈ frs n g a))) (fun a _ b _ => nI_inj) fun b hb => ?_
    (try simp only [dSeq, dNext, dDrop, dAsg, dAsgG, dRet, dIfS, dPar, dVar, dC, dU, dOp, dTst, dAnd, dOr, dNot, dAndV, dNotV, dChain, dIf, dNil, dCons, dStar, dTup, dLst, dCall, dItL, dItT, dRng1, dRng2, dEnum, gdName, gdTup2, gdTup3, dYes, wipeR, dAppend, dExtend, dPopA, dAugL, dCut, dIsi, dLc_eq, dLc2_eq, dFor, dWhile, fAdd, fSub, fLt, fLe, fGt, fGe, fI2_eq, fNeg_eq, fTuple_nis, fTuple_l, fList_l, fList_tN, fCat_eq, unD_nil, unD_d, startR, List.map_cons, List.map_nil, List.length_cons, List.length_nil, List.replicate, List.cons_append, List.nil_append, Nat.zero_add, Nat.reduceAdd, Nat.reduceSub, List.append_nil, List.getElem?_cons_zero, List.getElem?_cons_succ, List.set_cons_zero, List.set_cons_succ, Option.some.injEq, Prod.mk.injEq, Option.map_some, Option.map_none, W.d.injEq, W.l.injEq, PyData.tuple.injEq, PyData.int.injEq, PyData.bool.injEq, PyData.str.injEq, reduceCtorEq, retOk_d, retOk_1, retOk_2, asgOk_d, asgOk_2, and_assoc, exists_and_left, exists_eq_left', exists_eq_left, true_and, and_true, ex_gD, ex_tN, fLen_gD, fLen_tN, fLen_l, len100, Int.toNat_natCast, Nat.reduceLeDiff, isT_ii, isT_ib, isT_tt, isT_ss, is_integer_eq, is_in_eq, is_list_eq, is_list_tN, is_list_gD, if_true, eq_self, Bool.false_eq_true, if_false, ge1, ge2, one_ne, two_ne, true_implies, unD_append, ex_pair, ex_trip, ilt])
    intro _
    refine ix_gD han ?_
    rw [fIn_t]
    (try simp only [dSeq, dNext, dDrop, dAsg, dAsgG, dRet, dIfS, dPar, dVar, dC, dU, dOp, dTst, dAnd, dOr, dNot, dAndV, dNotV, dChain, dIf, dNil, dCons, dStar, dTup, dLst, dCall, dItL, dItT, dRng1, dRng2, dEnum, gdName, gdTup2, gdTup3, dYes, wipeR, dAppend, dExtend, dPopA, dAugL, dCut, dIsi, dLc_eq, dLc2_eq, dFor, dWhile, fAdd, fSub, fLt, fLe, fGt, fGe, fI2_eq, fNeg_eq, fTuple_nis, fTuple_l, fList_l, fList_tN, fCat_eq, unD_nil, unD_d, startR, List.map_cons, List.map_nil, List.length_cons, List.length_nil, List.replicate, List.cons_append, List.nil_append, Nat.zero_add, Nat.reduceAdd, Nat.reduceSub, List.append_nil, List.getElem?_cons_zero, List.getElem?_cons_succ, List.set_cons_zero, List.set_cons_succ, Option.some.injEq, Prod.mk.injEq, Option.map_some, Option.map_none, W.d.injEq, W.l.injEq, PyData.tuple.injEq, PyData.int.injEq, PyData.bool.injEq, PyData.str.injEq, reduceCtorEq, retOk_d, retOk_1, retOk_2, asgOk_d, asgOk_2, and_assoc, exists_and_left, exists_eq_left', exists_eq_left, true_and, and_true, ex_gD, ex_tN, fLen_gD, fLen_tN, fLen_l, len100, Int.toNat_natCast, Nat.reduceLeDiff, isT_ii, isT_ib, isT_tt, isT_ss, is_integer_eq, is_in_eq, is_list_eq, is_list_tN, is_list_gD, if_true, eq_self, Bool.false_eq_true, if_false, ge1, ge2, one_ne, two_ne, true_implies, unD_append, ex_pair, ex_trip])
  · rw [List.length_map]
    have := List.length_filter_le (fun b => decide (a < b)) (frs n g p)
    omega
  · refine ⟨(frs n g p).flatMap fun a => ((frs n g p).filter fun b => decide (a < b)).map fun b => decide (b ∈ frs n g a), ?_, ?_⟩
    · rw [List.map_flatMap]
      simp [List.map_map, Function.comp_def]
    · (try simp only [dSeq, dNext, dDrop, dAsg, dAsgG, dRet, dIfS, dPar, dVar, dC, dU, dOp, dTst, dAnd, dOr, dNot, dAndV, dNotV, dChain, dIf, dNil, dCons, dStar, dTup, dLst, dCall, dItL, dItT, dRng1, dRng2, dEnum, gdName, gdTup2, gdTup3, dYes, wipeR, dAppend, dExtend, dPopA, dAugL, dCut, dIsi, dLc_eq, dLc2_eq, dFor, dWhile, fAdd, fSub, fLt, fLe, fGt, fGe, fI2_eq, fNeg_eq, fTuple_nis, fTuple_l, fList_l, fList_tN, fCat_eq, unD_nil, unD_d, startR, List.map_cons, List.map_nil, List.length_cons, List.length_nil, List.replicate, List.cons_append, List.nil_append, Nat.zero_add, Nat.reduceAdd, Nat.reduceSub, List.append_nil, List.getElem?_cons_zero, List.getElem?_cons_succ, List.set_cons_zero, List.set_cons_succ, Option.some.injEq, Prod.mk.injEq, Option.map_some, Option.map_none, W.d.injEq, W.l.injEq, PyData.tuple.injEq, PyData.int.injEq, PyData.bool.injEq, PyData.str.injEq, reduceCtorEq, retOk_d, retOk_1, retOk_2, asgOk_d, asgOk_2, and_assoc, exists_and_left, exists_eq_left', exists_eq_left, true_and, and_true, ex_gD, ex_tN, fLen_gD, fLen_tN, fLen_l, len100, Int.toNat_natCast, Nat.reduceLeDiff, isT_ii, isT_ib, isT_tt, isT_ss, is_integer_eq, is_in_eq, is_list_eq, is_list_tN, is_list_gD, if_true, eq_self, Bool.false_eq_true, if_false, ge1, ge2, one_ne, two_ne, true_implies, unD_append, ex_pair, ex_trip])
      refine r _ ?_
      rw [nm_iff o, List.all_eq_true]
      constructor
      · intro h i j hi hj ne
        have key : ∀ i j, g p i = true → g p j = true → i < j → g i j = true := fun i j hi hj lt => by
          have := h (decide (j ∈ frs n g i)) (List.mem_flatMap.mpr ⟨i, mem_frs.mpr ⟨o.lt2 hi, hi⟩, List.mem_map.mpr ⟨j, List.mem_filter.mpr ⟨mem_frs.mpr ⟨o.lt2 hj, hj⟩, decide_eq_true lt⟩, rfl⟩⟩)
          exact (mem_frs.mp (of_decide_eq_true this)).2
        rcases Nat.lt_or_gt_of_ne ne with q | q
        · exact key i j hi hj q
        · rw [o.sym]
          exact key j i hj hi q
      · intro h x hx
        obtain ⟨a, ha, hx⟩ := List.mem_flatMap.mp hx
        obtain ⟨b, hb, rfl⟩ := List.mem_map.mp hx
        obtain ⟨hb, lt⟩ := List.mem_filter.mp hb
        have lt := of_decide_eq_true lt
        exact decide_eq_true (mem_frs.mpr ⟨(mem_frs.mp hb).1, h a b (mem_frs.mp ha).2 (mem_frs.mp hb).2 (by omega)⟩)
/-! webs by pairs -/
theorem edges_eq {n : Nat} {g : Adj} {ps : List (Nat × Nat)} (o : Ok n g) (hlt : ∀ p ∈ ps, p.1 < p.2) (h : ∀ i j, i < j → ((i, j) ∈ ps ↔ g i j = true)) : edgesG ps = g := by
  funext i j
  refine bool_ext ⟨fun e => ?_, fun e => ?_⟩
  · rcases edges_at.mp e with e | e
    · exact (h i j (hlt _ e)).mp e
    · rw [o.sym]
      exact (h j i (hlt _ e)).mp e
  · rcases Nat.lt_or_gt_of_ne (o.ne e) with q | q
    · exact edges_at.mpr (.inl ((h i j q).mpr e))
    · rw [o.sym] at e
      exact edges_at.mpr (.inr ((h j i q).mpr e))
theorem prs_len {n : Nat} {g : Adj} (hn : n ≤ 6) : (prs n g).length ≤ 15 := cnt_le g hn
theorem flat_le {α β : Type} {m : Nat} {f : α → List β} : ∀ {l : List α}, (∀ a ∈ l, (f a).length ≤ m) → (l.flatMap f).length ≤ m * l.length
  | [], _ => by simp
  | a :: l, h => by
    rw [List.flatMap_cons, List.length_append, List.length_cons, Nat.mul_succ]
    have h1 := h a (List.mem_cons_self ..)
    have h2 := flat_le (l := l) fun b hb => h b (List.mem_cons_of_mem _ hb)
    omega
theorem sem_call_in : ∀ ws R, sp_call_in ws R → t_call_in { nx := fun _ => R (.d .none), rt := R } (startR ["web", "person", "some", "one", "other"] ws) := by
  rintro _ R ⟨n, g, p, rfl, o, hp, r⟩
  have hn := o.le
  have hl := frs_len (n := n) (g := g) (i := p)
  (try simp only [dSeq, dNext, dDrop, dAsg, dAsgG, dRet, dIfS, dPar, dVar, dC, dU, dOp, dTst, dAnd, dOr, dNot, dAndV, dNotV, dChain, dIf, dNil, dCons, dStar, dTup, dLst, dCall, dItL, dItT, dRng1, dRng2, dEnum, gdName, gdTup2, gdTup3, dYes, wipeR, dAppend, dExtend, dPopA, dAugL, dCut, dIsi, dLc_eq, dLc2_eq, dFor, dWhile, fAdd, fSub, fLt, fLe, fGt, fGe, fI2_eq, fNeg_eq, fTuple_nis, fTuple_l, fList_l, fList_tN, fCat_eq, unD_nil, unD_d, startR, List.map_cons, List.map_nil, List.length_cons, List.length_nil, List.replicate, List.cons_append, List.nil_append, Nat.zero_add, Nat.reduceAdd, Nat.reduceSub, List.append_nil, List.getElem?_cons_zero, List.getElem?_cons_succ, List.set_cons_zero, List.set_cons_succ, Option.some.injEq, Prod.mk.injEq, Option.map_some, Option.map_none, W.d.injEq, W.l.injEq, PyData.tuple.injEq, PyData.int.injEq, PyData.bool.injEq, PyData.str.injEq, reduceCtorEq, retOk_d, retOk_1, retOk_2, asgOk_d, asgOk_2, and_assoc, exists_and_left, exists_eq_left', exists_eq_left, true_and, and_true, ex_gD, ex_tN, fLen_gD, fLen_tN, fLen_l, len100, Int.toNat_natCast, Nat.reduceLeDiff, isT_ii, isT_ib, isT_tt, isT_ss, is_integer_eq, is_in_eq, is_list_eq, is_list_tN, is_list_gD, if_true, eq_self, Bool.false_eq_true, if_false, ge1, ge2, one_ne, two_ne, true_implies, unD_append, ex_pair, ex_trip, t_call_in])
  refine ix_gD hp ?_
  (try simp only [dSeq, dNext, dDrop, dAsg, dAsgG, dRet, dIfS, dPar, dVar, dC, dU, dOp, dTst, dAnd, dOr, dNot, dAndV, dNotV, dChain, dIf, dNil, dCons, dStar, dTup, dLst, dCall, dItL, dItT, dRng1, dRng2, dEnum, gdName, gdTup2, gdTup3, dYes, wipeR, dAppend, dExtend, dPopA, dAugL, dCut, dIsi, dLc_eq, dLc2_eq, dFor, dWhile, fAdd, fSub, fLt, fLe, fGt, fGe, fI2_eq, fNeg_eq, fTuple_nis, fTuple_l, fList_l, fList_tN, fCat_eq, unD_nil, unD_d, startR, List.map_cons, List.map_nil, List.length_cons, List.length_nil, List.replicate, List.cons_append, List.nil_append, Nat.zero_add, Nat.reduceAdd, Nat.reduceSub, List.append_nil, List.getElem?_cons_zero, List.getElem?_cons_succ, List.set_cons_zero, List.set_cons_succ, Option.some.injEq, Prod.mk.injEq, Option.map_some, Option.map_none, W.d.injEq, W.l.injEq, PyData.tuple.injEq, PyData.int.injEq, PyData.bool.injEq, PyData.str.injEq, reduceCtorEq, retOk_d, retOk_1, retOk_2, asgOk_d, asgOk_2, and_assoc, exists_and_left, exists_eq_left', exists_eq_left, true_and, and_true, ex_gD, ex_tN, fLen_gD, fLen_tN, fLen_l, len100, Int.toNat_natCast, Nat.reduceLeDiff, isT_ii, isT_ib, isT_tt, isT_ss, is_integer_eq, is_in_eq, is_list_eq, is_list_tN, is_list_gD, if_true, eq_self, Bool.false_eq_true, if_false, ge1, ge2, one_ne, two_ne, true_implies, unD_append, ex_pair, ex_trip])
  refine ⟨by rw [nis_len]; omega, ?_⟩
  refine lc2M (fun a => ((frs n g p).filter fun b => decide (a < b)).map fun b => pD (a, b)) (fun a _ b _ => nI_inj) (fun a ha => ?_) (fun a ha => ?_) ?_
  · (try simp only [dSeq, dNext, dDrop, dAsg, dAsgG, dRet, dIfS, dPar, dVar, dC, dU, dOp, dTst, dAnd, dOr, dNot, dAndV, dNotV, dChain, dIf, dNil, dCons, dStar, dTup, dLst, dCall, dItL, dItT, dRng1, dRng2, dEnum, gdName, gdTup2, gdTup3, dYes, wipeR, dAppend, dExtend, dPopA, dAugL, dCut, dIsi, dLc_eq, dLc2_eq, dFor, dWhile, fAdd, fSub, fLt, fLe, fGt, fGe, fI2_eq, fNeg_eq, fTuple_nis, fTuple_l, fList_l, fList_tN, fCat_eq, unD_nil, unD_d, startR, List.map_cons, List.map_nil, List.length_cons, List.length_nil, List.replicate, List.cons_append, List.nil_append, Nat.zero_add, Nat.reduceAdd, Nat.reduceSub, List.append_nil, List.getElem?_cons_zero, List.getElem?_cons_succ, List.set_cons_zero, List.set_cons_succ, Option.some.injEq, Prod.mk.injEq, Option.map_some, Option.map_none, W.d.injEq, W.l.injEq, PyData.tuple.injEq, PyData.int.injEq, PyData.bool.injEq, PyData.str.injEq, reduceCtorEq, retOk_d, retOk_1, retOk_2, asgOk_d, asgOk_2, and_assoc, exists_and_left, exists_eq_left', exists_eq_left, true_and, and_true, ex_gD, ex_tN, fLen_gD, fLen_tN, fLen_l, len100, Int.toNat_natCast, Nat.reduceLeDiff, isT_ii, isT_ib, isT_tt, isT_ss, is_integer_eq, is_in_eq, is_list_eq, is_list_tN, is_list_gD, if_true, eq_self, Bool.false_eq_true, if_false, ge1, ge2, one_ne, two_ne, true_implies, unD_append, ex_pair, ex_trip])
    refine ix_gD hp ?_
    (try simp only [dSeq, dNext, dDrop, dAsg, dAsgG, dRet, dIfS, dPar, dVar, dC, dU, dOp, dTst, dAnd, dOr, dNot, dAndV, dNotV, dChain, dIf, dNil, dCons, dStar, dTup, dLst, dCall, dItL, dItT, dRng1, dRng2, dEnum, gdName, gdTup2, gdTup3, dYes, wipeR, dAppend, dExtend, dPopA, dAugL, dCut, dIsi, dLc_eq, dLc2_eq, dFor, dWhile, fAdd, fSub, fLt, fLe, fGt, fGe, fI2_eq, fNeg_eq, fTuple_nis, fTuple_l, fList_l, fList_tN, fCat_eq, unD_nil, unD_d, startR, List.map_cons, List.map_nil, List.length_cons, List.length_nil, List.replicate, List.cons_append, List.nil_append, Nat.zero_add, Nat.reduceAdd, Nat.reduceSub, List.append_nil, List.getElem?_cons_zero, List.getElem?_cons_succ, List.set_cons_zero, List.set_cons_succ, Option.some.injEq, Prod.mk.injEq, Option.map_some, Option.map_none, W.d.injEq, W.l.injEq, PyData.tuple.injEq, PyData.int.injEq, PyData.bool.injEq, PyData.str.injEq, reduceCtorEq, retOk_d, retOk_1, retOk_2, asgOk_d, asgOk_2, and_assoc, exists_and_left, exists_eq_left', exists_eq_left, true_and, and_true, ex_gD, ex_tN, fLen_gD, fLen_tN, fLen_l, len100, Int.toNat_natCast, Nat.reduceLeDiff, isT_ii, isT_ib, isT_tt, isT_ss, is_integer_eq, is_in_eq, is_list_eq, is_list_tN, is_list_gD, if_true, eq_self, Bool.false_eq_true, if_false, ge1, ge2, one_ne, two_ne, true_implies, unD_append, ex_pair, ex_trip])
    refine ⟨by rw [nis_len]; omega, ?_⟩
    refine lcC (enc := nI) (l := frs n g p) (fun b => decide (a < b)) (fun b => pD (a, b)) (fun a _ b _ => nI_inj) fun b hb => ?_
    (try simp only [dSeq, dNext, dDrop, dAsg, dAsgG, dRet, dIfS, dPar, dVar, dC, dU, dOp, dTst, dAnd, dOr, dNot, dAndV, dNotV, dChain, dIf, dNil, dCons, dStar, dTup, dLst, dCall, dItL, dItT, dRng1, dRng2, dEnum, gdName, gdTup2, gdTup3, dYes, wipeR, dAppend, dExtend, dPopA, dAugL, dCut, dIsi, dLc_eq, dLc2_eq, dFor, dWhile, fAdd, fSub, fLt, fLe, fGt, fGe, fI2_eq, fNeg_eq, fTuple_nis, fTuple_l, fList_l, fList_tN, fCat_eq, unD_nil, unD_d, startR, List.map_cons, List.map_nil, List.length_cons, List.length_nil, List.replicate, List.cons_append, List.nil_append, Nat.zero_add, Nat.reduceAdd, Nat.reduceSub, List.append_nil, List.getElem?_cons_zero, List.getElem?_cons_succ, List.set_cons_zero, List.set_cons_succ, Option.some.injEq, Prod.mk.injEq, Option.map_some, Option.map_none, W.d.injEq, W.l.injEq, PyData.tuple.injEq, PyData.int.injEq, PyData.bool.injEq, PyData.str.injEq, reduceCtorEq, retOk_d, retOk_1, retOk_2, asgOk_d, asgOk_2, and_assoc, exists_and_left, exists_eq_left', exists_eq_left, true_and, and_true, ex_gD, ex_tN, fLen_gD, fLen_tN, fLen_l, len100, Int.toNat_natCast, Nat.reduceLeDiff, isT_ii, isT_ib, isT_tt, isT_ss, is_integer_eq, is_in_eq, is_list_eq, is_list_tN, is_list_gD, if_true, eq_self, Bool.false_eq_true, if_false, ge1, ge2, one_ne, two_ne, true_implies, unD_append, ex_pair, ex_trip, ilt])
    intro _
    trivial
  · rw [List.length_map]
    have := List.length_filter_le (fun b => decide (a < b)) (frs n g p)
    omega
  · (try simp only [dSeq, dNext, dDrop, dAsg, dAsgG, dRet, dIfS, dPar, dVar, dC, dU, dOp, dTst, dAnd, dOr, dNot, dAndV, dNotV, dChain, dIf, dNil, dCons, dStar, dTup, dLst, dCall, dItL, dItT, dRng1, dRng2, dEnum, gdName, gdTup2, gdTup3, dYes, wipeR, dAppend, dExtend, dPopA, dAugL, dCut, dIsi, dLc_eq, dLc2_eq, dFor, dWhile, fAdd, fSub, fLt, fLe, fGt, fGe, fI2_eq, fNeg_eq, fTuple_nis, fTuple_l, fList_l, fList_tN, fCat_eq, unD_nil, unD_d, startR, List.map_cons, List.map_nil, List.length_cons, List.length_nil, List.replicate, List.cons_append, List.nil_append, Nat.zero_add, Nat.reduceAdd, Nat.reduceSub, List.append_nil, List.getElem?_cons_zero, List.getElem?_cons_succ, List.set_cons_zero, List.set_cons_succ, Option.some.injEq, Prod.mk.injEq, Option.map_some, Option.map_none, W.d.injEq, W.l.injEq, PyData.tuple.injEq, PyData.int.injEq, PyData.bool.injEq, PyData.str.injEq, reduceCtorEq, retOk_d, retOk_1, retOk_2, asgOk_d, asgOk_2, and_assoc, exists_and_left, exists_eq_left', exists_eq_left, true_and, and_true, ex_gD, ex_tN, fLen_gD, fLen_tN, fLen_l, len100, Int.toNat_natCast, Nat.reduceLeDiff, isT_ii, isT_ib, isT_tt, isT_ss, is_integer_eq, is_in_eq, is_list_eq, is_list_tN, is_list_gD, if_true, eq_self, Bool.false_eq_true, if_false, ge1, ge2, one_ne, two_ne, true_implies, unD_append, ex_pair, ex_trip])
    refine c_pairs_in o ?_
    let some := (frs n g p).flatMap fun a => ((frs n g p).filter fun b => decide (a < b)).map fun b => (a, b)
    have e : ((frs n g p).flatMap fun a => ((frs n g p).filter fun b => decide (a < b)).map fun b => pD (a, b)) = prD some := by
      show _ = some.map pD
      rw [List.map_flatMap]
      simp [List.map_map, Function.comp_def]
    rw [e]
    have l1 : some.length ≤ 6 * (frs n g p).length := flat_le fun a _ => by
      rw [List.length_map]
      have := List.length_filter_le (fun b => decide (a < b)) (frs n g p)
      omega
    have l2 := prs_len (g := g) hn
    have ms : ∀ i j, (i, j) ∈ some ↔ g p i = true ∧ g p j = true ∧ i < j := fun i j => by
      show (i, j) ∈ List.flatMap _ _ ↔ _
      simp only [List.mem_flatMap, List.mem_map, List.mem_filter, decide_eq_true_eq, mem_frs]
      constructor
      · rintro ⟨a, ⟨_, ha⟩, b, ⟨⟨_, hb⟩, lt⟩, e⟩
        cases e
        exact ⟨ha, hb, lt⟩
      · rintro ⟨ha, hb, lt⟩
        exact ⟨i, ⟨o.lt2 ha, ha⟩, j, ⟨⟨o.lt2 hb, hb⟩, lt⟩, rfl⟩
    refine ⟨by simp only [List.length_map]; omega, ?_⟩
    have e2 : prD (prs n g) ++ prD some = prD (prs n g ++ some) := (List.map_append).symm
    rw [e2]
    have hlt : ∀ q ∈ prs n g ++ some, q.1 < q.2 := fun q hq => by
      rcases List.mem_append.mp hq with hq | hq
      · exact (mem_prs.mp hq).1
      · exact ((ms q.1 q.2).mp hq).2.2
    refine c_web_by o.pos hn (by rw [List.length_append]; omega) (fun q hq => ?_) ?_
    · have h1 := hlt q hq
      rcases List.mem_append.mp hq with hq | hq
      · have := (mem_prs.mp hq).2.1
        omega
      · have h2 := o.lt2 ((ms q.1 q.2).mp hq).2.1
        omega
    · (try simp only [dSeq, dNext, dDrop, dAsg, dAsgG, dRet, dIfS, dPar, dVar, dC, dU, dOp, dTst, dAnd, dOr, dNot, dAndV, dNotV, dChain, dIf, dNil, dCons, dStar, dTup, dLst, dCall, dItL, dItT, dRng1, dRng2, dEnum, gdName, gdTup2, gdTup3, dYes, wipeR, dAppend, dExtend, dPopA, dAugL, dCut, dIsi, dLc_eq, dLc2_eq, dFor, dWhile, fAdd, fSub, fLt, fLe, fGt, fGe, fI2_eq, fNeg_eq, fTuple_nis, fTuple_l, fList_l, fList_tN, fCat_eq, unD_nil, unD_d, startR, List.map_cons, List.map_nil, List.length_cons, List.length_nil, List.replicate, List.cons_append, List.nil_append, Nat.zero_add, Nat.reduceAdd, Nat.reduceSub, List.append_nil, List.getElem?_cons_zero, List.getElem?_cons_succ, List.set_cons_zero, List.set_cons_succ, Option.some.injEq, Prod.mk.injEq, Option.map_some, Option.map_none, W.d.injEq, W.l.injEq, PyData.tuple.injEq, PyData.int.injEq, PyData.bool.injEq, PyData.str.injEq, reduceCtorEq, retOk_d, retOk_1, retOk_2, asgOk_d, asgOk_2, and_assoc, exists_and_left, exists_eq_left', exists_eq_left, true_and, and_true, ex_gD, ex_tN, fLen_gD, fLen_tN, fLen_l, len100, Int.toNat_natCast, Nat.reduceLeDiff, isT_ii, isT_ib, isT_tt, isT_ss, is_integer_eq, is_in_eq, is_list_eq, is_list_tN, is_list_gD, if_true, eq_self, Bool.false_eq_true, if_false, ge1, ge2, one_ne, two_ne, true_implies, unD_append, ex_pair, ex_trip])
      rw [edges_eq (o.call p) hlt fun i j lt => ?_]
      · exact r
      · rw [List.mem_append, mem_prs, ms, call_at]
        constructor
        · rintro (⟨_, _, h⟩ | ⟨h1, h2, h3⟩)
          · exact .inl h
          · exact .inr ⟨h1, h2, by omega⟩
        · rintro (h | ⟨h1, h2, h3⟩)
          · exact .inl ⟨lt, o.lt2 h, h⟩
          · exact .inr ⟨h1, h2, lt⟩
theorem in_pair (x : Nat) (q : Nat × Nat) : ([nI q.1, nI q.2] : List PyData).any (fun y => eqF y (nI x)) = decide (x = q.1 ∨ x = q.2) := by
  show (decide ((q.1 : Int) = (x : Int)) || (decide ((q.2 : Int) = (x : Int)) || false)) = _
  rw [Bool.or_false, ← Bool.decide_or]
  exact decide_eq_decide.mpr (by omega)
theorem fIn_p {neg : Bool} {x : Nat} {q : Nat × Nat} {k : W → Prop} : fIn neg (.d (nI x)) (.d (pD q)) k = k (.d (.bool (if neg = true then !decide (x = q.1 ∨ x = q.2) else decide (x = q.1 ∨ x = q.2)))) := by
  show (true = true ∧ true = true ∧ k (.d (.bool (if neg = true then !(([nI q.1, nI q.2] : List PyData).any fun y => eqF y (nI x)) else ([nI q.1, nI q.2] : List PyData).any fun y => eqF y (nI x))))) = _
  rw [in_pair]
  simp
theorem sem_without : ∀ ws R, sp_without ws R → t_without { nx := fun _ => R (.d .none), rt := R } (startR ["web", "person", "pair"] ws) := by
  rintro _ R ⟨n, g, p, rfl, o, hp, r⟩
  have hn := o.le
  have l2 := prs_len (g := g) hn
  (try simp only [dSeq, dNext, dDrop, dAsg, dAsgG, dRet, dIfS, dPar, dVar, dC, dU, dOp, dTst, dAnd, dOr, dNot, dAndV, dNotV, dChain, dIf, dNil, dCons, dStar, dTup, dLst, dCall, dItL, dItT, dRng1, dRng2, dEnum, gdName, gdTup2, gdTup3, dYes, wipeR, dAppend, dExtend, dPopA, dAugL, dCut, dIsi, dLc_eq, dLc2_eq, dFor, dWhile, fAdd, fSub, fLt, fLe, fGt, fGe, fI2_eq, fNeg_eq, fTuple_nis, fTuple_l, fList_l, fList_tN, fCat_eq, unD_nil, unD_d, startR, List.map_cons, List.map_nil, List.length_cons, List.length_nil, List.replicate, List.cons_append, List.nil_append, Nat.zero_add, Nat.reduceAdd, Nat.reduceSub, List.append_nil, List.getElem?_cons_zero, List.getElem?_cons_succ, List.set_cons_zero, List.set_cons_succ, Option.some.injEq, Prod.mk.injEq, Option.map_some, Option.map_none, W.d.injEq, W.l.injEq, PyData.tuple.injEq, PyData.int.injEq, PyData.bool.injEq, PyData.str.injEq, reduceCtorEq, retOk_d, retOk_1, retOk_2, asgOk_d, asgOk_2, and_assoc, exists_and_left, exists_eq_left', exists_eq_left, true_and, and_true, ex_gD, ex_tN, fLen_gD, fLen_tN, fLen_l, len100, Int.toNat_natCast, Nat.reduceLeDiff, isT_ii, isT_ib, isT_tt, isT_ss, is_integer_eq, is_in_eq, is_list_eq, is_list_tN, is_list_gD, if_true, eq_self, Bool.false_eq_true, if_false, ge1, ge2, one_ne, two_ne, true_implies, unD_append, ex_pair, ex_trip, t_without])
  refine c_pairs_in o ?_
  (try simp only [dSeq, dNext, dDrop, dAsg, dAsgG, dRet, dIfS, dPar, dVar, dC, dU, dOp, dTst, dAnd, dOr, dNot, dAndV, dNotV, dChain, dIf, dNil, dCons, dStar, dTup, dLst, dCall, dItL, dItT, dRng1, dRng2, dEnum, gdName, gdTup2, gdTup3, dYes, wipeR, dAppend, dExtend, dPopA, dAugL, dCut, dIsi, dLc_eq, dLc2_eq, dFor, dWhile, fAdd, fSub, fLt, fLe, fGt, fGe, fI2_eq, fNeg_eq, fTuple_nis, fTuple_l, fList_l, fList_tN, fCat_eq, unD_nil, unD_d, startR, List.map_cons, List.map_nil, List.length_cons, List.length_nil, List.replicate, List.cons_append, List.nil_append, Nat.zero_add, Nat.reduceAdd, Nat.reduceSub, List.append_nil, List.getElem?_cons_zero, List.getElem?_cons_succ, List.set_cons_zero, List.set_cons_succ, Option.some.injEq, Prod.mk.injEq, Option.map_some, Option.map_none, W.d.injEq, W.l.injEq, PyData.tuple.injEq, PyData.int.injEq, PyData.bool.injEq, PyData.str.injEq, reduceCtorEq, retOk_d, retOk_1, retOk_2, asgOk_d, asgOk_2, and_assoc, exists_and_left, exists_eq_left', exists_eq_left, true_and, and_true, ex_gD, ex_tN, fLen_gD, fLen_tN, fLen_l, len100, Int.toNat_natCast, Nat.reduceLeDiff, isT_ii, isT_ib, isT_tt, isT_ss, is_integer_eq, is_in_eq, is_list_eq, is_list_tN, is_list_gD, if_true, eq_self, Bool.false_eq_true, if_false, ge1, ge2, one_ne, two_ne, true_implies, unD_append, ex_pair, ex_trip])
  refine ⟨by rw [List.length_map]; omega, ?_⟩
  refine lcM (enc := pD) (fun q => !decide (p = q.1 ∨ p = q.2)) pD (fun a _ b _ => pD_inj) (fun q hq => ?_) ?_
  · (try simp only [dSeq, dNext, dDrop, dAsg, dAsgG, dRet, dIfS, dPar, dVar, dC, dU, dOp, dTst, dAnd, dOr, dNot, dAndV, dNotV, dChain, dIf, dNil, dCons, dStar, dTup, dLst, dCall, dItL, dItT, dRng1, dRng2, dEnum, gdName, gdTup2, gdTup3, dYes, wipeR, dAppend, dExtend, dPopA, dAugL, dCut, dIsi, dLc_eq, dLc2_eq, dFor, dWhile, fAdd, fSub, fLt, fLe, fGt, fGe, fI2_eq, fNeg_eq, fTuple_nis, fTuple_l, fList_l, fList_tN, fCat_eq, unD_nil, unD_d, startR, List.map_cons, List.map_nil, List.length_cons, List.length_nil, List.replicate, List.cons_append, List.nil_append, Nat.zero_add, Nat.reduceAdd, Nat.reduceSub, List.append_nil, List.getElem?_cons_zero, List.getElem?_cons_succ, List.set_cons_zero, List.set_cons_succ, Option.some.injEq, Prod.mk.injEq, Option.map_some, Option.map_none, W.d.injEq, W.l.injEq, PyData.tuple.injEq, PyData.int.injEq, PyData.bool.injEq, PyData.str.injEq, reduceCtorEq, retOk_d, retOk_1, retOk_2, asgOk_d, asgOk_2, and_assoc, exists_and_left, exists_eq_left', exists_eq_left, true_and, and_true, ex_gD, ex_tN, fLen_gD, fLen_tN, fLen_l, len100, Int.toNat_natCast, Nat.reduceLeDiff, isT_ii, isT_ib, isT_tt, isT_ss, is_integer_eq, is_in_eq, is_list_eq, is_list_tN, is_list_gD, if_true, eq_self, Bool.false_eq_true, if_false, ge1, ge2, one_ne, two_ne, true_implies, unD_append, ex_pair, ex_trip])
    rw [fIn_p]
    (try simp only [dSeq, dNext, dDrop, dAsg, dAsgG, dRet, dIfS, dPar, dVar, dC, dU, dOp, dTst, dAnd, dOr, dNot, dAndV, dNotV, dChain, dIf, dNil, dCons, dStar, dTup, dLst, dCall, dItL, dItT, dRng1, dRng2, dEnum, gdName, gdTup2, gdTup3, dYes, wipeR, dAppend, dExtend, dPopA, dAugL, dCut, dIsi, dLc_eq, dLc2_eq, dFor, dWhile, fAdd, fSub, fLt, fLe, fGt, fGe, fI2_eq, fNeg_eq, fTuple_nis, fTuple_l, fList_l, fList_tN, fCat_eq, unD_nil, unD_d, startR, List.map_cons, List.map_nil, List.length_cons, List.length_nil, List.replicate, List.cons_append, List.nil_append, Nat.zero_add, Nat.reduceAdd, Nat.reduceSub, List.append_nil, List.getElem?_cons_zero, List.getElem?_cons_succ, List.set_cons_zero, List.set_cons_succ, Option.some.injEq, Prod.mk.injEq, Option.map_some, Option.map_none, W.d.injEq, W.l.injEq, PyData.tuple.injEq, PyData.int.injEq, PyData.bool.injEq, PyData.str.injEq, reduceCtorEq, retOk_d, retOk_1, retOk_2, asgOk_d, asgOk_2, and_assoc, exists_and_left, exists_eq_left', exists_eq_left, true_and, and_true, ex_gD, ex_tN, fLen_gD, fLen_tN, fLen_l, len100, Int.toNat_natCast, Nat.reduceLeDiff, isT_ii, isT_ib, isT_tt, isT_ss, is_integer_eq, is_in_eq, is_list_eq, is_list_tN, is_list_gD, if_true, eq_self, Bool.false_eq_true, if_false, ge1, ge2, one_ne, two_ne, true_implies, unD_append, ex_pair, ex_trip])
    intro _
    trivial
  · refine c_web_by o.pos hn (Nat.le_trans (List.length_filter_le _ _) (by omega)) (fun q hq => ?_) ?_
    · have h1 := mem_prs.mp (List.mem_filter.mp hq).1
      omega
    · (try simp only [dSeq, dNext, dDrop, dAsg, dAsgG, dRet, dIfS, dPar, dVar, dC, dU, dOp, dTst, dAnd, dOr, dNot, dAndV, dNotV, dChain, dIf, dNil, dCons, dStar, dTup, dLst, dCall, dItL, dItT, dRng1, dRng2, dEnum, gdName, gdTup2, gdTup3, dYes, wipeR, dAppend, dExtend, dPopA, dAugL, dCut, dIsi, dLc_eq, dLc2_eq, dFor, dWhile, fAdd, fSub, fLt, fLe, fGt, fGe, fI2_eq, fNeg_eq, fTuple_nis, fTuple_l, fList_l, fList_tN, fCat_eq, unD_nil, unD_d, startR, List.map_cons, List.map_nil, List.length_cons, List.length_nil, List.replicate, List.cons_append, List.nil_append, Nat.zero_add, Nat.reduceAdd, Nat.reduceSub, List.append_nil, List.getElem?_cons_zero, List.getElem?_cons_succ, List.set_cons_zero, List.set_cons_succ, Option.some.injEq, Prod.mk.injEq, Option.map_some, Option.map_none, W.d.injEq, W.l.injEq, PyData.tuple.injEq, PyData.int.injEq, PyData.bool.injEq, PyData.str.injEq, reduceCtorEq, retOk_d, retOk_1, retOk_2, asgOk_d, asgOk_2, and_assoc, exists_and_left, exists_eq_left', exists_eq_left, true_and, and_true, ex_gD, ex_tN, fLen_gD, fLen_tN, fLen_l, len100, Int.toNat_natCast, Nat.reduceLeDiff, isT_ii, isT_ib, isT_tt, isT_ss, is_integer_eq, is_in_eq, is_list_eq, is_list_tN, is_list_gD, if_true, eq_self, Bool.false_eq_true, if_false, ge1, ge2, one_ne, two_ne, true_implies, unD_append, ex_pair, ex_trip])
      rw [edges_eq (o.cut p) (fun q hq => (mem_prs.mp (List.mem_filter.mp hq).1).1) fun i j lt => ?_]
      · exact r
      · rw [List.mem_filter, mem_prs]
        unfold cutG
        simp only [Bool.and_eq_true, Bool.not_eq_true', decide_eq_false_iff_not, decide_eq_true_eq]
        constructor
        · rintro ⟨⟨_, _, h⟩, h2⟩
          exact ⟨⟨h, fun e => h2 (.inl e.symm)⟩, fun e => h2 (.inr e.symm)⟩
        · rintro ⟨⟨h, h2⟩, h3⟩
          exact ⟨⟨lt, o.lt2 h, h⟩, fun e => e.elim (fun e => h2 e.symm) fun e => h3 e.symm⟩
end Wk

/-! part SemC -/
set_option Elab.async false
set_option linter.all false
set_option maxRecDepth 100000
set_option maxHeartbeats 4000000
namespace Gg
/-- what stands while a group is walked -/
structure CI (n : Nat) (g : Adj) (S : Nat → Prop) (p : Nat) (fd la : List Nat) (hr : Option Nat) : Prop where
  nd : fd.Nodup
  lt : ∀ x ∈ fd, x < n
  sub : ∀ x ∈ la, x ∈ fd
  st : p ∈ fd
  so : ∀ x ∈ fd, Ch g S p x
  inn : ∀ x ∈ la, x = p ∨ S x
  cl : ∀ x ∈ fd, (x = p ∨ S x) → x ∉ la → some x ≠ hr → ∀ y, g x y = true → y ∈ fd
variable {n : Nat} {g : Adj} {S : Nat → Prop} {p h y : Nat} {fd la : List Nat}
theorem CI.init (hp : p < n) : CI n g S p [p] [p] none := by
  refine ⟨by simp, fun x hx => ?_, fun x hx => hx, by simp, fun x hx => ?_, fun x hx => ?_, fun x hx _ hn => absurd hx hn⟩
  · rw [List.mem_singleton.mp hx]
    exact hp
  · rw [List.mem_singleton.mp hx]
    exact .here
  · exact .inl (List.mem_singleton.mp hx)
theorem CI.pop (c : CI n g S p fd (la ++ [h]) none) : CI n g S p fd la (some h) ∧ h ∈ fd ∧ (h = p ∨ S h) := by
  have hh : h ∈ la ++ [h] := by simp
  refine ⟨⟨c.nd, c.lt, fun x hx => c.sub x (List.mem_append_left _ hx), c.st, c.so, fun x hx => c.inn x (List.mem_append_left _ hx), fun x hx hs hl hn y e => ?_⟩, c.sub h hh, c.inn h hh⟩
  refine c.cl x hx hs (fun z => ?_) (fun z => nomatch z) y e
  rcases List.mem_append.mp z with z | z
  · exact hl z
  · exact hn (congrArg some (List.mem_singleton.mp z))
theorem CI.grow (c : CI n g S p fd la (some h)) (hf : h ∈ fd) (hs : h = p ∨ S h) (o : Ok n g) (e : g h y = true) (hy : y ∉ fd) : (fd ++ [y]).Nodup ∧ (∀ x ∈ fd ++ [y], x < n) ∧ ∀ x ∈ fd ++ [y], Ch g S p x := by
  refine ⟨?_, fun x hx => ?_, fun x hx => ?_⟩
  · rw [List.nodup_append]
    refine ⟨c.nd, by simp, fun a ha b hb => ?_⟩
    rw [List.mem_singleton.mp hb]
    intro z
    exact hy (z ▸ ha)
  · rcases List.mem_append.mp hx with hx | hx
    · exact c.lt x hx
    · rw [List.mem_singleton.mp hx]
      exact o.lt2 e
  · rcases List.mem_append.mp hx with hx | hx
    · exact c.so x hx
    · rw [List.mem_singleton.mp hx]
      exact .step (c.so h hf) hs e
theorem CI.push (c : CI n g S p fd la (some h)) (hf : h ∈ fd) (hs : h = p ∨ S h) (o : Ok n g) (e : g h y = true) (hy : y ∉ fd) (sy : S y) : CI n g S p (fd ++ [y]) (la ++ [y]) (some h) := by
  obtain ⟨a, b, d⟩ := c.grow hf hs o e hy
  refine ⟨a, b, fun x hx => ?_, List.mem_append_left _ c.st, d, fun x hx => ?_, fun x hx hs2 hl hn z ez => ?_⟩
  · rcases List.mem_append.mp hx with hx | hx
    · exact List.mem_append_left _ (c.sub x hx)
    · exact List.mem_append_right _ hx
  · rcases List.mem_append.mp hx with hx | hx
    · exact c.inn x hx
    · rw [List.mem_singleton.mp hx]
      exact .inr sy
  · rcases List.mem_append.mp hx with hx | hx
    · exact List.mem_append_left _ (c.cl x hx hs2 (fun q => hl (List.mem_append_left _ q)) hn z ez)
    · exact absurd (List.mem_append_right _ hx) hl
theorem CI.push2 (c : CI n g S p fd la (some h)) (hf : h ∈ fd) (hs : h = p ∨ S h) (o : Ok n g) (e : g h y = true) (hy : y ∉ fd) (sy : ¬ S y) : CI n g S p (fd ++ [y]) la (some h) := by
  obtain ⟨a, b, d⟩ := c.grow hf hs o e hy
  refine ⟨a, b, fun x hx => List.mem_append_left _ (c.sub x hx), List.mem_append_left _ c.st, d, c.inn, fun x hx hs2 hl hn z ez => ?_⟩
  rcases List.mem_append.mp hx with hx | hx
  · exact List.mem_append_left _ (c.cl x hx hs2 hl hn z ez)
  · have q := List.mem_singleton.mp hx
    subst q
    rcases hs2 with q | q
    · subst q
      exact absurd c.st hy
    · exact absurd q sy
theorem CI.done (c : CI n g S p fd la (some h)) (k : ∀ y, g h y = true → y ∈ fd) : CI n g S p fd la none := by
  refine ⟨c.nd, c.lt, c.sub, c.st, c.so, c.inn, fun x hx hs hl _ y e => ?_⟩
  by_cases q : x = h
  · subst q
    exact k y e
  · exact c.cl x hx hs hl (fun z => q (Option.some.inj z)) y e
theorem CI.all (c : CI n g S p fd [] none) : ∀ x, x ∈ fd ↔ Ch g S p x := fun x => ⟨c.so x, fun h => by
  induction h with
  | here => exact c.st
  | step _ hx e ih => exact c.cl _ ih hx (fun z => nomatch z) (fun z => nomatch z) _ e⟩
end Gg
namespace Wk
open PySem PySem.Spec PyProof.Rows L2 Dw Gg
theorem fNe_nil {l : List Nat} {k : W → Prop} : fNe (.l (nis l)) (.l []) k = k (.d (.bool (!decide (l = [])))) := by
  have h := eqv_nis l []
  show (SeqAt.shaped (.list (nis l)) = true ∧ SeqAt.shaped (.list []) = true ∧ k (.d (.bool (!PyData.eqv (.list (nis l)) (.list []))))) = _
  rw [shaped_nis, shaped_nil, show PyData.eqv (.list (nis l)) (.list []) = decide (l = []) from h]
  simp
theorem mem_take_succ {l : List Nat} {j k : Nat} (h : l[j]? = some k) {y : Nat} : y ∈ l.take (j + 1) ↔ y ∈ l.take j ∨ y = k := by
  rw [List.take_add_one, h, List.mem_append]
  simp
theorem sem_chain_ends : ∀ ws R, sp_chain_ends ws R → t_chain_ends { nx := fun _ => R (.d .none), rt := R } (startR ["web", "called", "person", "found", "last", "here", "other"] ws) := by
  rintro _ R ⟨n, g, S, p, rfl, o, hp, r⟩
  have hn := o.le
  (try simp only [dSeq, dNext, dDrop, dAsg, dAsgG, dRet, dIfS, dPar, dVar, dC, dU, dOp, dTst, dAnd, dOr, dNot, dAndV, dNotV, dChain, dIf, dNil, dCons, dStar, dTup, dLst, dCall, dItL, dItT, dRng1, dRng2, dEnum, gdName, gdTup2, gdTup3, dYes, wipeR, dAppend, dExtend, dPopA, dAugL, dCut, dIsi, dLc_eq, dLc2_eq, dFor, dWhile, fAdd, fSub, fLt, fLe, fGt, fGe, fI2_eq, fNeg_eq, fTuple_nis, fTuple_l, fList_l, fList_tN, fCat_eq, unD_nil, unD_d, startR, List.map_cons, List.map_nil, List.length_cons, List.length_nil, List.replicate, List.cons_append, List.nil_append, Nat.zero_add, Nat.reduceAdd, Nat.reduceSub, List.append_nil, List.getElem?_cons_zero, List.getElem?_cons_succ, List.set_cons_zero, List.set_cons_succ, Option.some.injEq, Prod.mk.injEq, Option.map_some, Option.map_none, W.d.injEq, W.l.injEq, PyData.tuple.injEq, PyData.int.injEq, PyData.bool.injEq, PyData.str.injEq, reduceCtorEq, retOk_d, retOk_1, retOk_2, asgOk_d, asgOk_2, and_assoc, exists_and_left, exists_eq_left', exists_eq_left, true_and, and_true, ex_gD, ex_tN, fLen_gD, fLen_tN, fLen_l, len100, Int.toNat_natCast, Nat.reduceLeDiff, isT_ii, isT_ib, isT_tt, isT_ss, is_integer_eq, is_in_eq, is_list_eq, is_list_tN, is_list_gD, if_true, eq_self, Bool.false_eq_true, if_false, ge1, ge2, one_ne, two_ne, true_implies, unD_append, ex_pair, ex_trip, t_chain_ends])
  refine ⟨fun m ρ' => ∃ fd la a b, (m = 2 * (n - fd.length) + la.length ∧ m ≤ 12) ∧ CI n g (fun x => x ∈ S) p fd la none ∧ ρ' = [some (.d (gD n g), false), some (.d (tN S), false), some (.d (nI p), false), some (.l (nis fd), true), some (.l (nis la), true), a, b],
    ⟨_, [p], [p], _, _, ⟨rfl, by simp only [List.length_singleton]; omega⟩, CI.init hp, rfl⟩, ?_⟩
  rintro m _ ⟨fd, la, a, b, ⟨rfl, m12⟩, ci, rfl⟩
  (try simp only [dSeq, dNext, dDrop, dAsg, dAsgG, dRet, dIfS, dPar, dVar, dC, dU, dOp, dTst, dAnd, dOr, dNot, dAndV, dNotV, dChain, dIf, dNil, dCons, dStar, dTup, dLst, dCall, dItL, dItT, dRng1, dRng2, dEnum, gdName, gdTup2, gdTup3, dYes, wipeR, dAppend, dExtend, dPopA, dAugL, dCut, dIsi, dLc_eq, dLc2_eq, dFor, dWhile, fAdd, fSub, fLt, fLe, fGt, fGe, fI2_eq, fNeg_eq, fTuple_nis, fTuple_l, fList_l, fList_tN, fCat_eq, unD_nil, unD_d, startR, List.map_cons, List.map_nil, List.length_cons, List.length_nil, List.replicate, List.cons_append, List.nil_append, Nat.zero_add, Nat.reduceAdd, Nat.reduceSub, List.append_nil, List.getElem?_cons_zero, List.getElem?_cons_succ, List.set_cons_zero, List.set_cons_succ, Option.some.injEq, Prod.mk.injEq, Option.map_some, Option.map_none, W.d.injEq, W.l.injEq, PyData.tuple.injEq, PyData.int.injEq, PyData.bool.injEq, PyData.str.injEq, reduceCtorEq, retOk_d, retOk_1, retOk_2, asgOk_d, asgOk_2, and_assoc, exists_and_left, exists_eq_left', exists_eq_left, true_and, and_true, ex_gD, ex_tN, fLen_gD, fLen_tN, fLen_l, len100, Int.toNat_natCast, Nat.reduceLeDiff, isT_ii, isT_ib, isT_tt, isT_ss, is_integer_eq, is_in_eq, is_list_eq, is_list_tN, is_list_gD, if_true, eq_self, Bool.false_eq_true, if_false, ge1, ge2, one_ne, two_ne, true_implies, unD_append, ex_pair, ex_trip, fNe_nil])
  rcases List.eq_nil_or_concat la with rfl | ⟨la, h, rfl⟩
  · (try simp only [dSeq, dNext, dDrop, dAsg, dAsgG, dRet, dIfS, dPar, dVar, dC, dU, dOp, dTst, dAnd, dOr, dNot, dAndV, dNotV, dChain, dIf, dNil, dCons, dStar, dTup, dLst, dCall, dItL, dItT, dRng1, dRng2, dEnum, gdName, gdTup2, gdTup3, dYes, wipeR, dAppend, dExtend, dPopA, dAugL, dCut, dIsi, dLc_eq, dLc2_eq, dFor, dWhile, fAdd, fSub, fLt, fLe, fGt, fGe, fI2_eq, fNeg_eq, fTuple_nis, fTuple_l, fList_l, fList_tN, fCat_eq, unD_nil, unD_d, startR, List.map_cons, List.map_nil, List.length_cons, List.length_nil, List.replicate, List.cons_append, List.nil_append, Nat.zero_add, Nat.reduceAdd, Nat.reduceSub, List.append_nil, List.getElem?_cons_zero, List.getElem?_cons_succ, List.set_cons_zero, List.set_cons_succ, Option.some.injEq, Prod.mk.injEq, Option.map_some, Option.map_none, W.d.injEq, W.l.injEq, PyData.tuple.injEq, PyData.int.injEq, PyData.bool.injEq, PyData.str.injEq, reduceCtorEq, retOk_d, retOk_1, retOk_2, asgOk_d, asgOk_2, and_assoc, exists_and_left, exists_eq_left', exists_eq_left, true_and, and_true, ex_gD, ex_tN, fLen_gD, fLen_tN, fLen_l, len100, Int.toNat_natCast, Nat.reduceLeDiff, isT_ii, isT_ib, isT_tt, isT_ss, is_integer_eq, is_in_eq, is_list_eq, is_list_tN, is_list_gD, if_true, eq_self, Bool.false_eq_true, if_false, ge1, ge2, one_ne, two_ne, true_implies, unD_append, ex_pair, ex_trip, decide_true, Bool.not_true])
    exact r fd ci.nd ci.all
  · rw [List.concat_eq_append] at ci m12 ⊢
    have hne : (!decide (la ++ [h] = [])) = true := by simp
    rw [if_pos hne]
    refine ⟨nis la, nI h, by simp, ?_⟩
    obtain ⟨ci, hf, hs⟩ := ci.pop
    have hh := ci.lt h hf
    (try simp only [dSeq, dNext, dDrop, dAsg, dAsgG, dRet, dIfS, dPar, dVar, dC, dU, dOp, dTst, dAnd, dOr, dNot, dAndV, dNotV, dChain, dIf, dNil, dCons, dStar, dTup, dLst, dCall, dItL, dItT, dRng1, dRng2, dEnum, gdName, gdTup2, gdTup3, dYes, wipeR, dAppend, dExtend, dPopA, dAugL, dCut, dIsi, dLc_eq, dLc2_eq, dFor, dWhile, fAdd, fSub, fLt, fLe, fGt, fGe, fI2_eq, fNeg_eq, fTuple_nis, fTuple_l, fList_l, fList_tN, fCat_eq, unD_nil, unD_d, startR, List.map_cons, List.map_nil, List.length_cons, List.length_nil, List.replicate, List.cons_append, List.nil_append, Nat.zero_add, Nat.reduceAdd, Nat.reduceSub, List.append_nil, List.getElem?_cons_zero, List.getElem?_cons_succ, List.set_cons_zero, List.set_cons_succ, Option.some.injEq, Prod.mk.injEq, Option.map_some, Option.map_none, W.d.injEq, W.l.injEq, PyData.tuple.injEq, PyData.int.injEq, PyData.bool.injEq, PyData.str.injEq, reduceCtorEq, retOk_d, retOk_1, retOk_2, asgOk_d, asgOk_2, and_assoc, exists_and_left, exists_eq_left', exists_eq_left, true_and, and_true, ex_gD, ex_tN, fLen_gD, fLen_tN, fLen_l, len100, Int.toNat_natCast, Nat.reduceLeDiff, isT_ii, isT_ib, isT_tt, isT_ss, is_integer_eq, is_in_eq, is_list_eq, is_list_tN, is_list_gD, if_true, eq_self, Bool.false_eq_true, if_false, ge1, ge2, one_ne, two_ne, true_implies, unD_append, ex_pair, ex_trip])
    refine ix_gD hh ?_
    (try simp only [dSeq, dNext, dDrop, dAsg, dAsgG, dRet, dIfS, dPar, dVar, dC, dU, dOp, dTst, dAnd, dOr, dNot, dAndV, dNotV, dChain, dIf, dNil, dCons, dStar, dTup, dLst, dCall, dItL, dItT, dRng1, dRng2, dEnum, gdName, gdTup2, gdTup3, dYes, wipeR, dAppend, dExtend, dPopA, dAugL, dCut, dIsi, dLc_eq, dLc2_eq, dFor, dWhile, fAdd, fSub, fLt, fLe, fGt, fGe, fI2_eq, fNeg_eq, fTuple_nis, fTuple_l, fList_l, fList_tN, fCat_eq, unD_nil, unD_d, startR, List.map_cons, List.map_nil, List.length_cons, List.length_nil, List.replicate, List.cons_append, List.nil_append, Nat.zero_add, Nat.reduceAdd, Nat.reduceSub, List.append_nil, List.getElem?_cons_zero, List.getElem?_cons_succ, List.set_cons_zero, List.set_cons_succ, Option.some.injEq, Prod.mk.injEq, Option.map_some, Option.map_none, W.d.injEq, W.l.injEq, PyData.tuple.injEq, PyData.int.injEq, PyData.bool.injEq, PyData.str.injEq, reduceCtorEq, retOk_d, retOk_1, retOk_2, asgOk_d, asgOk_2, and_assoc, exists_and_left, exists_eq_left', exists_eq_left, true_and, and_true, ex_gD, ex_tN, fLen_gD, fLen_tN, fLen_l, len100, Int.toNat_natCast, Nat.reduceLeDiff, isT_ii, isT_ib, isT_tt, isT_ss, is_integer_eq, is_in_eq, is_list_eq, is_list_tN, is_list_gD, if_true, eq_self, Bool.false_eq_true, if_false, ge1, ge2, one_ne, two_ne, true_implies, unD_append, ex_pair, ex_trip])
    refine ⟨fun j ρ' => ∃ fd' la' b, ρ' = [some (.d (gD n g), false), some (.d (tN S), false), some (.d (nI p), false), some (.l (nis fd'), true), some (.l (nis la'), true), some (.d (nI h), true), b] ∧ CI n g (fun x => x ∈ S) p fd' la' (some h) ∧
      h ∈ fd' ∧ 2 * (n - fd'.length) + la'.length ≤ 2 * (n - fd.length) + la.length ∧ ∀ y ∈ (frs n g h).take j, y ∈ fd', ⟨fd, la, b, rfl, ci, hf, Nat.le_refl _, fun y hy => by simp at hy⟩, ?_, ?_⟩
    · rintro j x _ hx ⟨fd', la', b, rfl, ci', hf', hm, ht⟩
      obtain ⟨y, hy, rfl⟩ := nis_at hx
      have hg : g h y = true := (mem_frs.mp (List.mem_of_getElem? hy)).2
      have len' := len_le ci'.nd ci'.lt
      (try simp only [dSeq, dNext, dDrop, dAsg, dAsgG, dRet, dIfS, dPar, dVar, dC, dU, dOp, dTst, dAnd, dOr, dNot, dAndV, dNotV, dChain, dIf, dNil, dCons, dStar, dTup, dLst, dCall, dItL, dItT, dRng1, dRng2, dEnum, gdName, gdTup2, gdTup3, dYes, wipeR, dAppend, dExtend, dPopA, dAugL, dCut, dIsi, dLc_eq, dLc2_eq, dFor, dWhile, fAdd, fSub, fLt, fLe, fGt, fGe, fI2_eq, fNeg_eq, fTuple_nis, fTuple_l, fList_l, fList_tN, fCat_eq, unD_nil, unD_d, startR, List.map_cons, List.map_nil, List.length_cons, List.length_nil, List.replicate, List.cons_append, List.nil_append, Nat.zero_add, Nat.reduceAdd, Nat.reduceSub, List.append_nil, List.getElem?_cons_zero, List.getElem?_cons_succ, List.set_cons_zero, List.set_cons_succ, Option.some.injEq, Prod.mk.injEq, Option.map_some, Option.map_none, W.d.injEq, W.l.injEq, PyData.tuple.injEq, PyData.int.injEq, PyData.bool.injEq, PyData.str.injEq, reduceCtorEq, retOk_d, retOk_1, retOk_2, asgOk_d, asgOk_2, and_assoc, exists_and_left, exists_eq_left', exists_eq_left, true_and, and_true, ex_gD, ex_tN, fLen_gD, fLen_tN, fLen_l, len100, Int.toNat_natCast, Nat.reduceLeDiff, isT_ii, isT_ib, isT_tt, isT_ss, is_integer_eq, is_in_eq, is_list_eq, is_list_tN, is_list_gD, if_true, eq_self, Bool.false_eq_true, if_false, ge1, ge2, one_ne, two_ne, true_implies, unD_append, ex_pair, ex_trip, fIn_l, fIn_t])
      by_cases hin : y ∈ fd'
      · (try simp only [dSeq, dNext, dDrop, dAsg, dAsgG, dRet, dIfS, dPar, dVar, dC, dU, dOp, dTst, dAnd, dOr, dNot, dAndV, dNotV, dChain, dIf, dNil, dCons, dStar, dTup, dLst, dCall, dItL, dItT, dRng1, dRng2, dEnum, gdName, gdTup2, gdTup3, dYes, wipeR, dAppend, dExtend, dPopA, dAugL, dCut, dIsi, dLc_eq, dLc2_eq, dFor, dWhile, fAdd, fSub, fLt, fLe, fGt, fGe, fI2_eq, fNeg_eq, fTuple_nis, fTuple_l, fList_l, fList_tN, fCat_eq, unD_nil, unD_d, startR, List.map_cons, List.map_nil, List.length_cons, List.length_nil, List.replicate, List.cons_append, List.nil_append, Nat.zero_add, Nat.reduceAdd, Nat.reduceSub, List.append_nil, List.getElem?_cons_zero, List.getElem?_cons_succ, List.set_cons_zero, List.set_cons_succ, Option.some.injEq, Prod.mk.injEq, Option.map_some, Option.map_none, W.d.injEq, W.l.injEq, PyData.tuple.injEq, PyData.int.injEq, PyData.bool.injEq, PyData.str.injEq, reduceCtorEq, retOk_d, retOk_1, retOk_2, asgOk_d, asgOk_2, and_assoc, exists_and_left, exists_eq_left', exists_eq_left, true_and, and_true, ex_gD, ex_tN, fLen_gD, fLen_tN, fLen_l, len100, Int.toNat_natCast, Nat.reduceLeDiff, isT_ii, isT_ib, isT_tt, isT_ss, is_integer_eq, is_in_eq, is_list_eq, is_list_tN, is_list_gD, if_true, eq_self, Bool.false_eq_true, if_false, ge1, ge2, one_ne, two_ne, true_implies, unD_append, ex_pair, ex_trip, hin, decide_true, Bool.not_true])
        refine ⟨fd', la', some (.d (nI y), true), rfl, ci', hf', hm, fun z hz => ?_⟩
        rcases (mem_take_succ hy).mp hz with hz | rfl
        · exact ht z hz
        · exact hin
      · have lt' : fd'.length + 1 ≤ n := by
          obtain ⟨a, b, _⟩ := ci'.grow hf' hs o hg hin
          have := len_le a b
          rwa [List.length_append] at this
        (try simp only [dSeq, dNext, dDrop, dAsg, dAsgG, dRet, dIfS, dPar, dVar, dC, dU, dOp, dTst, dAnd, dOr, dNot, dAndV, dNotV, dChain, dIf, dNil, dCons, dStar, dTup, dLst, dCall, dItL, dItT, dRng1, dRng2, dEnum, gdName, gdTup2, gdTup3, dYes, wipeR, dAppend, dExtend, dPopA, dAugL, dCut, dIsi, dLc_eq, dLc2_eq, dFor, dWhile, fAdd, fSub, fLt, fLe, fGt, fGe, fI2_eq, fNeg_eq, fTuple_nis, fTuple_l, fList_l, fList_tN, fCat_eq, unD_nil, unD_d, startR, List.map_cons, List.map_nil, List.length_cons, List.length_nil, List.replicate, List.cons_append, List.nil_append, Nat.zero_add, Nat.reduceAdd, Nat.reduceSub, List.append_nil, List.getElem?_cons_zero, List.getElem?_cons_succ, List.set_cons_zero, List.set_cons_succ, Option.some.injEq, Prod.mk.injEq, Option.map_some, Option.map_none, W.d.injEq, W.l.injEq, PyData.tuple.injEq, PyData.int.injEq, PyData.bool.injEq, PyData.str.injEq, reduceCtorEq, retOk_d, retOk_1, retOk_2, asgOk_d, asgOk_2, and_assoc, exists_and_left, exists_eq_left', exists_eq_left, true_and, and_true, ex_gD, ex_tN, fLen_gD, fLen_tN, fLen_l, len100, Int.toNat_natCast, Nat.reduceLeDiff, isT_ii, isT_ib, isT_tt, isT_ss, is_integer_eq, is_in_eq, is_list_eq, is_list_tN, is_list_gD, if_true, eq_self, Bool.false_eq_true, if_false, ge1, ge2, one_ne, two_ne, true_implies, unD_append, ex_pair, ex_trip, hin, decide_false, Bool.not_false])
        refine ⟨by rw [nis_len]; omega, ?_⟩
        by_cases hc : y ∈ S
        · (try simp only [dSeq, dNext, dDrop, dAsg, dAsgG, dRet, dIfS, dPar, dVar, dC, dU, dOp, dTst, dAnd, dOr, dNot, dAndV, dNotV, dChain, dIf, dNil, dCons, dStar, dTup, dLst, dCall, dItL, dItT, dRng1, dRng2, dEnum, gdName, gdTup2, gdTup3, dYes, wipeR, dAppend, dExtend, dPopA, dAugL, dCut, dIsi, dLc_eq, dLc2_eq, dFor, dWhile, fAdd, fSub, fLt, fLe, fGt, fGe, fI2_eq, fNeg_eq, fTuple_nis, fTuple_l, fList_l, fList_tN, fCat_eq, unD_nil, unD_d, startR, List.map_cons, List.map_nil, List.length_cons, List.length_nil, List.replicate, List.cons_append, List.nil_append, Nat.zero_add, Nat.reduceAdd, Nat.reduceSub, List.append_nil, List.getElem?_cons_zero, List.getElem?_cons_succ, List.set_cons_zero, List.set_cons_succ, Option.some.injEq, Prod.mk.injEq, Option.map_some, Option.map_none, W.d.injEq, W.l.injEq, PyData.tuple.injEq, PyData.int.injEq, PyData.bool.injEq, PyData.str.injEq, reduceCtorEq, retOk_d, retOk_1, retOk_2, asgOk_d, asgOk_2, and_assoc, exists_and_left, exists_eq_left', exists_eq_left, true_and, and_true, ex_gD, ex_tN, fLen_gD, fLen_tN, fLen_l, len100, Int.toNat_natCast, Nat.reduceLeDiff, isT_ii, isT_ib, isT_tt, isT_ss, is_integer_eq, is_in_eq, is_list_eq, is_list_tN, is_list_gD, if_true, eq_self, Bool.false_eq_true, if_false, ge1, ge2, one_ne, two_ne, true_implies, unD_append, ex_pair, ex_trip, hc, decide_true])
          have hm2 : 2 * (n - (fd' ++ [y]).length) + (la' ++ [y]).length ≤ 2 * (n - fd.length) + la.length := by
            rw [List.length_append, List.length_append, List.length_singleton]
            omega
          refine ⟨?_, fd' ++ [y], la' ++ [y], some (.d (nI y), true), by simp, ci'.push hf' hs o hg hin hc, List.mem_append_left _ hf', hm2, fun z hz => ?_⟩
          · rw [nis_len]
            rw [List.length_append, List.length_singleton] at m12
            omega
          · rcases (mem_take_succ hy).mp hz with hz | rfl
            · exact List.mem_append_left _ (ht z hz)
            · simp
        · (try simp only [dSeq, dNext, dDrop, dAsg, dAsgG, dRet, dIfS, dPar, dVar, dC, dU, dOp, dTst, dAnd, dOr, dNot, dAndV, dNotV, dChain, dIf, dNil, dCons, dStar, dTup, dLst, dCall, dItL, dItT, dRng1, dRng2, dEnum, gdName, gdTup2, gdTup3, dYes, wipeR, dAppend, dExtend, dPopA, dAugL, dCut, dIsi, dLc_eq, dLc2_eq, dFor, dWhile, fAdd, fSub, fLt, fLe, fGt, fGe, fI2_eq, fNeg_eq, fTuple_nis, fTuple_l, fList_l, fList_tN, fCat_eq, unD_nil, unD_d, startR, List.map_cons, List.map_nil, List.length_cons, List.length_nil, List.replicate, List.cons_append, List.nil_append, Nat.zero_add, Nat.reduceAdd, Nat.reduceSub, List.append_nil, List.getElem?_cons_zero, List.getElem?_cons_succ, List.set_cons_zero, List.set_cons_succ, Option.some.injEq, Prod.mk.injEq, Option.map_some, Option.map_none, W.d.injEq, W.l.injEq, PyData.tuple.injEq, PyData.int.injEq, PyData.bool.injEq, PyData.str.injEq, reduceCtorEq, retOk_d, retOk_1, retOk_2, asgOk_d, asgOk_2, and_assoc, exists_and_left, exists_eq_left', exists_eq_left, true_and, and_true, ex_gD, ex_tN, fLen_gD, fLen_tN, fLen_l, len100, Int.toNat_natCast, Nat.reduceLeDiff, isT_ii, isT_ib, isT_tt, isT_ss, is_integer_eq, is_in_eq, is_list_eq, is_list_tN, is_list_gD, if_true, eq_self, Bool.false_eq_true, if_false, ge1, ge2, one_ne, two_ne, true_implies, unD_append, ex_pair, ex_trip, hc, decide_false])
          have hm2 : 2 * (n - (fd' ++ [y]).length) + la'.length ≤ 2 * (n - fd.length) + la.length := by
            rw [List.length_append, List.length_singleton]
            omega
          refine ⟨fd' ++ [y], la', some (.d (nI y), true), by simp, ci'.push2 hf' hs o hg hin hc, List.mem_append_left _ hf', hm2, fun z hz => ?_⟩
          rcases (mem_take_succ hy).mp hz with hz | rfl
          · exact List.mem_append_left _ (ht z hz)
          · simp
    · rintro _ ⟨fd', la', b, rfl, ci', hf', hm, ht⟩
      rw [List.length_append, List.length_singleton] at m12
      refine ⟨2 * (n - fd'.length) + la'.length, ?_, fd', la', rfl, by omega, ci'.done fun y e => ?_, _, _, rfl⟩
      · rw [List.length_append, List.length_singleton]
        omega
      · refine ht y ?_
        rw [nis_len, List.take_length]
        exact mem_frs.mpr ⟨o.lt2 e, e⟩
theorem sem_group_in : ∀ ws R, sp_group_in ws R → t_group_in { nx := fun _ => R (.d .none), rt := R } (startR ["web", "person", "found", "last", "here", "other"] ws) := by
  rintro _ R ⟨n, g, p, rfl, o, hp, r⟩
  have hn := o.le
  (try simp only [dSeq, dNext, dDrop, dAsg, dAsgG, dRet, dIfS, dPar, dVar, dC, dU, dOp, dTst, dAnd, dOr, dNot, dAndV, dNotV, dChain, dIf, dNil, dCons, dStar, dTup, dLst, dCall, dItL, dItT, dRng1, dRng2, dEnum, gdName, gdTup2, gdTup3, dYes, wipeR, dAppend, dExtend, dPopA, dAugL, dCut, dIsi, dLc_eq, dLc2_eq, dFor, dWhile, fAdd, fSub, fLt, fLe, fGt, fGe, fI2_eq, fNeg_eq, fTuple_nis, fTuple_l, fList_l, fList_tN, fCat_eq, unD_nil, unD_d, startR, List.map_cons, List.map_nil, List.length_cons, List.length_nil, List.replicate, List.cons_append, List.nil_append, Nat.zero_add, Nat.reduceAdd, Nat.reduceSub, List.append_nil, List.getElem?_cons_zero, List.getElem?_cons_succ, List.set_cons_zero, List.set_cons_succ, Option.some.injEq, Prod.mk.injEq, Option.map_some, Option.map_none, W.d.injEq, W.l.injEq, PyData.tuple.injEq, PyData.int.injEq, PyData.bool.injEq, PyData.str.injEq, reduceCtorEq, retOk_d, retOk_1, retOk_2, asgOk_d, asgOk_2, and_assoc, exists_and_left, exists_eq_left', exists_eq_left, true_and, and_true, ex_gD, ex_tN, fLen_gD, fLen_tN, fLen_l, len100, Int.toNat_natCast, Nat.reduceLeDiff, isT_ii, isT_ib, isT_tt, isT_ss, is_integer_eq, is_in_eq, is_list_eq, is_list_tN, is_list_gD, if_true, eq_self, Bool.false_eq_true, if_false, ge1, ge2, one_ne, two_ne, true_implies, unD_append, ex_pair, ex_trip, t_group_in])
  refine ⟨fun m ρ' => ∃ fd la a b, (m = 2 * (n - fd.length) + la.length ∧ m ≤ 12) ∧ CI n g All p fd la none ∧ ρ' = [some (.d (gD n g), false), some (.d (nI p), false), some (.l (nis fd), true), some (.l (nis la), true), a, b],
    ⟨_, [p], [p], _, _, ⟨rfl, by simp only [List.length_singleton]; omega⟩, CI.init hp, rfl⟩, ?_⟩
  rintro m _ ⟨fd, la, a, b, ⟨rfl, m12⟩, ci, rfl⟩
  (try simp only [dSeq, dNext, dDrop, dAsg, dAsgG, dRet, dIfS, dPar, dVar, dC, dU, dOp, dTst, dAnd, dOr, dNot, dAndV, dNotV, dChain, dIf, dNil, dCons, dStar, dTup, dLst, dCall, dItL, dItT, dRng1, dRng2, dEnum, gdName, gdTup2, gdTup3, dYes, wipeR, dAppend, dExtend, dPopA, dAugL, dCut, dIsi, dLc_eq, dLc2_eq, dFor, dWhile, fAdd, fSub, fLt, fLe, fGt, fGe, fI2_eq, fNeg_eq, fTuple_nis, fTuple_l, fList_l, fList_tN, fCat_eq, unD_nil, unD_d, startR, List.map_cons, List.map_nil, List.length_cons, List.length_nil, List.replicate, List.cons_append, List.nil_append, Nat.zero_add, Nat.reduceAdd, Nat.reduceSub, List.append_nil, List.getElem?_cons_zero, List.getElem?_cons_succ, List.set_cons_zero, List.set_cons_succ, Option.some.injEq, Prod.mk.injEq, Option.map_some, Option.map_none, W.d.injEq, W.l.injEq, PyData.tuple.injEq, PyData.int.injEq, PyData.bool.injEq, PyData.str.injEq, reduceCtorEq, retOk_d, retOk_1, retOk_2, asgOk_d, asgOk_2, and_assoc, exists_and_left, exists_eq_left', exists_eq_left, true_and, and_true, ex_gD, ex_tN, fLen_gD, fLen_tN, fLen_l, len100, Int.toNat_natCast, Nat.reduceLeDiff, isT_ii, isT_ib, isT_tt, isT_ss, is_integer_eq, is_in_eq, is_list_eq, is_list_tN, is_list_gD, if_true, eq_self, Bool.false_eq_true, if_false, ge1, ge2, one_ne, two_ne, true_implies, unD_append, ex_pair, ex_trip, fNe_nil])
  rcases List.eq_nil_or_concat la with rfl | ⟨la, h, rfl⟩
  · (try simp only [dSeq, dNext, dDrop, dAsg, dAsgG, dRet, dIfS, dPar, dVar, dC, dU, dOp, dTst, dAnd, dOr, dNot, dAndV, dNotV, dChain, dIf, dNil, dCons, dStar, dTup, dLst, dCall, dItL, dItT, dRng1, dRng2, dEnum, gdName, gdTup2, gdTup3, dYes, wipeR, dAppend, dExtend, dPopA, dAugL, dCut, dIsi, dLc_eq, dLc2_eq, dFor, dWhile, fAdd, fSub, fLt, fLe, fGt, fGe, fI2_eq, fNeg_eq, fTuple_nis, fTuple_l, fList_l, fList_tN, fCat_eq, unD_nil, unD_d, startR, List.map_cons, List.map_nil, List.length_cons, List.length_nil, List.replicate, List.cons_append, List.nil_append, Nat.zero_add, Nat.reduceAdd, Nat.reduceSub, List.append_nil, List.getElem?_cons_zero, List.getElem?_cons_succ, List.set_cons_zero, List.set_cons_succ, Option.some.injEq, Prod.mk.injEq, Option.map_some, Option.map_none, W.d.injEq, W.l.injEq, PyData.tuple.injEq, PyData.int.injEq, PyData.bool.injEq, PyData.str.injEq, reduceCtorEq, retOk_d, retOk_1, retOk_2, asgOk_d, asgOk_2, and_assoc, exists_and_left, exists_eq_left', exists_eq_left, true_and, and_true, ex_gD, ex_tN, fLen_gD, fLen_tN, fLen_l, len100, Int.toNat_natCast, Nat.reduceLeDiff, isT_ii, isT_ib, isT_tt, isT_ss, is_integer_eq, is_in_eq, is_list_eq, is_list_tN, is_list_gD, if_true, eq_self, Bool.false_eq_true, if_false, ge1, ge2, one_ne, two_ne, true_implies, unD_append, ex_pair, ex_trip, decide_true, Bool.not_true])
    refine sorted_int ci.nd (.inl rfl) fun T hT hm => ?_
    have e : T = grp n g p := by
      refine sorted_ext hT ((range_lt n).filter _) fun x => ?_
      rw [hm, ci.all]
      unfold grp
      simp only [List.mem_filter, List.mem_range, decide_eq_true_eq]
      exact ⟨fun h => ⟨h.lt o hp, h⟩, fun h => h.2⟩
    subst e
    (try simp only [dSeq, dNext, dDrop, dAsg, dAsgG, dRet, dIfS, dPar, dVar, dC, dU, dOp, dTst, dAnd, dOr, dNot, dAndV, dNotV, dChain, dIf, dNil, dCons, dStar, dTup, dLst, dCall, dItL, dItT, dRng1, dRng2, dEnum, gdName, gdTup2, gdTup3, dYes, wipeR, dAppend, dExtend, dPopA, dAugL, dCut, dIsi, dLc_eq, dLc2_eq, dFor, dWhile, fAdd, fSub, fLt, fLe, fGt, fGe, fI2_eq, fNeg_eq, fTuple_nis, fTuple_l, fList_l, fList_tN, fCat_eq, unD_nil, unD_d, startR, List.map_cons, List.map_nil, List.length_cons, List.length_nil, List.replicate, List.cons_append, List.nil_append, Nat.zero_add, Nat.reduceAdd, Nat.reduceSub, List.append_nil, List.getElem?_cons_zero, List.getElem?_cons_succ, List.set_cons_zero, List.set_cons_succ, Option.some.injEq, Prod.mk.injEq, Option.map_some, Option.map_none, W.d.injEq, W.l.injEq, PyData.tuple.injEq, PyData.int.injEq, PyData.bool.injEq, PyData.str.injEq, reduceCtorEq, retOk_d, retOk_1, retOk_2, asgOk_d, asgOk_2, and_assoc, exists_and_left, exists_eq_left', exists_eq_left, true_and, and_true, ex_gD, ex_tN, fLen_gD, fLen_tN, fLen_l, len100, Int.toNat_natCast, Nat.reduceLeDiff, isT_ii, isT_ib, isT_tt, isT_ss, is_integer_eq, is_in_eq, is_list_eq, is_list_tN, is_list_gD, if_true, eq_self, Bool.false_eq_true, if_false, ge1, ge2, one_ne, two_ne, true_implies, unD_append, ex_pair, ex_trip])
    exact r
  · rw [List.concat_eq_append] at ci m12 ⊢
    have hne : (!decide (la ++ [h] = [])) = true := by simp
    rw [if_pos hne]
    refine ⟨nis la, nI h, by simp, ?_⟩
    obtain ⟨ci, hf, hs⟩ := ci.pop
    have hh := ci.lt h hf
    (try simp only [dSeq, dNext, dDrop, dAsg, dAsgG, dRet, dIfS, dPar, dVar, dC, dU, dOp, dTst, dAnd, dOr, dNot, dAndV, dNotV, dChain, dIf, dNil, dCons, dStar, dTup, dLst, dCall, dItL, dItT, dRng1, dRng2, dEnum, gdName, gdTup2, gdTup3, dYes, wipeR, dAppend, dExtend, dPopA, dAugL, dCut, dIsi, dLc_eq, dLc2_eq, dFor, dWhile, fAdd, fSub, fLt, fLe, fGt, fGe, fI2_eq, fNeg_eq, fTuple_nis, fTuple_l, fList_l, fList_tN, fCat_eq, unD_nil, unD_d, startR, List.map_cons, List.map_nil, List.length_cons, List.length_nil, List.replicate, List.cons_append, List.nil_append, Nat.zero_add, Nat.reduceAdd, Nat.reduceSub, List.append_nil, List.getElem?_cons_zero, List.getElem?_cons_succ, List.set_cons_zero, List.set_cons_succ, Option.some.injEq, Prod.mk.injEq, Option.map_some, Option.map_none, W.d.injEq, W.l.injEq, PyData.tuple.injEq, PyData.int.injEq, PyData.bool.injEq, PyData.str.injEq, reduceCtorEq, retOk_d, retOk_1, retOk_2, asgOk_d, asgOk_2, and_assoc, exists_and_left, exists_eq_left', exists_eq_left, true_and, and_true, ex_gD, ex_tN, fLen_gD, fLen_tN, fLen_l, len100, Int.toNat_natCast, Nat.reduceLeDiff, isT_ii, isT_ib, isT_tt, isT_ss, is_integer_eq, is_in_eq, is_list_eq, is_list_tN, is_list_gD, if_true, eq_self, Bool.false_eq_true, if_false, ge1, ge2, one_ne, two_ne, true_implies, unD_append, ex_pair, ex_trip])
    refine ix_gD hh ?_
    (try simp only [dSeq, dNext, dDrop, dAsg, dAsgG, dRet, dIfS, dPar, dVar, dC, dU, dOp, dTst, dAnd, dOr, dNot, dAndV, dNotV, dChain, dIf, dNil, dCons, dStar, dTup, dLst, dCall, dItL, dItT, dRng1, dRng2, dEnum, gdName, gdTup2, gdTup3, dYes, wipeR, dAppend, dExtend, dPopA, dAugL, dCut, dIsi, dLc_eq, dLc2_eq, dFor, dWhile, fAdd, fSub, fLt, fLe, fGt, fGe, fI2_eq, fNeg_eq, fTuple_nis, fTuple_l, fList_l, fList_tN, fCat_eq, unD_nil, unD_d, startR, List.map_cons, List.map_nil, List.length_cons, List.length_nil, List.replicate, List.cons_append, List.nil_append, Nat.zero_add, Nat.reduceAdd, Nat.reduceSub, List.append_nil, List.getElem?_cons_zero, List.getElem?_cons_succ, List.set_cons_zero, List.set_cons_succ, Option.some.injEq, Prod.mk.injEq, Option.map_some, Option.map_none, W.d.injEq, W.l.injEq, PyData.tuple.injEq, PyData.int.injEq, PyData.bool.injEq, PyData.str.injEq, reduceCtorEq, retOk_d, retOk_1, retOk_2, asgOk_d, asgOk_2, and_assoc, exists_and_left, exists_eq_left', exists_eq_left, true_and, and_true, ex_gD, ex_tN, fLen_gD, fLen_tN, fLen_l, len100, Int.toNat_natCast, Nat.reduceLeDiff, isT_ii, isT_ib, isT_tt, isT_ss, is_integer_eq, is_in_eq, is_list_eq, is_list_tN, is_list_gD, if_true, eq_self, Bool.false_eq_true, if_false, ge1, ge2, one_ne, two_ne, true_implies, unD_append, ex_pair, ex_trip])
    refine ⟨fun j ρ' => ∃ fd' la' b, ρ' = [some (.d (gD n g), false), some (.d (nI p), false), some (.l (nis fd'), true), some (.l (nis la'), true), some (.d (nI h), true), b] ∧ CI n g All p fd' la' (some h) ∧
      h ∈ fd' ∧ 2 * (n - fd'.length) + la'.length ≤ 2 * (n - fd.length) + la.length ∧ ∀ y ∈ (frs n g h).take j, y ∈ fd', ⟨fd, la, b, rfl, ci, hf, Nat.le_refl _, fun y hy => by simp at hy⟩, ?_, ?_⟩
    · rintro j x _ hx ⟨fd', la', b, rfl, ci', hf', hm, ht⟩
      obtain ⟨y, hy, rfl⟩ := nis_at hx
      have hg : g h y = true := (mem_frs.mp (List.mem_of_getElem? hy)).2
      have len' := len_le ci'.nd ci'.lt
      (try simp only [dSeq, dNext, dDrop, dAsg, dAsgG, dRet, dIfS, dPar, dVar, dC, dU, dOp, dTst, dAnd, dOr, dNot, dAndV, dNotV, dChain, dIf, dNil, dCons, dStar, dTup, dLst, dCall, dItL, dItT, dRng1, dRng2, dEnum, gdName, gdTup2, gdTup3, dYes, wipeR, dAppend, dExtend, dPopA, dAugL, dCut, dIsi, dLc_eq, dLc2_eq, dFor, dWhile, fAdd, fSub, fLt, fLe, fGt, fGe, fI2_eq, fNeg_eq, fTuple_nis, fTuple_l, fList_l, fList_tN, fCat_eq, unD_nil, unD_d, startR, List.map_cons, List.map_nil, List.length_cons, List.length_nil, List.replicate, List.cons_append, List.nil_append, Nat.zero_add, Nat.reduceAdd, Nat.reduceSub, List.append_nil, List.getElem?_cons_zero, List.getElem?_cons_succ, List.set_cons_zero, List.set_cons_succ, Option.some.injEq, Prod.mk.injEq, Option.map_some, Option.map_none, W.d.injEq, W.l.injEq, PyData.tuple.injEq, PyData.int.injEq, PyData.bool.injEq, PyData.str.injEq, reduceCtorEq, retOk_d, retOk_1, retOk_2, asgOk_d, asgOk_2, and_assoc, exists_and_left, exists_eq_left', exists_eq_left, true_and, and_true, ex_gD, ex_tN, fLen_gD, fLen_tN, fLen_l, len100, Int.toNat_natCast, Nat.reduceLeDiff, isT_ii, isT_ib, isT_tt, isT_ss, is_integer_eq, is_in_eq, is_list_eq, is_list_tN, is_list_gD, if_true, eq_self, Bool.false_eq_true, if_false, ge1, ge2, one_ne, two_ne, true_implies, unD_append, ex_pair, ex_trip, fIn_l, fIn_t])
      by_cases hin : y ∈ fd'
      · (try simp only [dSeq, dNext, dDrop, dAsg, dAsgG, dRet, dIfS, dPar, dVar, dC, dU, dOp, dTst, dAnd, dOr, dNot, dAndV, dNotV, dChain, dIf, dNil, dCons, dStar, dTup, dLst, dCall, dItL, dItT, dRng1, dRng2, dEnum, gdName, gdTup2, gdTup3, dYes, wipeR, dAppend, dExtend, dPopA, dAugL, dCut, dIsi, dLc_eq, dLc2_eq, dFor, dWhile, fAdd, fSub, fLt, fLe, fGt, fGe, fI2_eq, fNeg_eq, fTuple_nis, fTuple_l, fList_l, fList_tN, fCat_eq, unD_nil, unD_d, startR, List.map_cons, List.map_nil, List.length_cons, List.length_nil, List.replicate, List.cons_append, List.nil_append, Nat.zero_add, Nat.reduceAdd, Nat.reduceSub, List.append_nil, List.getElem?_cons_zero, List.getElem?_cons_succ, List.set_cons_zero, List.set_cons_succ, Option.some.injEq, Prod.mk.injEq, Option.map_some, Option.map_none, W.d.injEq, W.l.injEq, PyData.tuple.injEq, PyData.int.injEq, PyData.bool.injEq, PyData.str.injEq, reduceCtorEq, retOk_d, retOk_1, retOk_2, asgOk_d, asgOk_2, and_assoc, exists_and_left, exists_eq_left', exists_eq_left, true_and, and_true, ex_gD, ex_tN, fLen_gD, fLen_tN, fLen_l, len100, Int.toNat_natCast, Nat.reduceLeDiff, isT_ii, isT_ib, isT_tt, isT_ss, is_integer_eq, is_in_eq, is_list_eq, is_list_tN, is_list_gD, if_true, eq_self, Bool.false_eq_true, if_false, ge1, ge2, one_ne, two_ne, true_implies, unD_append, ex_pair, ex_trip, hin, decide_true, Bool.not_true])
        refine ⟨fd', la', some (.d (nI y), true), rfl, ci', hf', hm, fun z hz => ?_⟩
        rcases (mem_take_succ hy).mp hz with hz | rfl
        · exact ht z hz
        · exact hin
      · have lt' : fd'.length + 1 ≤ n := by
          obtain ⟨a, b, _⟩ := ci'.grow hf' hs o hg hin
          have := len_le a b
          rwa [List.length_append] at this
        (try simp only [dSeq, dNext, dDrop, dAsg, dAsgG, dRet, dIfS, dPar, dVar, dC, dU, dOp, dTst, dAnd, dOr, dNot, dAndV, dNotV, dChain, dIf, dNil, dCons, dStar, dTup, dLst, dCall, dItL, dItT, dRng1, dRng2, dEnum, gdName, gdTup2, gdTup3, dYes, wipeR, dAppend, dExtend, dPopA, dAugL, dCut, dIsi, dLc_eq, dLc2_eq, dFor, dWhile, fAdd, fSub, fLt, fLe, fGt, fGe, fI2_eq, fNeg_eq, fTuple_nis, fTuple_l, fList_l, fList_tN, fCat_eq, unD_nil, unD_d, startR, List.map_cons, List.map_nil, List.length_cons, List.length_nil, List.replicate, List.cons_append, List.nil_append, Nat.zero_add, Nat.reduceAdd, Nat.reduceSub, List.append_nil, List.getElem?_cons_zero, List.getElem?_cons_succ, List.set_cons_zero, List.set_cons_succ, Option.some.injEq, Prod.mk.injEq, Option.map_some, Option.map_none, W.d.injEq, W.l.injEq, PyData.tuple.injEq, PyData.int.injEq, PyData.bool.injEq, PyData.str.injEq, reduceCtorEq, retOk_d, retOk_1, retOk_2, asgOk_d, asgOk_2, and_assoc, exists_and_left, exists_eq_left', exists_eq_left, true_and, and_true, ex_gD, ex_tN, fLen_gD, fLen_tN, fLen_l, len100, Int.toNat_natCast, Nat.reduceLeDiff, isT_ii, isT_ib, isT_tt, isT_ss, is_integer_eq, is_in_eq, is_list_eq, is_list_tN, is_list_gD, if_true, eq_self, Bool.false_eq_true, if_false, ge1, ge2, one_ne, two_ne, true_implies, unD_append, ex_pair, ex_trip, hin, decide_false, Bool.not_false])
        refine ⟨by rw [nis_len]; omega, ?_⟩
        have hm2 : 2 * (n - (fd' ++ [y]).length) + (la' ++ [y]).length ≤ 2 * (n - fd.length) + la.length := by
          rw [List.length_append, List.length_append, List.length_singleton]
          omega
        refine ⟨?_, fd' ++ [y], la' ++ [y], some (.d (nI y), true), by simp, ci'.push hf' hs o hg hin trivial, List.mem_append_left _ hf', hm2, fun z hz => ?_⟩
        · rw [nis_len]
          rw [List.length_append, List.length_singleton] at m12
          omega
        · rcases (mem_take_succ hy).mp hz with hz | rfl
          · exact List.mem_append_left _ (ht z hz)
          · simp
    · rintro _ ⟨fd', la', b, rfl, ci', hf', hm, ht⟩
      rw [List.length_append, List.length_singleton] at m12
      refine ⟨2 * (n - fd'.length) + la'.length, ?_, fd', la', rfl, by omega, ci'.done fun y e => ?_, _, _, rfl⟩
      · rw [List.length_append, List.length_singleton]
        omega
      · refine ht y ?_
        rw [nis_len, List.take_length]
        exact mem_frs.mpr ⟨o.lt2 e, e⟩
end Wk

/-! part SemD -/
set_option Elab.async false
set_option linter.all false
set_option maxRecDepth 100000
set_option maxHeartbeats 4000000
namespace Wk
open PySem PySem.Spec PyProof.Rows L2 Dw Gg
theorem rng_nI (n : Nat) : rng 0 n = (List.range n).map nI := by
  unfold rng
  exact List.map_congr_left fun i _ => by rw [Int.zero_add]
theorem lcT {α : Type} {enc : α → PyData} {l : List α} (F : α → PyData) (inj : ∀ a ∈ l, ∀ b ∈ l, enc a = enc b → a = b) {dg : DG} {te : DT} {ρ : Rho} {R : W → Nat → Prop}
    (hb : ∀ a ∈ l, dg (enc a) ρ fun ρ' => dYes ρ' fun b => b = true ∧ (b = true → te ρ' fun w _ => w = .d (F a))) (r : R (.l (l.map F)) 2) : lcB (l.map enc) dg dYes te ρ R :=
  lcM (fun _ => true) F inj hb (by rw [List.filter_eq_self.mpr fun _ _ => rfl]; exact r)
theorem chs_row {n : Nat} {S : List Nat} (h : S ∈ chs n) : S.length ≤ n := len_le (lt_nodup (mem_chs.mp h).1) (mem_chs.mp h).2
theorem sem_choices : ∀ ws R, sp_choices ws R → t_choices { nx := fun _ => R (.d .none), rt := R } (startR ["many", "found", "person", "row"] ws) := by
  rintro _ R ⟨n, rfl, hn, r⟩
  (try simp only [dSeq, dNext, dDrop, dAsg, dAsgG, dRet, dIfS, dPar, dVar, dC, dU, dOp, dTst, dAnd, dOr, dNot, dAndV, dNotV, dChain, dIf, dNil, dCons, dStar, dTup, dLst, dCall, dItL, dItT, dRng1, dRng2, dEnum, gdName, gdTup2, gdTup3, dYes, wipeR, dAppend, dExtend, dPopA, dAugL, dCut, dIsi, dLc_eq, dLc2_eq, dFor, dWhile, fAdd, fSub, fLt, fLe, fGt, fGe, fI2_eq, fNeg_eq, fTuple_nis, fTuple_l, fList_l, fList_tN, fCat_eq, unD_nil, unD_d, startR, List.map_cons, List.map_nil, List.length_cons, List.length_nil, List.replicate, List.cons_append, List.nil_append, Nat.zero_add, Nat.reduceAdd, Nat.reduceSub, List.append_nil, List.getElem?_cons_zero, List.getElem?_cons_succ, List.set_cons_zero, List.set_cons_succ, Option.some.injEq, Prod.mk.injEq, Option.map_some, Option.map_none, W.d.injEq, W.l.injEq, PyData.tuple.injEq, PyData.int.injEq, PyData.bool.injEq, PyData.str.injEq, reduceCtorEq, retOk_d, retOk_1, retOk_2, asgOk_d, asgOk_2, and_assoc, exists_and_left, exists_eq_left', exists_eq_left, true_and, and_true, ex_gD, ex_tN, fLen_gD, fLen_tN, fLen_l, len100, Int.toNat_natCast, Nat.reduceLeDiff, isT_ii, isT_ib, isT_tt, isT_ss, is_integer_eq, is_in_eq, is_list_eq, is_list_tN, is_list_gD, if_true, eq_self, Bool.false_eq_true, if_false, ge1, ge2, one_ne, two_ne, true_implies, unD_append, ex_pair, ex_trip, t_choices])
  refine ⟨by omega, by omega, fun i ρ' => ∃ a b, ρ' = [some (.d (nI n), false), some (.l ((chs i).map tN), true), a, b], ⟨_, _, rfl⟩, ?_, ?_⟩
  · rintro i x _ hx ⟨a, b, rfl⟩
    obtain ⟨rfl, hi⟩ := rng_nat hx
    have hc := chs_len i (by omega)
    (try simp only [dSeq, dNext, dDrop, dAsg, dAsgG, dRet, dIfS, dPar, dVar, dC, dU, dOp, dTst, dAnd, dOr, dNot, dAndV, dNotV, dChain, dIf, dNil, dCons, dStar, dTup, dLst, dCall, dItL, dItT, dRng1, dRng2, dEnum, gdName, gdTup2, gdTup3, dYes, wipeR, dAppend, dExtend, dPopA, dAugL, dCut, dIsi, dLc_eq, dLc2_eq, dFor, dWhile, fAdd, fSub, fLt, fLe, fGt, fGe, fI2_eq, fNeg_eq, fTuple_nis, fTuple_l, fList_l, fList_tN, fCat_eq, unD_nil, unD_d, startR, List.map_cons, List.map_nil, List.length_cons, List.length_nil, List.replicate, List.cons_append, List.nil_append, Nat.zero_add, Nat.reduceAdd, Nat.reduceSub, List.append_nil, List.getElem?_cons_zero, List.getElem?_cons_succ, List.set_cons_zero, List.set_cons_succ, Option.some.injEq, Prod.mk.injEq, Option.map_some, Option.map_none, W.d.injEq, W.l.injEq, PyData.tuple.injEq, PyData.int.injEq, PyData.bool.injEq, PyData.str.injEq, reduceCtorEq, retOk_d, retOk_1, retOk_2, asgOk_d, asgOk_2, and_assoc, exists_and_left, exists_eq_left', exists_eq_left, true_and, and_true, ex_gD, ex_tN, fLen_gD, fLen_tN, fLen_l, len100, Int.toNat_natCast, Nat.reduceLeDiff, isT_ii, isT_ib, isT_tt, isT_ss, is_integer_eq, is_in_eq, is_list_eq, is_list_tN, is_list_gD, if_true, eq_self, Bool.false_eq_true, if_false, ge1, ge2, one_ne, two_ne, true_implies, unD_append, ex_pair, ex_trip])
    refine ⟨by rw [List.length_map]; omega, ?_⟩
    refine lcT (fun S => tN (S ++ [i])) (fun a _ b _ => tN_inj) (fun S hS => ?_) ?_
    · (try simp only [dSeq, dNext, dDrop, dAsg, dAsgG, dRet, dIfS, dPar, dVar, dC, dU, dOp, dTst, dAnd, dOr, dNot, dAndV, dNotV, dChain, dIf, dNil, dCons, dStar, dTup, dLst, dCall, dItL, dItT, dRng1, dRng2, dEnum, gdName, gdTup2, gdTup3, dYes, wipeR, dAppend, dExtend, dPopA, dAugL, dCut, dIsi, dLc_eq, dLc2_eq, dFor, dWhile, fAdd, fSub, fLt, fLe, fGt, fGe, fI2_eq, fNeg_eq, fTuple_nis, fTuple_l, fList_l, fList_tN, fCat_eq, unD_nil, unD_d, startR, List.map_cons, List.map_nil, List.length_cons, List.length_nil, List.replicate, List.cons_append, List.nil_append, Nat.zero_add, Nat.reduceAdd, Nat.reduceSub, List.append_nil, List.getElem?_cons_zero, List.getElem?_cons_succ, List.set_cons_zero, List.set_cons_succ, Option.some.injEq, Prod.mk.injEq, Option.map_some, Option.map_none, W.d.injEq, W.l.injEq, PyData.tuple.injEq, PyData.int.injEq, PyData.bool.injEq, PyData.str.injEq, reduceCtorEq, retOk_d, retOk_1, retOk_2, asgOk_d, asgOk_2, and_assoc, exists_and_left, exists_eq_left', exists_eq_left, true_and, and_true, ex_gD, ex_tN, fLen_gD, fLen_tN, fLen_l, len100, Int.toNat_natCast, Nat.reduceLeDiff, isT_ii, isT_ib, isT_tt, isT_ss, is_integer_eq, is_in_eq, is_list_eq, is_list_tN, is_list_gD, if_true, eq_self, Bool.false_eq_true, if_false, ge1, ge2, one_ne, two_ne, true_implies, unD_append, ex_pair, ex_trip])
      have := chs_row hS
      refine ⟨by simp only [List.length_append, List.length_map, List.length_singleton]; omega, ?_⟩
      unfold tN
      simp
    · (try simp only [dSeq, dNext, dDrop, dAsg, dAsgG, dRet, dIfS, dPar, dVar, dC, dU, dOp, dTst, dAnd, dOr, dNot, dAndV, dNotV, dChain, dIf, dNil, dCons, dStar, dTup, dLst, dCall, dItL, dItT, dRng1, dRng2, dEnum, gdName, gdTup2, gdTup3, dYes, wipeR, dAppend, dExtend, dPopA, dAugL, dCut, dIsi, dLc_eq, dLc2_eq, dFor, dWhile, fAdd, fSub, fLt, fLe, fGt, fGe, fI2_eq, fNeg_eq, fTuple_nis, fTuple_l, fList_l, fList_tN, fCat_eq, unD_nil, unD_d, startR, List.map_cons, List.map_nil, List.length_cons, List.length_nil, List.replicate, List.cons_append, List.nil_append, Nat.zero_add, Nat.reduceAdd, Nat.reduceSub, List.append_nil, List.getElem?_cons_zero, List.getElem?_cons_succ, List.set_cons_zero, List.set_cons_succ, Option.some.injEq, Prod.mk.injEq, Option.map_some, Option.map_none, W.d.injEq, W.l.injEq, PyData.tuple.injEq, PyData.int.injEq, PyData.bool.injEq, PyData.str.injEq, reduceCtorEq, retOk_d, retOk_1, retOk_2, asgOk_d, asgOk_2, and_assoc, exists_and_left, exists_eq_left', exists_eq_left, true_and, and_true, ex_gD, ex_tN, fLen_gD, fLen_tN, fLen_l, len100, Int.toNat_natCast, Nat.reduceLeDiff, isT_ii, isT_ib, isT_tt, isT_ss, is_integer_eq, is_in_eq, is_list_eq, is_list_tN, is_list_gD, if_true, eq_self, Bool.false_eq_true, if_false, ge1, ge2, one_ne, two_ne, true_implies, unD_append, ex_pair, ex_trip])
      refine ⟨by simp only [List.length_map]; omega, some (.d (nI i), true), b, ?_⟩
      have e : chs (i + 1) = chs i ++ (chs i).map fun l => l ++ [i] := rfl
      rw [e]
      simp [List.map_map, Function.comp_def]
  · rintro _ ⟨a, b, rfl⟩
    (try simp only [dSeq, dNext, dDrop, dAsg, dAsgG, dRet, dIfS, dPar, dVar, dC, dU, dOp, dTst, dAnd, dOr, dNot, dAndV, dNotV, dChain, dIf, dNil, dCons, dStar, dTup, dLst, dCall, dItL, dItT, dRng1, dRng2, dEnum, gdName, gdTup2, gdTup3, dYes, wipeR, dAppend, dExtend, dPopA, dAugL, dCut, dIsi, dLc_eq, dLc2_eq, dFor, dWhile, fAdd, fSub, fLt, fLe, fGt, fGe, fI2_eq, fNeg_eq, fTuple_nis, fTuple_l, fList_l, fList_tN, fCat_eq, unD_nil, unD_d, startR, List.map_cons, List.map_nil, List.length_cons, List.length_nil, List.replicate, List.cons_append, List.nil_append, Nat.zero_add, Nat.reduceAdd, Nat.reduceSub, List.append_nil, List.getElem?_cons_zero, List.getElem?_cons_succ, List.set_cons_zero, List.set_cons_succ, Option.some.injEq, Prod.mk.injEq, Option.map_some, Option.map_none, W.d.injEq, W.l.injEq, PyData.tuple.injEq, PyData.int.injEq, PyData.bool.injEq, PyData.str.injEq, reduceCtorEq, retOk_d, retOk_1, retOk_2, asgOk_d, asgOk_2, and_assoc, exists_and_left, exists_eq_left', exists_eq_left, true_and, and_true, ex_gD, ex_tN, fLen_gD, fLen_tN, fLen_l, len100, Int.toNat_natCast, Nat.reduceLeDiff, isT_ii, isT_ib, isT_tt, isT_ss, is_integer_eq, is_in_eq, is_list_eq, is_list_tN, is_list_gD, if_true, eq_self, Bool.false_eq_true, if_false, ge1, ge2, one_ne, two_ne, true_implies, unD_append, ex_pair, ex_trip])
    rw [rng_len]
    exact r
theorem fIxL_last {xs : List PyData} {x : PyData} {k : W → Prop} (r : k (.d x)) : fIxL (.l (xs ++ [x])) (.d (.int (-1))) k := ⟨x, atI_last xs x, r⟩
theorem fIxL_nat {xs : List PyData} {i : Nat} {x : PyData} {k : W → Prop} (h : xs[i]? = some x) (r : k (.d x)) : fIxL (.l xs) (.d (.int (i : Int))) k := ⟨x, atI_nat h, r⟩
theorem sem_story_in : ∀ ws R, sp_story_in ws R → t_story_in { nx := fun _ => R (.d .none), rt := R } (startR ["web", "calls", "found", "person"] ws) := by
  rintro _ R ⟨n, g, l, rfl, o, h1, h2, r⟩
  have hn := o.le
  (try simp only [dSeq, dNext, dDrop, dAsg, dAsgG, dRet, dIfS, dPar, dVar, dC, dU, dOp, dTst, dAnd, dOr, dNot, dAndV, dNotV, dChain, dIf, dNil, dCons, dStar, dTup, dLst, dCall, dItL, dItT, dRng1, dRng2, dEnum, gdName, gdTup2, gdTup3, dYes, wipeR, dAppend, dExtend, dPopA, dAugL, dCut, dIsi, dLc_eq, dLc2_eq, dFor, dWhile, fAdd, fSub, fLt, fLe, fGt, fGe, fI2_eq, fNeg_eq, fTuple_nis, fTuple_l, fList_l, fList_tN, fCat_eq, unD_nil, unD_d, startR, List.map_cons, List.map_nil, List.length_cons, List.length_nil, List.replicate, List.cons_append, List.nil_append, Nat.zero_add, Nat.reduceAdd, Nat.reduceSub, List.append_nil, List.getElem?_cons_zero, List.getElem?_cons_succ, List.set_cons_zero, List.set_cons_succ, Option.some.injEq, Prod.mk.injEq, Option.map_some, Option.map_none, W.d.injEq, W.l.injEq, PyData.tuple.injEq, PyData.int.injEq, PyData.bool.injEq, PyData.str.injEq, reduceCtorEq, retOk_d, retOk_1, retOk_2, asgOk_d, asgOk_2, and_assoc, exists_and_left, exists_eq_left', exists_eq_left, true_and, and_true, ex_gD, ex_tN, fLen_gD, fLen_tN, fLen_l, len100, Int.toNat_natCast, Nat.reduceLeDiff, isT_ii, isT_ib, isT_tt, isT_ss, is_integer_eq, is_in_eq, is_list_eq, is_list_tN, is_list_gD, if_true, eq_self, Bool.false_eq_true, if_false, ge1, ge2, one_ne, two_ne, true_implies, unD_append, ex_pair, ex_trip, t_story_in])
  refine ⟨fun i ρ' => ∃ a, ρ' = [some (.d (gD n g), false), some (.d (tN l), false), some (.l ((List.range (i + 1)).map fun k => gD n (aft g (l.take k))), true), a], ⟨_, rfl⟩, ?_, ?_⟩
  · rintro i x _ hx ⟨a, rfl⟩
    obtain ⟨p, hp, rfl⟩ := nis_at hx
    have hi := (List.getElem?_eq_some_iff.mp hp).1
    (try simp only [dSeq, dNext, dDrop, dAsg, dAsgG, dRet, dIfS, dPar, dVar, dC, dU, dOp, dTst, dAnd, dOr, dNot, dAndV, dNotV, dChain, dIf, dNil, dCons, dStar, dTup, dLst, dCall, dItL, dItT, dRng1, dRng2, dEnum, gdName, gdTup2, gdTup3, dYes, wipeR, dAppend, dExtend, dPopA, dAugL, dCut, dIsi, dLc_eq, dLc2_eq, dFor, dWhile, fAdd, fSub, fLt, fLe, fGt, fGe, fI2_eq, fNeg_eq, fTuple_nis, fTuple_l, fList_l, fList_tN, fCat_eq, unD_nil, unD_d, startR, List.map_cons, List.map_nil, List.length_cons, List.length_nil, List.replicate, List.cons_append, List.nil_append, Nat.zero_add, Nat.reduceAdd, Nat.reduceSub, List.append_nil, List.getElem?_cons_zero, List.getElem?_cons_succ, List.set_cons_zero, List.set_cons_succ, Option.some.injEq, Prod.mk.injEq, Option.map_some, Option.map_none, W.d.injEq, W.l.injEq, PyData.tuple.injEq, PyData.int.injEq, PyData.bool.injEq, PyData.str.injEq, reduceCtorEq, retOk_d, retOk_1, retOk_2, asgOk_d, asgOk_2, and_assoc, exists_and_left, exists_eq_left', exists_eq_left, true_and, and_true, ex_gD, ex_tN, fLen_gD, fLen_tN, fLen_l, len100, Int.toNat_natCast, Nat.reduceLeDiff, isT_ii, isT_ib, isT_tt, isT_ss, is_integer_eq, is_in_eq, is_list_eq, is_list_tN, is_list_gD, if_true, eq_self, Bool.false_eq_true, if_false, ge1, ge2, one_ne, two_ne, true_implies, unD_append, ex_pair, ex_trip])
    have e : ((List.range (i + 1)).map fun k => gD n (aft g (l.take k))) = ((List.range i).map fun k => gD n (aft g (l.take k))) ++ [gD n (aft g (l.take i))] := by
      rw [List.range_succ, List.map_append]
      rfl
    rw [e]
    refine fIxL_last ?_
    have hpn := h2 p (List.mem_of_getElem? hp)
    refine c_call_in o.aft hpn ?_
    (try simp only [dSeq, dNext, dDrop, dAsg, dAsgG, dRet, dIfS, dPar, dVar, dC, dU, dOp, dTst, dAnd, dOr, dNot, dAndV, dNotV, dChain, dIf, dNil, dCons, dStar, dTup, dLst, dCall, dItL, dItT, dRng1, dRng2, dEnum, gdName, gdTup2, gdTup3, dYes, wipeR, dAppend, dExtend, dPopA, dAugL, dCut, dIsi, dLc_eq, dLc2_eq, dFor, dWhile, fAdd, fSub, fLt, fLe, fGt, fGe, fI2_eq, fNeg_eq, fTuple_nis, fTuple_l, fList_l, fList_tN, fCat_eq, unD_nil, unD_d, startR, List.map_cons, List.map_nil, List.length_cons, List.length_nil, List.replicate, List.cons_append, List.nil_append, Nat.zero_add, Nat.reduceAdd, Nat.reduceSub, List.append_nil, List.getElem?_cons_zero, List.getElem?_cons_succ, List.set_cons_zero, List.set_cons_succ, Option.some.injEq, Prod.mk.injEq, Option.map_some, Option.map_none, W.d.injEq, W.l.injEq, PyData.tuple.injEq, PyData.int.injEq, PyData.bool.injEq, PyData.str.injEq, reduceCtorEq, retOk_d, retOk_1, retOk_2, asgOk_d, asgOk_2, and_assoc, exists_and_left, exists_eq_left', exists_eq_left, true_and, and_true, ex_gD, ex_tN, fLen_gD, fLen_tN, fLen_l, len100, Int.toNat_natCast, Nat.reduceLeDiff, isT_ii, isT_ib, isT_tt, isT_ss, is_integer_eq, is_in_eq, is_list_eq, is_list_tN, is_list_gD, if_true, eq_self, Bool.false_eq_true, if_false, ge1, ge2, one_ne, two_ne, true_implies, unD_append, ex_pair, ex_trip])
    refine ⟨by simp only [List.length_append, List.length_map, List.length_range, List.length_singleton]; omega, some (.d (nI p), true), ?_⟩
    rw [← e, List.range_succ (n := i + 1), List.map_append]
    have e2 : aft g (l.take (i + 1)) = callG (aft g (l.take i)) p := by
      rw [aft_take g l i hi]
      rw [(List.getElem?_eq_some_iff.mp hp).2]
    simp [e2]
  · rintro _ ⟨a, rfl⟩
    (try simp only [dSeq, dNext, dDrop, dAsg, dAsgG, dRet, dIfS, dPar, dVar, dC, dU, dOp, dTst, dAnd, dOr, dNot, dAndV, dNotV, dChain, dIf, dNil, dCons, dStar, dTup, dLst, dCall, dItL, dItT, dRng1, dRng2, dEnum, gdName, gdTup2, gdTup3, dYes, wipeR, dAppend, dExtend, dPopA, dAugL, dCut, dIsi, dLc_eq, dLc2_eq, dFor, dWhile, fAdd, fSub, fLt, fLe, fGt, fGe, fI2_eq, fNeg_eq, fTuple_nis, fTuple_l, fList_l, fList_tN, fCat_eq, unD_nil, unD_d, startR, List.map_cons, List.map_nil, List.length_cons, List.length_nil, List.replicate, List.cons_append, List.nil_append, Nat.zero_add, Nat.reduceAdd, Nat.reduceSub, List.append_nil, List.getElem?_cons_zero, List.getElem?_cons_succ, List.set_cons_zero, List.set_cons_succ, Option.some.injEq, Prod.mk.injEq, Option.map_some, Option.map_none, W.d.injEq, W.l.injEq, PyData.tuple.injEq, PyData.int.injEq, PyData.bool.injEq, PyData.str.injEq, reduceCtorEq, retOk_d, retOk_1, retOk_2, asgOk_d, asgOk_2, and_assoc, exists_and_left, exists_eq_left', exists_eq_left, true_and, and_true, ex_gD, ex_tN, fLen_gD, fLen_tN, fLen_l, len100, Int.toNat_natCast, Nat.reduceLeDiff, isT_ii, isT_ib, isT_tt, isT_ss, is_integer_eq, is_in_eq, is_list_eq, is_list_tN, is_list_gD, if_true, eq_self, Bool.false_eq_true, if_false, ge1, ge2, one_ne, two_ne, true_implies, unD_append, ex_pair, ex_trip])
    rw [nis_len]
    exact r
theorem up_down {l : List Nat} : (up l).map Int.toNat = l := by
  show (l.map _).map _ = _
  rw [List.map_map]
  simp [Function.comp_def]
theorem self_grp {n : Nat} {g : Adj} {p : Nat} (hp : p < n) : p ∈ grp n g p := by
  unfold grp
  simp only [List.mem_filter, List.mem_range, decide_eq_true_eq]
  exact ⟨hp, .here⟩
theorem mem_grp {n : Nat} {g : Adj} {p x : Nat} : x ∈ grp n g p ↔ x < n ∧ Ch g All p x := by
  unfold grp
  simp only [List.mem_filter, List.mem_range, decide_eq_true_eq]
theorem sem_groups_in : ∀ ws R, sp_groups_in ws R → t_groups_in { nx := fun _ => R (.d .none), rt := R } (startR ["web", "person"] ws) := by
  rintro _ R ⟨n, g, rfl, o, r⟩
  have hn := o.le
  (try simp only [dSeq, dNext, dDrop, dAsg, dAsgG, dRet, dIfS, dPar, dVar, dC, dU, dOp, dTst, dAnd, dOr, dNot, dAndV, dNotV, dChain, dIf, dNil, dCons, dStar, dTup, dLst, dCall, dItL, dItT, dRng1, dRng2, dEnum, gdName, gdTup2, gdTup3, dYes, wipeR, dAppend, dExtend, dPopA, dAugL, dCut, dIsi, dLc_eq, dLc2_eq, dFor, dWhile, fAdd, fSub, fLt, fLe, fGt, fGe, fI2_eq, fNeg_eq, fTuple_nis, fTuple_l, fList_l, fList_tN, fCat_eq, unD_nil, unD_d, startR, List.map_cons, List.map_nil, List.length_cons, List.length_nil, List.replicate, List.cons_append, List.nil_append, Nat.zero_add, Nat.reduceAdd, Nat.reduceSub, List.append_nil, List.getElem?_cons_zero, List.getElem?_cons_succ, List.set_cons_zero, List.set_cons_succ, Option.some.injEq, Prod.mk.injEq, Option.map_some, Option.map_none, W.d.injEq, W.l.injEq, PyData.tuple.injEq, PyData.int.injEq, PyData.bool.injEq, PyData.str.injEq, reduceCtorEq, retOk_d, retOk_1, retOk_2, asgOk_d, asgOk_2, and_assoc, exists_and_left, exists_eq_left', exists_eq_left, true_and, and_true, ex_gD, ex_tN, fLen_gD, fLen_tN, fLen_l, len100, Int.toNat_natCast, Nat.reduceLeDiff, isT_ii, isT_ib, isT_tt, isT_ss, is_integer_eq, is_in_eq, is_list_eq, is_list_tN, is_list_gD, if_true, eq_self, Bool.false_eq_true, if_false, ge1, ge2, one_ne, two_ne, true_implies, unD_append, ex_pair, ex_trip, t_groups_in])
  refine ⟨by omega, by omega, by rw [rng_len]; omega, ?_⟩
  rw [rng_nI]
  refine lcT (fun p => tN (grp n g p)) (fun a _ b _ => nI_inj) (fun p hp => ?_) ?_
  · (try simp only [dSeq, dNext, dDrop, dAsg, dAsgG, dRet, dIfS, dPar, dVar, dC, dU, dOp, dTst, dAnd, dOr, dNot, dAndV, dNotV, dChain, dIf, dNil, dCons, dStar, dTup, dLst, dCall, dItL, dItT, dRng1, dRng2, dEnum, gdName, gdTup2, gdTup3, dYes, wipeR, dAppend, dExtend, dPopA, dAugL, dCut, dIsi, dLc_eq, dLc2_eq, dFor, dWhile, fAdd, fSub, fLt, fLe, fGt, fGe, fI2_eq, fNeg_eq, fTuple_nis, fTuple_l, fList_l, fList_tN, fCat_eq, unD_nil, unD_d, startR, List.map_cons, List.map_nil, List.length_cons, List.length_nil, List.replicate, List.cons_append, List.nil_append, Nat.zero_add, Nat.reduceAdd, Nat.reduceSub, List.append_nil, List.getElem?_cons_zero, List.getElem?_cons_succ, List.set_cons_zero, List.set_cons_succ, Option.some.injEq, Prod.mk.injEq, Option.map_some, Option.map_none, W.d.injEq, W.l.injEq, PyData.tuple.injEq, PyData.int.injEq, PyData.bool.injEq, PyData.str.injEq, reduceCtorEq, retOk_d, retOk_1, retOk_2, asgOk_d, asgOk_2, and_assoc, exists_and_left, exists_eq_left', exists_eq_left, true_and, and_true, ex_gD, ex_tN, fLen_gD, fLen_tN, fLen_l, len100, Int.toNat_natCast, Nat.reduceLeDiff, isT_ii, isT_ib, isT_tt, isT_ss, is_integer_eq, is_in_eq, is_list_eq, is_list_tN, is_list_gD, if_true, eq_self, Bool.false_eq_true, if_false, ge1, ge2, one_ne, two_ne, true_implies, unD_append, ex_pair, ex_trip])
    refine c_group_in o (List.mem_range.mp hp) ?_
    trivial
  · refine ⟨(List.range n).map fun p => up (grp n g p), ?_, by simp only [List.length_map, List.length_range]; omega, fun b hb => ?_, fun ys nd hy => ?_⟩
    · rw [List.map_map]
      congr 1
      exact List.map_congr_left fun p _ => tN_up _
    · obtain ⟨p, hp, rfl⟩ := List.mem_map.mp hb
      have := self_grp (g := g) (List.mem_range.mp hp)
      intro e
      have e2 : grp n g p = [] := List.map_eq_nil_iff.mp e
      rw [e2] at this
      cases this
    · (try simp only [dSeq, dNext, dDrop, dAsg, dAsgG, dRet, dIfS, dPar, dVar, dC, dU, dOp, dTst, dAnd, dOr, dNot, dAndV, dNotV, dChain, dIf, dNil, dCons, dStar, dTup, dLst, dCall, dItL, dItT, dRng1, dRng2, dEnum, gdName, gdTup2, gdTup3, dYes, wipeR, dAppend, dExtend, dPopA, dAugL, dCut, dIsi, dLc_eq, dLc2_eq, dFor, dWhile, fAdd, fSub, fLt, fLe, fGt, fGe, fI2_eq, fNeg_eq, fTuple_nis, fTuple_l, fList_l, fList_tN, fCat_eq, unD_nil, unD_d, startR, List.map_cons, List.map_nil, List.length_cons, List.length_nil, List.replicate, List.cons_append, List.nil_append, Nat.zero_add, Nat.reduceAdd, Nat.reduceSub, List.append_nil, List.getElem?_cons_zero, List.getElem?_cons_succ, List.set_cons_zero, List.set_cons_succ, Option.some.injEq, Prod.mk.injEq, Option.map_some, Option.map_none, W.d.injEq, W.l.injEq, PyData.tuple.injEq, PyData.int.injEq, PyData.bool.injEq, PyData.str.injEq, reduceCtorEq, retOk_d, retOk_1, retOk_2, asgOk_d, asgOk_2, and_assoc, exists_and_left, exists_eq_left', exists_eq_left, true_and, and_true, ex_gD, ex_tN, fLen_gD, fLen_tN, fLen_l, len100, Int.toNat_natCast, Nat.reduceLeDiff, isT_ii, isT_ib, isT_tt, isT_ss, is_integer_eq, is_in_eq, is_list_eq, is_list_tN, is_list_gD, if_true, eq_self, Bool.false_eq_true, if_false, ge1, ge2, one_ne, two_ne, true_implies, unD_append, ex_pair, ex_trip])
      have hy2 : ys = (ys.map fun y => y.map Int.toNat).map up := by
        rw [List.map_map]
        conv => lhs; rw [← List.map_id ys]
        refine List.map_congr_left fun y hm => ?_
        obtain ⟨p, _, rfl⟩ := List.mem_map.mp ((hy y).mp hm)
        show up (grp n g p) = up ((up (grp n g p)).map Int.toNat)
        rw [up_down]
      have e : ys.map tI = (ys.map fun y => y.map Int.toNat).map tN := by
        conv => lhs; rw [hy2]
        rw [List.map_map]
        exact List.map_congr_left fun l _ => (tN_up l).symm
      rw [e]
      refine r _ ?_ fun S => ?_
      · rw [hy2] at nd
        unfold List.Nodup at nd ⊢
        rw [List.pairwise_map] at nd
        exact nd.imp fun h e => h (by rw [e])
      · constructor
        · intro hS
          obtain ⟨y, hm, rfl⟩ := List.mem_map.mp hS
          obtain ⟨p, hp, rfl⟩ := List.mem_map.mp ((hy y).mp hm)
          exact ⟨p, List.mem_range.mp hp, up_down⟩
        · rintro ⟨p, hp, rfl⟩
          exact List.mem_map.mpr ⟨up (grp n g p), (hy _).mpr (List.mem_map.mpr ⟨p, List.mem_range.mpr hp, rfl⟩), up_down⟩
theorem sem_told_in : ∀ ws R, sp_told_in ws R → t_told_in { nx := fun _ => R (.d .none), rt := R } (startR ["web", "called", "found", "person", "other"] ws) := by
  rintro _ R ⟨n, g, S, rfl, o, r⟩
  have hn := o.le
  (try simp only [dSeq, dNext, dDrop, dAsg, dAsgG, dRet, dIfS, dPar, dVar, dC, dU, dOp, dTst, dAnd, dOr, dNot, dAndV, dNotV, dChain, dIf, dNil, dCons, dStar, dTup, dLst, dCall, dItL, dItT, dRng1, dRng2, dEnum, gdName, gdTup2, gdTup3, dYes, wipeR, dAppend, dExtend, dPopA, dAugL, dCut, dIsi, dLc_eq, dLc2_eq, dFor, dWhile, fAdd, fSub, fLt, fLe, fGt, fGe, fI2_eq, fNeg_eq, fTuple_nis, fTuple_l, fList_l, fList_tN, fCat_eq, unD_nil, unD_d, startR, List.map_cons, List.map_nil, List.length_cons, List.length_nil, List.replicate, List.cons_append, List.nil_append, Nat.zero_add, Nat.reduceAdd, Nat.reduceSub, List.append_nil, List.getElem?_cons_zero, List.getElem?_cons_succ, List.set_cons_zero, List.set_cons_succ, Option.some.injEq, Prod.mk.injEq, Option.map_some, Option.map_none, W.d.injEq, W.l.injEq, PyData.tuple.injEq, PyData.int.injEq, PyData.bool.injEq, PyData.str.injEq, reduceCtorEq, retOk_d, retOk_1, retOk_2, asgOk_d, asgOk_2, and_assoc, exists_and_left, exists_eq_left', exists_eq_left, true_and, and_true, ex_gD, ex_tN, fLen_gD, fLen_tN, fLen_l, len100, Int.toNat_natCast, Nat.reduceLeDiff, isT_ii, isT_ib, isT_tt, isT_ss, is_integer_eq, is_in_eq, is_list_eq, is_list_tN, is_list_gD, if_true, eq_self, Bool.false_eq_true, if_false, ge1, ge2, one_ne, two_ne, true_implies, unD_append, ex_pair, ex_trip, t_told_in])
  refine ⟨by omega, by omega, fun i ρ' => ∃ ps a b, ρ' = [some (.d (gD n g), false), some (.d (tN S), false), some (.l (prD ps), true), a, b] ∧ ps.length ≤ 6 * i ∧ ∀ q : Nat × Nat, q ∈ ps ↔ q.1 < i ∧ q.1 < q.2 ∧ Ch g (fun x => x ∈ S) q.1 q.2,
    ⟨[], _, _, rfl, by simp, fun q => by simp⟩, ?_, ?_⟩
  · rintro i x _ hx ⟨ps, a, b, rfl, hl, hm⟩
    obtain ⟨rfl, hi⟩ := rng_nat hx
    (try simp only [dSeq, dNext, dDrop, dAsg, dAsgG, dRet, dIfS, dPar, dVar, dC, dU, dOp, dTst, dAnd, dOr, dNot, dAndV, dNotV, dChain, dIf, dNil, dCons, dStar, dTup, dLst, dCall, dItL, dItT, dRng1, dRng2, dEnum, gdName, gdTup2, gdTup3, dYes, wipeR, dAppend, dExtend, dPopA, dAugL, dCut, dIsi, dLc_eq, dLc2_eq, dFor, dWhile, fAdd, fSub, fLt, fLe, fGt, fGe, fI2_eq, fNeg_eq, fTuple_nis, fTuple_l, fList_l, fList_tN, fCat_eq, unD_nil, unD_d, startR, List.map_cons, List.map_nil, List.length_cons, List.length_nil, List.replicate, List.cons_append, List.nil_append, Nat.zero_add, Nat.reduceAdd, Nat.reduceSub, List.append_nil, List.getElem?_cons_zero, List.getElem?_cons_succ, List.set_cons_zero, List.set_cons_succ, Option.some.injEq, Prod.mk.injEq, Option.map_some, Option.map_none, W.d.injEq, W.l.injEq, PyData.tuple.injEq, PyData.int.injEq, PyData.bool.injEq, PyData.str.injEq, reduceCtorEq, retOk_d, retOk_1, retOk_2, asgOk_d, asgOk_2, and_assoc, exists_and_left, exists_eq_left', exists_eq_left, true_and, and_true, ex_gD, ex_tN, fLen_gD, fLen_tN, fLen_l, len100, Int.toNat_natCast, Nat.reduceLeDiff, isT_ii, isT_ib, isT_tt, isT_ss, is_integer_eq, is_in_eq, is_list_eq, is_list_tN, is_list_gD, if_true, eq_self, Bool.false_eq_true, if_false, ge1, ge2, one_ne, two_ne, true_implies, unD_append, ex_pair, ex_trip])
    refine c_chain_ends o hi fun ms nd hms => ?_
    (try simp only [dSeq, dNext, dDrop, dAsg, dAsgG, dRet, dIfS, dPar, dVar, dC, dU, dOp, dTst, dAnd, dOr, dNot, dAndV, dNotV, dChain, dIf, dNil, dCons, dStar, dTup, dLst, dCall, dItL, dItT, dRng1, dRng2, dEnum, gdName, gdTup2, gdTup3, dYes, wipeR, dAppend, dExtend, dPopA, dAugL, dCut, dIsi, dLc_eq, dLc2_eq, dFor, dWhile, fAdd, fSub, fLt, fLe, fGt, fGe, fI2_eq, fNeg_eq, fTuple_nis, fTuple_l, fList_l, fList_tN, fCat_eq, unD_nil, unD_d, startR, List.map_cons, List.map_nil, List.length_cons, List.length_nil, List.replicate, List.cons_append, List.nil_append, Nat.zero_add, Nat.reduceAdd, Nat.reduceSub, List.append_nil, List.getElem?_cons_zero, List.getElem?_cons_succ, List.set_cons_zero, List.set_cons_succ, Option.some.injEq, Prod.mk.injEq, Option.map_some, Option.map_none, W.d.injEq, W.l.injEq, PyData.tuple.injEq, PyData.int.injEq, PyData.bool.injEq, PyData.str.injEq, reduceCtorEq, retOk_d, retOk_1, retOk_2, asgOk_d, asgOk_2, and_assoc, exists_and_left, exists_eq_left', exists_eq_left, true_and, and_true, ex_gD, ex_tN, fLen_gD, fLen_tN, fLen_l, len100, Int.toNat_natCast, Nat.reduceLeDiff, isT_ii, isT_ib, isT_tt, isT_ss, is_integer_eq, is_in_eq, is_list_eq, is_list_tN, is_list_gD, if_true, eq_self, Bool.false_eq_true, if_false, ge1, ge2, one_ne, two_ne, true_implies, unD_append, ex_pair, ex_trip])
    have lms : ms.length ≤ n := len_le nd fun x hx => ((hms x).mp hx).lt o hi
    refine ⟨by rw [nis_len]; omega, ?_⟩
    refine lcM (fun b => decide (i < b)) (fun b => pD (i, b)) (fun a _ b _ => nI_inj) (fun x hx => ?_) ?_
    · (try simp only [dSeq, dNext, dDrop, dAsg, dAsgG, dRet, dIfS, dPar, dVar, dC, dU, dOp, dTst, dAnd, dOr, dNot, dAndV, dNotV, dChain, dIf, dNil, dCons, dStar, dTup, dLst, dCall, dItL, dItT, dRng1, dRng2, dEnum, gdName, gdTup2, gdTup3, dYes, wipeR, dAppend, dExtend, dPopA, dAugL, dCut, dIsi, dLc_eq, dLc2_eq, dFor, dWhile, fAdd, fSub, fLt, fLe, fGt, fGe, fI2_eq, fNeg_eq, fTuple_nis, fTuple_l, fList_l, fList_tN, fCat_eq, unD_nil, unD_d, startR, List.map_cons, List.map_nil, List.length_cons, List.length_nil, List.replicate, List.cons_append, List.nil_append, Nat.zero_add, Nat.reduceAdd, Nat.reduceSub, List.append_nil, List.getElem?_cons_zero, List.getElem?_cons_succ, List.set_cons_zero, List.set_cons_succ, Option.some.injEq, Prod.mk.injEq, Option.map_some, Option.map_none, W.d.injEq, W.l.injEq, PyData.tuple.injEq, PyData.int.injEq, PyData.bool.injEq, PyData.str.injEq, reduceCtorEq, retOk_d, retOk_1, retOk_2, asgOk_d, asgOk_2, and_assoc, exists_and_left, exists_eq_left', exists_eq_left, true_and, and_true, ex_gD, ex_tN, fLen_gD, fLen_tN, fLen_l, len100, Int.toNat_natCast, Nat.reduceLeDiff, isT_ii, isT_ib, isT_tt, isT_ss, is_integer_eq, is_in_eq, is_list_eq, is_list_tN, is_list_gD, if_true, eq_self, Bool.false_eq_true, if_false, ge1, ge2, one_ne, two_ne, true_implies, unD_append, ex_pair, ex_trip, ilt])
      intro _
      trivial
    · (try simp only [dSeq, dNext, dDrop, dAsg, dAsgG, dRet, dIfS, dPar, dVar, dC, dU, dOp, dTst, dAnd, dOr, dNot, dAndV, dNotV, dChain, dIf, dNil, dCons, dStar, dTup, dLst, dCall, dItL, dItT, dRng1, dRng2, dEnum, gdName, gdTup2, gdTup3, dYes, wipeR, dAppend, dExtend, dPopA, dAugL, dCut, dIsi, dLc_eq, dLc2_eq, dFor, dWhile, fAdd, fSub, fLt, fLe, fGt, fGe, fI2_eq, fNeg_eq, fTuple_nis, fTuple_l, fList_l, fList_tN, fCat_eq, unD_nil, unD_d, startR, List.map_cons, List.map_nil, List.length_cons, List.length_nil, List.replicate, List.cons_append, List.nil_append, Nat.zero_add, Nat.reduceAdd, Nat.reduceSub, List.append_nil, List.getElem?_cons_zero, List.getElem?_cons_succ, List.set_cons_zero, List.set_cons_succ, Option.some.injEq, Prod.mk.injEq, Option.map_some, Option.map_none, W.d.injEq, W.l.injEq, PyData.tuple.injEq, PyData.int.injEq, PyData.bool.injEq, PyData.str.injEq, reduceCtorEq, retOk_d, retOk_1, retOk_2, asgOk_d, asgOk_2, and_assoc, exists_and_left, exists_eq_left', exists_eq_left, true_and, and_true, ex_gD, ex_tN, fLen_gD, fLen_tN, fLen_l, len100, Int.toNat_natCast, Nat.reduceLeDiff, isT_ii, isT_ib, isT_tt, isT_ss, is_integer_eq, is_in_eq, is_list_eq, is_list_tN, is_list_gD, if_true, eq_self, Bool.false_eq_true, if_false, ge1, ge2, one_ne, two_ne, true_implies, unD_append, ex_pair, ex_trip])
      have lf := List.length_filter_le (fun b => decide (i < b)) ms
      refine ⟨by simp only [List.length_map]; omega, ps ++ (ms.filter fun b => decide (i < b)).map fun b => (i, b), some (.d (nI i), true), b, ?_, ?_, fun q => ?_⟩
      · simp [List.map_map, Function.comp_def]
      · rw [List.length_append, List.length_map]
        omega
      · rw [List.mem_append, hm]
        simp only [List.mem_map, List.mem_filter, decide_eq_true_eq]
        constructor
        · rintro (⟨h1, h2, h3⟩ | ⟨x, ⟨h1, h2⟩, rfl⟩)
          · exact ⟨by omega, h2, h3⟩
          · exact ⟨Nat.lt_succ_self i, h2, (hms x).mp h1⟩
        · rintro ⟨h1, h2, h3⟩
          by_cases e : q.1 = i
          · refine .inr ⟨q.2, ⟨(hms q.2).mpr (e ▸ h3), by omega⟩, ?_⟩
            rw [← e]
          · exact .inl ⟨by omega, h2, h3⟩
  · rintro _ ⟨ps, a, b, rfl, hl, hm⟩
    (try simp only [dSeq, dNext, dDrop, dAsg, dAsgG, dRet, dIfS, dPar, dVar, dC, dU, dOp, dTst, dAnd, dOr, dNot, dAndV, dNotV, dChain, dIf, dNil, dCons, dStar, dTup, dLst, dCall, dItL, dItT, dRng1, dRng2, dEnum, gdName, gdTup2, gdTup3, dYes, wipeR, dAppend, dExtend, dPopA, dAugL, dCut, dIsi, dLc_eq, dLc2_eq, dFor, dWhile, fAdd, fSub, fLt, fLe, fGt, fGe, fI2_eq, fNeg_eq, fTuple_nis, fTuple_l, fList_l, fList_tN, fCat_eq, unD_nil, unD_d, startR, List.map_cons, List.map_nil, List.length_cons, List.length_nil, List.replicate, List.cons_append, List.nil_append, Nat.zero_add, Nat.reduceAdd, Nat.reduceSub, List.append_nil, List.getElem?_cons_zero, List.getElem?_cons_succ, List.set_cons_zero, List.set_cons_succ, Option.some.injEq, Prod.mk.injEq, Option.map_some, Option.map_none, W.d.injEq, W.l.injEq, PyData.tuple.injEq, PyData.int.injEq, PyData.bool.injEq, PyData.str.injEq, reduceCtorEq, retOk_d, retOk_1, retOk_2, asgOk_d, asgOk_2, and_assoc, exists_and_left, exists_eq_left', exists_eq_left, true_and, and_true, ex_gD, ex_tN, fLen_gD, fLen_tN, fLen_l, len100, Int.toNat_natCast, Nat.reduceLeDiff, isT_ii, isT_ib, isT_tt, isT_ss, is_integer_eq, is_in_eq, is_list_eq, is_list_tN, is_list_gD, if_true, eq_self, Bool.false_eq_true, if_false, ge1, ge2, one_ne, two_ne, true_implies, unD_append, ex_pair, ex_trip])
    rw [rng_len] at hl hm
    have hlt : ∀ q ∈ ps, q.1 < q.2 := fun q hq => ((hm q).mp hq).2.1
    refine c_web_by o.pos hn (by omega) (fun q hq => ?_) ?_
    · obtain ⟨h1, h2, h3⟩ := (hm q).mp hq
      have := h3.lt o h1
      omega
    · (try simp only [dSeq, dNext, dDrop, dAsg, dAsgG, dRet, dIfS, dPar, dVar, dC, dU, dOp, dTst, dAnd, dOr, dNot, dAndV, dNotV, dChain, dIf, dNil, dCons, dStar, dTup, dLst, dCall, dItL, dItT, dRng1, dRng2, dEnum, gdName, gdTup2, gdTup3, dYes, wipeR, dAppend, dExtend, dPopA, dAugL, dCut, dIsi, dLc_eq, dLc2_eq, dFor, dWhile, fAdd, fSub, fLt, fLe, fGt, fGe, fI2_eq, fNeg_eq, fTuple_nis, fTuple_l, fList_l, fList_tN, fCat_eq, unD_nil, unD_d, startR, List.map_cons, List.map_nil, List.length_cons, List.length_nil, List.replicate, List.cons_append, List.nil_append, Nat.zero_add, Nat.reduceAdd, Nat.reduceSub, List.append_nil, List.getElem?_cons_zero, List.getElem?_cons_succ, List.set_cons_zero, List.set_cons_succ, Option.some.injEq, Prod.mk.injEq, Option.map_some, Option.map_none, W.d.injEq, W.l.injEq, PyData.tuple.injEq, PyData.int.injEq, PyData.bool.injEq, PyData.str.injEq, reduceCtorEq, retOk_d, retOk_1, retOk_2, asgOk_d, asgOk_2, and_assoc, exists_and_left, exists_eq_left', exists_eq_left, true_and, and_true, ex_gD, ex_tN, fLen_gD, fLen_tN, fLen_l, len100, Int.toNat_natCast, Nat.reduceLeDiff, isT_ii, isT_ib, isT_tt, isT_ss, is_integer_eq, is_in_eq, is_list_eq, is_list_tN, is_list_gD, if_true, eq_self, Bool.false_eq_true, if_false, ge1, ge2, one_ne, two_ne, true_implies, unD_append, ex_pair, ex_trip])
      rw [edges_eq (o.told S) hlt fun i j lt => ?_]
      · exact r
      · rw [hm, told_at]
        exact ⟨fun ⟨h1, h2, h3⟩ => ⟨h1, by simp at h2; omega, h3⟩, fun ⟨h1, h2, h3⟩ => ⟨h1, lt, h3⟩⟩
theorem sem_rest_of : ∀ ws R, sp_rest_of ws R → t_rest_of { nx := fun _ => R (.d .none), rt := R } (startR ["web", "found", "group", "one", "other"] ws) := by
  rintro _ R ⟨n, g, rfl, o, r⟩
  have hn := o.le
  (try simp only [dSeq, dNext, dDrop, dAsg, dAsgG, dRet, dIfS, dPar, dVar, dC, dU, dOp, dTst, dAnd, dOr, dNot, dAndV, dNotV, dChain, dIf, dNil, dCons, dStar, dTup, dLst, dCall, dItL, dItT, dRng1, dRng2, dEnum, gdName, gdTup2, gdTup3, dYes, wipeR, dAppend, dExtend, dPopA, dAugL, dCut, dIsi, dLc_eq, dLc2_eq, dFor, dWhile, fAdd, fSub, fLt, fLe, fGt, fGe, fI2_eq, fNeg_eq, fTuple_nis, fTuple_l, fList_l, fList_tN, fCat_eq, unD_nil, unD_d, startR, List.map_cons, List.map_nil, List.length_cons, List.length_nil, List.replicate, List.cons_append, List.nil_append, Nat.zero_add, Nat.reduceAdd, Nat.reduceSub, List.append_nil, List.getElem?_cons_zero, List.getElem?_cons_succ, List.set_cons_zero, List.set_cons_succ, Option.some.injEq, Prod.mk.injEq, Option.map_some, Option.map_none, W.d.injEq, W.l.injEq, PyData.tuple.injEq, PyData.int.injEq, PyData.bool.injEq, PyData.str.injEq, reduceCtorEq, retOk_d, retOk_1, retOk_2, asgOk_d, asgOk_2, and_assoc, exists_and_left, exists_eq_left', exists_eq_left, true_and, and_true, ex_gD, ex_tN, fLen_gD, fLen_tN, fLen_l, len100, Int.toNat_natCast, Nat.reduceLeDiff, isT_ii, isT_ib, isT_tt, isT_ss, is_integer_eq, is_in_eq, is_list_eq, is_list_tN, is_list_gD, if_true, eq_self, Bool.false_eq_true, if_false, ge1, ge2, one_ne, two_ne, true_implies, unD_append, ex_pair, ex_trip, t_rest_of])
  refine c_groups_in o fun gs nd hgs => ?_
  (try simp only [dSeq, dNext, dDrop, dAsg, dAsgG, dRet, dIfS, dPar, dVar, dC, dU, dOp, dTst, dAnd, dOr, dNot, dAndV, dNotV, dChain, dIf, dNil, dCons, dStar, dTup, dLst, dCall, dItL, dItT, dRng1, dRng2, dEnum, gdName, gdTup2, gdTup3, dYes, wipeR, dAppend, dExtend, dPopA, dAugL, dCut, dIsi, dLc_eq, dLc2_eq, dFor, dWhile, fAdd, fSub, fLt, fLe, fGt, fGe, fI2_eq, fNeg_eq, fTuple_nis, fTuple_l, fList_l, fList_tN, fCat_eq, unD_nil, unD_d, startR, List.map_cons, List.map_nil, List.length_cons, List.length_nil, List.replicate, List.cons_append, List.nil_append, Nat.zero_add, Nat.reduceAdd, Nat.reduceSub, List.append_nil, List.getElem?_cons_zero, List.getElem?_cons_succ, List.set_cons_zero, List.set_cons_succ, Option.some.injEq, Prod.mk.injEq, Option.map_some, Option.map_none, W.d.injEq, W.l.injEq, PyData.tuple.injEq, PyData.int.injEq, PyData.bool.injEq, PyData.str.injEq, reduceCtorEq, retOk_d, retOk_1, retOk_2, asgOk_d, asgOk_2, and_assoc, exists_and_left, exists_eq_left', exists_eq_left, true_and, and_true, ex_gD, ex_tN, fLen_gD, fLen_tN, fLen_l, len100, Int.toNat_natCast, Nat.reduceLeDiff, isT_ii, isT_ib, isT_tt, isT_ss, is_integer_eq, is_in_eq, is_list_eq, is_list_tN, is_list_gD, if_true, eq_self, Bool.false_eq_true, if_false, ge1, ge2, one_ne, two_ne, true_implies, unD_append, ex_pair, ex_trip])
  have lgs : gs.length ≤ n := by
    have := List.Nodup.length_le_of_subset nd (l₂ := (List.range n).map (grp n g)) fun S hS => by
      obtain ⟨p, hp, rfl⟩ := (hgs S).mp hS
      exact List.mem_map.mpr ⟨p, List.mem_range.mpr hp, rfl⟩
    rwa [List.length_map, List.length_range] at this
  refine ⟨fun i ρ' => ∃ ps a b c, ρ' = [some (.d (gD n g), false), some (.l (prD ps), true), a, b, c] ∧ ps.length ≤ 36 * i ∧ ∀ q : Nat × Nat, q ∈ ps ↔ ∃ S ∈ gs.take i, q.1 ∈ S ∧ q.2 ∈ S ∧ q.1 < q.2,
    ⟨[], _, _, _, rfl, by simp, fun q => by simp⟩, ?_, ?_⟩
  · rintro i x _ hx ⟨ps, a, b, c, rfl, hl, hm⟩
    obtain ⟨S, hS, rfl⟩ := map_at hx
    have hi := (List.getElem?_eq_some_iff.mp hS).1
    have lS : S.length ≤ n := by
      obtain ⟨p, hp, rfl⟩ := (hgs S).mp (List.mem_of_getElem? hS)
      exact filter_range_len _ _
    (try simp only [dSeq, dNext, dDrop, dAsg, dAsgG, dRet, dIfS, dPar, dVar, dC, dU, dOp, dTst, dAnd, dOr, dNot, dAndV, dNotV, dChain, dIf, dNil, dCons, dStar, dTup, dLst, dCall, dItL, dItT, dRng1, dRng2, dEnum, gdName, gdTup2, gdTup3, dYes, wipeR, dAppend, dExtend, dPopA, dAugL, dCut, dIsi, dLc_eq, dLc2_eq, dFor, dWhile, fAdd, fSub, fLt, fLe, fGt, fGe, fI2_eq, fNeg_eq, fTuple_nis, fTuple_l, fList_l, fList_tN, fCat_eq, unD_nil, unD_d, startR, List.map_cons, List.map_nil, List.length_cons, List.length_nil, List.replicate, List.cons_append, List.nil_append, Nat.zero_add, Nat.reduceAdd, Nat.reduceSub, List.append_nil, List.getElem?_cons_zero, List.getElem?_cons_succ, List.set_cons_zero, List.set_cons_succ, Option.some.injEq, Prod.mk.injEq, Option.map_some, Option.map_none, W.d.injEq, W.l.injEq, PyData.tuple.injEq, PyData.int.injEq, PyData.bool.injEq, PyData.str.injEq, reduceCtorEq, retOk_d, retOk_1, retOk_2, asgOk_d, asgOk_2, and_assoc, exists_and_left, exists_eq_left', exists_eq_left, true_and, and_true, ex_gD, ex_tN, fLen_gD, fLen_tN, fLen_l, len100, Int.toNat_natCast, Nat.reduceLeDiff, isT_ii, isT_ib, isT_tt, isT_ss, is_integer_eq, is_in_eq, is_list_eq, is_list_tN, is_list_gD, if_true, eq_self, Bool.false_eq_true, if_false, ge1, ge2, one_ne, two_ne, true_implies, unD_append, ex_pair, ex_trip])
    refine ⟨fun j ρ' => ∃ ps b, ρ' = [some (.d (gD n g), false), some (.l (prD ps), true), some (.d (tN S), true), b, c] ∧ ps.length ≤ 36 * i + 6 * j ∧ ∀ q : Nat × Nat, q ∈ ps ↔ (∃ S ∈ gs.take i, q.1 ∈ S ∧ q.2 ∈ S ∧ q.1 < q.2) ∨ (q.1 ∈ S.take j ∧ q.2 ∈ S ∧ q.1 < q.2),
      ⟨ps, b, rfl, by omega, fun q => by rw [hm]; simp⟩, ?_, ?_⟩
    · rintro j x _ hx ⟨ps, b, rfl, hl, hm⟩
      obtain ⟨y, hy, rfl⟩ := nis_at hx
      have hj := (List.getElem?_eq_some_iff.mp hy).1
      (try simp only [dSeq, dNext, dDrop, dAsg, dAsgG, dRet, dIfS, dPar, dVar, dC, dU, dOp, dTst, dAnd, dOr, dNot, dAndV, dNotV, dChain, dIf, dNil, dCons, dStar, dTup, dLst, dCall, dItL, dItT, dRng1, dRng2, dEnum, gdName, gdTup2, gdTup3, dYes, wipeR, dAppend, dExtend, dPopA, dAugL, dCut, dIsi, dLc_eq, dLc2_eq, dFor, dWhile, fAdd, fSub, fLt, fLe, fGt, fGe, fI2_eq, fNeg_eq, fTuple_nis, fTuple_l, fList_l, fList_tN, fCat_eq, unD_nil, unD_d, startR, List.map_cons, List.map_nil, List.length_cons, List.length_nil, List.replicate, List.cons_append, List.nil_append, Nat.zero_add, Nat.reduceAdd, Nat.reduceSub, List.append_nil, List.getElem?_cons_zero, List.getElem?_cons_succ, List.set_cons_zero, List.set_cons_succ, Option.some.injEq, Prod.mk.injEq, Option.map_some, Option.map_none, W.d.injEq, W.l.injEq, PyData.tuple.injEq, PyData.int.injEq, PyData.bool.injEq, PyData.str.injEq, reduceCtorEq, retOk_d, retOk_1, retOk_2, asgOk_d, asgOk_2, and_assoc, exists_and_left, exists_eq_left', exists_eq_left, true_and, and_true, ex_gD, ex_tN, fLen_gD, fLen_tN, fLen_l, len100, Int.toNat_natCast, Nat.reduceLeDiff, isT_ii, isT_ib, isT_tt, isT_ss, is_integer_eq, is_in_eq, is_list_eq, is_list_tN, is_list_gD, if_true, eq_self, Bool.false_eq_true, if_false, ge1, ge2, one_ne, two_ne, true_implies, unD_append, ex_pair, ex_trip])
      refine ⟨by rw [nis_len]; omega, ?_⟩
      refine lcM (fun b => decide (y < b)) (fun b => pD (y, b)) (fun a _ b _ => nI_inj) (fun x hx => ?_) ?_
      · (try simp only [dSeq, dNext, dDrop, dAsg, dAsgG, dRet, dIfS, dPar, dVar, dC, dU, dOp, dTst, dAnd, dOr, dNot, dAndV, dNotV, dChain, dIf, dNil, dCons, dStar, dTup, dLst, dCall, dItL, dItT, dRng1, dRng2, dEnum, gdName, gdTup2, gdTup3, dYes, wipeR, dAppend, dExtend, dPopA, dAugL, dCut, dIsi, dLc_eq, dLc2_eq, dFor, dWhile, fAdd, fSub, fLt, fLe, fGt, fGe, fI2_eq, fNeg_eq, fTuple_nis, fTuple_l, fList_l, fList_tN, fCat_eq, unD_nil, unD_d, startR, List.map_cons, List.map_nil, List.length_cons, List.length_nil, List.replicate, List.cons_append, List.nil_append, Nat.zero_add, Nat.reduceAdd, Nat.reduceSub, List.append_nil, List.getElem?_cons_zero, List.getElem?_cons_succ, List.set_cons_zero, List.set_cons_succ, Option.some.injEq, Prod.mk.injEq, Option.map_some, Option.map_none, W.d.injEq, W.l.injEq, PyData.tuple.injEq, PyData.int.injEq, PyData.bool.injEq, PyData.str.injEq, reduceCtorEq, retOk_d, retOk_1, retOk_2, asgOk_d, asgOk_2, and_assoc, exists_and_left, exists_eq_left', exists_eq_left, true_and, and_true, ex_gD, ex_tN, fLen_gD, fLen_tN, fLen_l, len100, Int.toNat_natCast, Nat.reduceLeDiff, isT_ii, isT_ib, isT_tt, isT_ss, is_integer_eq, is_in_eq, is_list_eq, is_list_tN, is_list_gD, if_true, eq_self, Bool.false_eq_true, if_false, ge1, ge2, one_ne, two_ne, true_implies, unD_append, ex_pair, ex_trip, ilt])
        intro _
        trivial
      · (try simp only [dSeq, dNext, dDrop, dAsg, dAsgG, dRet, dIfS, dPar, dVar, dC, dU, dOp, dTst, dAnd, dOr, dNot, dAndV, dNotV, dChain, dIf, dNil, dCons, dStar, dTup, dLst, dCall, dItL, dItT, dRng1, dRng2, dEnum, gdName, gdTup2, gdTup3, dYes, wipeR, dAppend, dExtend, dPopA, dAugL, dCut, dIsi, dLc_eq, dLc2_eq, dFor, dWhile, fAdd, fSub, fLt, fLe, fGt, fGe, fI2_eq, fNeg_eq, fTuple_nis, fTuple_l, fList_l, fList_tN, fCat_eq, unD_nil, unD_d, startR, List.map_cons, List.map_nil, List.length_cons, List.length_nil, List.replicate, List.cons_append, List.nil_append, Nat.zero_add, Nat.reduceAdd, Nat.reduceSub, List.append_nil, List.getElem?_cons_zero, List.getElem?_cons_succ, List.set_cons_zero, List.set_cons_succ, Option.some.injEq, Prod.mk.injEq, Option.map_some, Option.map_none, W.d.injEq, W.l.injEq, PyData.tuple.injEq, PyData.int.injEq, PyData.bool.injEq, PyData.str.injEq, reduceCtorEq, retOk_d, retOk_1, retOk_2, asgOk_d, asgOk_2, and_assoc, exists_and_left, exists_eq_left', exists_eq_left, true_and, and_true, ex_gD, ex_tN, fLen_gD, fLen_tN, fLen_l, len100, Int.toNat_natCast, Nat.reduceLeDiff, isT_ii, isT_ib, isT_tt, isT_ss, is_integer_eq, is_in_eq, is_list_eq, is_list_tN, is_list_gD, if_true, eq_self, Bool.false_eq_true, if_false, ge1, ge2, one_ne, two_ne, true_implies, unD_append, ex_pair, ex_trip])
        have lf := List.length_filter_le (fun b => decide (y < b)) S
        refine ⟨by simp only [List.length_map]; omega, ps ++ (S.filter fun b => decide (y < b)).map fun b => (y, b), some (.d (nI y), true), ?_, ?_, fun q => ?_⟩
        · simp [List.map_map, Function.comp_def]
        · rw [List.length_append, List.length_map]
          omega
        · rw [List.mem_append, hm, mem_take_succ hy]
          simp only [List.mem_map, List.mem_filter, decide_eq_true_eq]
          constructor
          · rintro ((h | ⟨h1, h2, h3⟩) | ⟨x, ⟨h1, h2⟩, rfl⟩)
            · exact .inl h
            · exact .inr ⟨.inl h1, h2, h3⟩
            · exact .inr ⟨.inr rfl, h1, h2⟩
          · rintro (h | ⟨h1 | h1, h2, h3⟩)
            · exact .inl (.inl h)
            · exact .inl (.inr ⟨h1, h2, h3⟩)
            · refine .inr ⟨q.2, ⟨h2, by omega⟩, ?_⟩
              rw [← h1]
    · rintro _ ⟨ps, b, rfl, hl, hm⟩
      rw [nis_len] at hl hm
      refine ⟨ps, some (.d (tN S), true), b, c, rfl, by omega, fun q => ?_⟩
      rw [hm, List.take_length, List.take_add_one, hS]
      simp only [List.mem_append, Option.toList_some, List.mem_singleton]
      constructor
      · rintro (⟨S', h1, h2⟩ | h)
        · exact ⟨S', .inl h1, h2⟩
        · exact ⟨S, .inr rfl, h⟩
      · rintro ⟨S', h1 | rfl, h2⟩
        · exact .inl ⟨S', h1, h2⟩
        · exact .inr h2
  · rintro _ ⟨ps, a, b, c, rfl, hl, hm⟩
    rw [List.length_map] at hl hm
    rw [List.take_length] at hm
    (try simp only [dSeq, dNext, dDrop, dAsg, dAsgG, dRet, dIfS, dPar, dVar, dC, dU, dOp, dTst, dAnd, dOr, dNot, dAndV, dNotV, dChain, dIf, dNil, dCons, dStar, dTup, dLst, dCall, dItL, dItT, dRng1, dRng2, dEnum, gdName, gdTup2, gdTup3, dYes, wipeR, dAppend, dExtend, dPopA, dAugL, dCut, dIsi, dLc_eq, dLc2_eq, dFor, dWhile, fAdd, fSub, fLt, fLe, fGt, fGe, fI2_eq, fNeg_eq, fTuple_nis, fTuple_l, fList_l, fList_tN, fCat_eq, unD_nil, unD_d, startR, List.map_cons, List.map_nil, List.length_cons, List.length_nil, List.replicate, List.cons_append, List.nil_append, Nat.zero_add, Nat.reduceAdd, Nat.reduceSub, List.append_nil, List.getElem?_cons_zero, List.getElem?_cons_succ, List.set_cons_zero, List.set_cons_succ, Option.some.injEq, Prod.mk.injEq, Option.map_some, Option.map_none, W.d.injEq, W.l.injEq, PyData.tuple.injEq, PyData.int.injEq, PyData.bool.injEq, PyData.str.injEq, reduceCtorEq, retOk_d, retOk_1, retOk_2, asgOk_d, asgOk_2, and_assoc, exists_and_left, exists_eq_left', exists_eq_left, true_and, and_true, ex_gD, ex_tN, fLen_gD, fLen_tN, fLen_l, len100, Int.toNat_natCast, Nat.reduceLeDiff, isT_ii, isT_ib, isT_tt, isT_ss, is_integer_eq, is_in_eq, is_list_eq, is_list_tN, is_list_gD, if_true, eq_self, Bool.false_eq_true, if_false, ge1, ge2, one_ne, two_ne, true_implies, unD_append, ex_pair, ex_trip])
    have hlt : ∀ q ∈ ps, q.1 < q.2 := fun q hq => by
      obtain ⟨_, _, _, _, h⟩ := (hm q).mp hq
      exact h
    refine c_web_by o.pos hn (by omega) (fun q hq => ?_) ?_
    · obtain ⟨S, hS, h1, h2, h3⟩ := (hm q).mp hq
      obtain ⟨p, hp, rfl⟩ := (hgs S).mp hS
      have := (mem_grp.mp h1).1
      have := (mem_grp.mp h2).1
      omega
    · (try simp only [dSeq, dNext, dDrop, dAsg, dAsgG, dRet, dIfS, dPar, dVar, dC, dU, dOp, dTst, dAnd, dOr, dNot, dAndV, dNotV, dChain, dIf, dNil, dCons, dStar, dTup, dLst, dCall, dItL, dItT, dRng1, dRng2, dEnum, gdName, gdTup2, gdTup3, dYes, wipeR, dAppend, dExtend, dPopA, dAugL, dCut, dIsi, dLc_eq, dLc2_eq, dFor, dWhile, fAdd, fSub, fLt, fLe, fGt, fGe, fI2_eq, fNeg_eq, fTuple_nis, fTuple_l, fList_l, fList_tN, fCat_eq, unD_nil, unD_d, startR, List.map_cons, List.map_nil, List.length_cons, List.length_nil, List.replicate, List.cons_append, List.nil_append, Nat.zero_add, Nat.reduceAdd, Nat.reduceSub, List.append_nil, List.getElem?_cons_zero, List.getElem?_cons_succ, List.set_cons_zero, List.set_cons_succ, Option.some.injEq, Prod.mk.injEq, Option.map_some, Option.map_none, W.d.injEq, W.l.injEq, PyData.tuple.injEq, PyData.int.injEq, PyData.bool.injEq, PyData.str.injEq, reduceCtorEq, retOk_d, retOk_1, retOk_2, asgOk_d, asgOk_2, and_assoc, exists_and_left, exists_eq_left', exists_eq_left, true_and, and_true, ex_gD, ex_tN, fLen_gD, fLen_tN, fLen_l, len100, Int.toNat_natCast, Nat.reduceLeDiff, isT_ii, isT_ib, isT_tt, isT_ss, is_integer_eq, is_in_eq, is_list_eq, is_list_tN, is_list_gD, if_true, eq_self, Bool.false_eq_true, if_false, ge1, ge2, one_ne, two_ne, true_implies, unD_append, ex_pair, ex_trip])
      rw [edges_eq o.rest hlt fun i j lt => ?_]
      · exact r
      · rw [hm, rest_at]
        constructor
        · rintro ⟨S, hS, h1, h2, _⟩
          obtain ⟨p, hp, rfl⟩ := (hgs S).mp hS
          have h1 := mem_grp.mp h1
          have h2 := mem_grp.mp h2
          exact ⟨h1.1, by omega, (h1.2.symm o).join (show All p from trivial) h2.2⟩
        · rintro ⟨hi, _, h⟩
          exact ⟨grp n g i, (hgs _).mpr ⟨i, hi, rfl⟩, mem_grp.mpr ⟨hi, .here⟩, mem_grp.mpr ⟨h.lt o hi, h⟩, lt⟩
end Wk

/-! part SemE -/
set_option Elab.async false
set_option linter.all false
set_option maxRecDepth 100000
set_option maxHeartbeats 4000000
namespace Wk
open PySem PySem.Spec PyProof.Rows L2 Dw Gg
theorem sorted_extI : ∀ {a b : List Int}, a.Pairwise (· < ·) → b.Pairwise (· < ·) → (∀ x, x ∈ a ↔ x ∈ b) → a = b
  | [], [], _, _, _ => rfl
  | [], y :: b, _, _, h => absurd ((h y).mpr (List.mem_cons_self ..)) (fun z => nomatch z)
  | x :: a, [], _, _, h => absurd ((h x).mp (List.mem_cons_self ..)) (fun z => nomatch z)
  | x :: a, y :: b, ha, hb, h => by
    obtain ⟨a1, a2⟩ := List.pairwise_cons.mp ha
    obtain ⟨b1, b2⟩ := List.pairwise_cons.mp hb
    have e : x = y := by
      rcases List.mem_cons.mp ((h x).mp (List.mem_cons_self ..)) with q | q
      · exact q
      · rcases List.mem_cons.mp ((h y).mpr (List.mem_cons_self ..)) with r | r
        · exact r.symm
        · have := a1 y r
          have := b1 x q
          omega
    subst e
    rw [sorted_extI a2 b2 fun z => ?_]
    constructor
    · intro hz
      rcases List.mem_cons.mp ((h z).mp (List.mem_cons_of_mem _ hz)) with q | q
      · subst q
        exact absurd (a1 z hz) (Int.lt_irrefl _)
      · exact q
    · intro hz
      rcases List.mem_cons.mp ((h z).mpr (List.mem_cons_of_mem _ hz)) with q | q
      · subst q
        exact absurd (b1 z hz) (Int.lt_irrefl _)
      · exact q
theorem up_lt {S : List Nat} (h : S.Pairwise (· < ·)) : (up S).Pairwise (· < ·) := by
  show (S.map _).Pairwise _
  rw [List.pairwise_map]
  exact h.imp fun h => by omega
theorem sortSet_tN {S : List Nat} {k : W → Prop} (h : S.Pairwise (· < ·)) (hl : S.length ≤ 60) (r : k (.l (nis S))) : fSortSet (.d (tN S)) k := by
  refine ⟨up S, .inr (by rw [tN_up]), by simp only [List.length_map]; omega, ⟨up S, by simp only [List.length_map]; exact hl, fun k hk => hk⟩, fun ns' h1 h2 => ?_⟩
  rw [sorted_extI h1 (up_lt h) h2, ← nis_up]
  exact r
theorem fNe_nis {a b : List Nat} {k : W → Prop} : fNe (.l (nis a)) (.l (nis b)) k = k (.d (.bool (!decide (a = b)))) := by
  show (SeqAt.shaped (.list (nis a)) = true ∧ SeqAt.shaped (.list (nis b)) = true ∧ k (.d (.bool (!PyData.eqv (.list (nis a)) (.list (nis b)))))) = _
  rw [shaped_nis, shaped_nis, eqv_nis]
  simp
theorem fAll_of {α : Type} {l : List α} {f : α → Bool} {k : W → Prop} (r : k (.d (.bool (l.all f)))) : fAll (.l (l.map fun a => PyData.bool (f a))) k := ⟨l.map f, by simp [List.map_map, Function.comp_def], by simpa using r⟩
theorem fAny_of {α : Type} {l : List α} {f : α → Bool} {k : W → Prop} (r : k (.d (.bool (l.any f)))) : fAny (.l (l.map fun a => PyData.bool (f a))) k := ⟨l.map f, by simp [List.map_map, Function.comp_def], by simpa using r⟩
theorem frs_lt {n : Nat} {g : Adj} {i : Nat} (o : Ok n g) (hi : i < n) : (frs n g i).length + 1 ≤ n := by
  have := len_le (n := n) (l := i :: frs n g i) (List.nodup_cons.mpr ⟨fun h => (by
    have := (mem_frs.mp h).2
    rw [o.irr] at this
    cases this), lt_nodup ((range_lt n).filter _)⟩) fun p hp => by
    rcases List.mem_cons.mp hp with rfl | hp
    · exact hi
    · exact (mem_frs.mp hp).1
  rwa [List.length_cons] at this
theorem inR {x : Nat} {n : Nat} (h : x < n) : (decide ((0 : Int) ≤ (x : Int)) && decide ((x : Int) ≤ (n : Int) - 1)) = true := by
  rw [decide_eq_true (by omega : (0 : Int) ≤ (x : Int)), decide_eq_true (by omega : (x : Int) ≤ (n : Int) - 1)]
  rfl
theorem sem_need_web : ∀ ws R, sp_need_web ws R → t_need_web { nx := fun _ => R (.d .none), rt := R } (startR ["web", "people", "index", "friends", "other"] ws) := by
  rintro _ R ⟨n, g, rfl, o, r⟩
  have hn := o.le
  have h1 : (decide ((1 : Int) ≤ (n : Int)) && decide ((n : Int) ≤ 8)) = true := by
    have := o.pos
    rw [decide_eq_true (by omega : (1 : Int) ≤ (n : Int)), decide_eq_true (by omega : (n : Int) ≤ 8)]
    rfl
  (try simp only [dSeq, dNext, dDrop, dAsg, dAsgG, dRet, dIfS, dPar, dVar, dC, dU, dOp, dTst, dAnd, dOr, dNot, dAndV, dNotV, dChain, dIf, dNil, dCons, dStar, dTup, dLst, dCall, dItL, dItT, dRng1, dRng2, dEnum, gdName, gdTup2, gdTup3, dYes, wipeR, dAppend, dExtend, dPopA, dAugL, dCut, dIsi, dLc_eq, dLc2_eq, dFor, dWhile, fAdd, fSub, fLt, fLe, fGt, fGe, fI2_eq, fNeg_eq, fTuple_nis, fTuple_l, fList_l, fList_tN, fCat_eq, unD_nil, unD_d, startR, List.map_cons, List.map_nil, List.length_cons, List.length_nil, List.replicate, List.cons_append, List.nil_append, Nat.zero_add, Nat.reduceAdd, Nat.reduceSub, List.append_nil, List.getElem?_cons_zero, List.getElem?_cons_succ, List.set_cons_zero, List.set_cons_succ, Option.some.injEq, Prod.mk.injEq, Option.map_some, Option.map_none, W.d.injEq, W.l.injEq, PyData.tuple.injEq, PyData.int.injEq, PyData.bool.injEq, PyData.str.injEq, reduceCtorEq, retOk_d, retOk_1, retOk_2, asgOk_d, asgOk_2, and_assoc, exists_and_left, exists_eq_left', exists_eq_left, true_and, and_true, ex_gD, ex_tN, fLen_gD, fLen_tN, fLen_l, len100, Int.toNat_natCast, Nat.reduceLeDiff, isT_ii, isT_ib, isT_tt, isT_ss, is_integer_eq, is_in_eq, is_list_eq, is_list_tN, is_list_gD, if_true, eq_self, Bool.false_eq_true, if_false, ge1, ge2, one_ne, two_ne, true_implies, unD_append, ex_pair, ex_trip, t_need_web, dNever, h1, Bool.not_true])
  refine ⟨fun i ρ' => ∃ a b c, ρ' = [some (.d (gD n g), false), some (.d (nI n), true), a, b, c], ⟨_, _, _, rfl⟩, ?_, ?_⟩
  · rintro i x _ hx ⟨a, b, c, rfl⟩
    obtain ⟨y, hy, rfl⟩ := enu_at hx
    obtain ⟨hi, rfl⟩ := gDs_at hy
    have hf := frs_lt o hi
    have e1 : (decide ((0 : Int) ≤ ((frs n g i).length : Int)) && decide (((frs n g i).length : Int) ≤ (n : Int) - 1)) = true := inR (by omega)
    (try simp only [dSeq, dNext, dDrop, dAsg, dAsgG, dRet, dIfS, dPar, dVar, dC, dU, dOp, dTst, dAnd, dOr, dNot, dAndV, dNotV, dChain, dIf, dNil, dCons, dStar, dTup, dLst, dCall, dItL, dItT, dRng1, dRng2, dEnum, gdName, gdTup2, gdTup3, dYes, wipeR, dAppend, dExtend, dPopA, dAugL, dCut, dIsi, dLc_eq, dLc2_eq, dFor, dWhile, fAdd, fSub, fLt, fLe, fGt, fGe, fI2_eq, fNeg_eq, fTuple_nis, fTuple_l, fList_l, fList_tN, fCat_eq, unD_nil, unD_d, startR, List.map_cons, List.map_nil, List.length_cons, List.length_nil, List.replicate, List.cons_append, List.nil_append, Nat.zero_add, Nat.reduceAdd, Nat.reduceSub, List.append_nil, List.getElem?_cons_zero, List.getElem?_cons_succ, List.set_cons_zero, List.set_cons_succ, Option.some.injEq, Prod.mk.injEq, Option.map_some, Option.map_none, W.d.injEq, W.l.injEq, PyData.tuple.injEq, PyData.int.injEq, PyData.bool.injEq, PyData.str.injEq, reduceCtorEq, retOk_d, retOk_1, retOk_2, asgOk_d, asgOk_2, and_assoc, exists_and_left, exists_eq_left', exists_eq_left, true_and, and_true, ex_gD, ex_tN, fLen_gD, fLen_tN, fLen_l, len100, Int.toNat_natCast, Nat.reduceLeDiff, isT_ii, isT_ib, isT_tt, isT_ss, is_integer_eq, is_in_eq, is_list_eq, is_list_tN, is_list_gD, if_true, eq_self, Bool.false_eq_true, if_false, ge1, ge2, one_ne, two_ne, true_implies, unD_append, ex_pair, ex_trip, e1, Bool.not_true])
    refine ⟨by rw [nis_len]; omega, ?_⟩
    refine lcT (fun x : Nat => PyData.bool (decide ((0 : Int) ≤ (x : Int)) && decide ((x : Int) ≤ (n : Int) - 1))) (fun a _ b _ => nI_inj) (fun x hx => ?_) ?_
    · (try simp only [dSeq, dNext, dDrop, dAsg, dAsgG, dRet, dIfS, dPar, dVar, dC, dU, dOp, dTst, dAnd, dOr, dNot, dAndV, dNotV, dChain, dIf, dNil, dCons, dStar, dTup, dLst, dCall, dItL, dItT, dRng1, dRng2, dEnum, gdName, gdTup2, gdTup3, dYes, wipeR, dAppend, dExtend, dPopA, dAugL, dCut, dIsi, dLc_eq, dLc2_eq, dFor, dWhile, fAdd, fSub, fLt, fLe, fGt, fGe, fI2_eq, fNeg_eq, fTuple_nis, fTuple_l, fList_l, fList_tN, fCat_eq, unD_nil, unD_d, startR, List.map_cons, List.map_nil, List.length_cons, List.length_nil, List.replicate, List.cons_append, List.nil_append, Nat.zero_add, Nat.reduceAdd, Nat.reduceSub, List.append_nil, List.getElem?_cons_zero, List.getElem?_cons_succ, List.set_cons_zero, List.set_cons_succ, Option.some.injEq, Prod.mk.injEq, Option.map_some, Option.map_none, W.d.injEq, W.l.injEq, PyData.tuple.injEq, PyData.int.injEq, PyData.bool.injEq, PyData.str.injEq, reduceCtorEq, retOk_d, retOk_1, retOk_2, asgOk_d, asgOk_2, and_assoc, exists_and_left, exists_eq_left', exists_eq_left, true_and, and_true, ex_gD, ex_tN, fLen_gD, fLen_tN, fLen_l, len100, Int.toNat_natCast, Nat.reduceLeDiff, isT_ii, isT_ib, isT_tt, isT_ss, is_integer_eq, is_in_eq, is_list_eq, is_list_tN, is_list_gD, if_true, eq_self, Bool.false_eq_true, if_false, ge1, ge2, one_ne, two_ne, true_implies, unD_append, ex_pair, ex_trip])
    · refine fAll_of ?_
      have e2 : ((frs n g i).all fun x : Nat => decide ((0 : Int) ≤ (x : Int)) && decide ((x : Int) ≤ (n : Int) - 1)) = true := List.all_eq_true.mpr fun x hx => inR (mem_frs.mp hx).1
      rw [e2]
      (try simp only [dSeq, dNext, dDrop, dAsg, dAsgG, dRet, dIfS, dPar, dVar, dC, dU, dOp, dTst, dAnd, dOr, dNot, dAndV, dNotV, dChain, dIf, dNil, dCons, dStar, dTup, dLst, dCall, dItL, dItT, dRng1, dRng2, dEnum, gdName, gdTup2, gdTup3, dYes, wipeR, dAppend, dExtend, dPopA, dAugL, dCut, dIsi, dLc_eq, dLc2_eq, dFor, dWhile, fAdd, fSub, fLt, fLe, fGt, fGe, fI2_eq, fNeg_eq, fTuple_nis, fTuple_l, fList_l, fList_tN, fCat_eq, unD_nil, unD_d, startR, List.map_cons, List.map_nil, List.length_cons, List.length_nil, List.replicate, List.cons_append, List.nil_append, Nat.zero_add, Nat.reduceAdd, Nat.reduceSub, List.append_nil, List.getElem?_cons_zero, List.getElem?_cons_succ, List.set_cons_zero, List.set_cons_succ, Option.some.injEq, Prod.mk.injEq, Option.map_some, Option.map_none, W.d.injEq, W.l.injEq, PyData.tuple.injEq, PyData.int.injEq, PyData.bool.injEq, PyData.str.injEq, reduceCtorEq, retOk_d, retOk_1, retOk_2, asgOk_d, asgOk_2, and_assoc, exists_and_left, exists_eq_left', exists_eq_left, true_and, and_true, ex_gD, ex_tN, fLen_gD, fLen_tN, fLen_l, len100, Int.toNat_natCast, Nat.reduceLeDiff, isT_ii, isT_ib, isT_tt, isT_ss, is_integer_eq, is_in_eq, is_list_eq, is_list_tN, is_list_gD, if_true, eq_self, Bool.false_eq_true, if_false, ge1, ge2, one_ne, two_ne, true_implies, unD_append, ex_pair, ex_trip, Bool.not_true])
      refine sortSet_tN ((range_lt n).filter _) (by omega) ?_
      rw [fNe_nis]
      have e3 : decide (i ∈ frs n g i) = false := decide_eq_false fun h => by
        have := (mem_frs.mp h).2
        rw [o.irr] at this
        cases this
      (try simp only [dSeq, dNext, dDrop, dAsg, dAsgG, dRet, dIfS, dPar, dVar, dC, dU, dOp, dTst, dAnd, dOr, dNot, dAndV, dNotV, dChain, dIf, dNil, dCons, dStar, dTup, dLst, dCall, dItL, dItT, dRng1, dRng2, dEnum, gdName, gdTup2, gdTup3, dYes, wipeR, dAppend, dExtend, dPopA, dAugL, dCut, dIsi, dLc_eq, dLc2_eq, dFor, dWhile, fAdd, fSub, fLt, fLe, fGt, fGe, fI2_eq, fNeg_eq, fTuple_nis, fTuple_l, fList_l, fList_tN, fCat_eq, unD_nil, unD_d, startR, List.map_cons, List.map_nil, List.length_cons, List.length_nil, List.replicate, List.cons_append, List.nil_append, Nat.zero_add, Nat.reduceAdd, Nat.reduceSub, List.append_nil, List.getElem?_cons_zero, List.getElem?_cons_succ, List.set_cons_zero, List.set_cons_succ, Option.some.injEq, Prod.mk.injEq, Option.map_some, Option.map_none, W.d.injEq, W.l.injEq, PyData.tuple.injEq, PyData.int.injEq, PyData.bool.injEq, PyData.str.injEq, reduceCtorEq, retOk_d, retOk_1, retOk_2, asgOk_d, asgOk_2, and_assoc, exists_and_left, exists_eq_left', exists_eq_left, true_and, and_true, ex_gD, ex_tN, fLen_gD, fLen_tN, fLen_l, len100, Int.toNat_natCast, Nat.reduceLeDiff, isT_ii, isT_ib, isT_tt, isT_ss, is_integer_eq, is_in_eq, is_list_eq, is_list_tN, is_list_gD, if_true, eq_self, Bool.false_eq_true, if_false, ge1, ge2, one_ne, two_ne, true_implies, unD_append, ex_pair, ex_trip, decide_true, Bool.not_true, fIn_t, e3])
      exact ⟨_, _, _, rfl⟩
  · rintro _ ⟨a, b, c, rfl⟩
    (try simp only [dSeq, dNext, dDrop, dAsg, dAsgG, dRet, dIfS, dPar, dVar, dC, dU, dOp, dTst, dAnd, dOr, dNot, dAndV, dNotV, dChain, dIf, dNil, dCons, dStar, dTup, dLst, dCall, dItL, dItT, dRng1, dRng2, dEnum, gdName, gdTup2, gdTup3, dYes, wipeR, dAppend, dExtend, dPopA, dAugL, dCut, dIsi, dLc_eq, dLc2_eq, dFor, dWhile, fAdd, fSub, fLt, fLe, fGt, fGe, fI2_eq, fNeg_eq, fTuple_nis, fTuple_l, fList_l, fList_tN, fCat_eq, unD_nil, unD_d, startR, List.map_cons, List.map_nil, List.length_cons, List.length_nil, List.replicate, List.cons_append, List.nil_append, Nat.zero_add, Nat.reduceAdd, Nat.reduceSub, List.append_nil, List.getElem?_cons_zero, List.getElem?_cons_succ, List.set_cons_zero, List.set_cons_succ, Option.some.injEq, Prod.mk.injEq, Option.map_some, Option.map_none, W.d.injEq, W.l.injEq, PyData.tuple.injEq, PyData.int.injEq, PyData.bool.injEq, PyData.str.injEq, reduceCtorEq, retOk_d, retOk_1, retOk_2, asgOk_d, asgOk_2, and_assoc, exists_and_left, exists_eq_left', exists_eq_left, true_and, and_true, ex_gD, ex_tN, fLen_gD, fLen_tN, fLen_l, len100, Int.toNat_natCast, Nat.reduceLeDiff, isT_ii, isT_ib, isT_tt, isT_ss, is_integer_eq, is_in_eq, is_list_eq, is_list_tN, is_list_gD, if_true, eq_self, Bool.false_eq_true, if_false, ge1, ge2, one_ne, two_ne, true_implies, unD_append, ex_pair, ex_trip])
    refine ⟨fun i ρ' => ∃ a b c, ρ' = [some (.d (gD n g), false), some (.d (nI n), true), a, b, c], ⟨_, _, _, rfl⟩, ?_, ?_⟩
    · rintro i x _ hx ⟨a, b, c, rfl⟩
      obtain ⟨y, hy, rfl⟩ := enu_at hx
      obtain ⟨hi, rfl⟩ := gDs_at hy
      have hf := frs_lt o hi
      (try simp only [dSeq, dNext, dDrop, dAsg, dAsgG, dRet, dIfS, dPar, dVar, dC, dU, dOp, dTst, dAnd, dOr, dNot, dAndV, dNotV, dChain, dIf, dNil, dCons, dStar, dTup, dLst, dCall, dItL, dItT, dRng1, dRng2, dEnum, gdName, gdTup2, gdTup3, dYes, wipeR, dAppend, dExtend, dPopA, dAugL, dCut, dIsi, dLc_eq, dLc2_eq, dFor, dWhile, fAdd, fSub, fLt, fLe, fGt, fGe, fI2_eq, fNeg_eq, fTuple_nis, fTuple_l, fList_l, fList_tN, fCat_eq, unD_nil, unD_d, startR, List.map_cons, List.map_nil, List.length_cons, List.length_nil, List.replicate, List.cons_append, List.nil_append, Nat.zero_add, Nat.reduceAdd, Nat.reduceSub, List.append_nil, List.getElem?_cons_zero, List.getElem?_cons_succ, List.set_cons_zero, List.set_cons_succ, Option.some.injEq, Prod.mk.injEq, Option.map_some, Option.map_none, W.d.injEq, W.l.injEq, PyData.tuple.injEq, PyData.int.injEq, PyData.bool.injEq, PyData.str.injEq, reduceCtorEq, retOk_d, retOk_1, retOk_2, asgOk_d, asgOk_2, and_assoc, exists_and_left, exists_eq_left', exists_eq_left, true_and, and_true, ex_gD, ex_tN, fLen_gD, fLen_tN, fLen_l, len100, Int.toNat_natCast, Nat.reduceLeDiff, isT_ii, isT_ib, isT_tt, isT_ss, is_integer_eq, is_in_eq, is_list_eq, is_list_tN, is_list_gD, if_true, eq_self, Bool.false_eq_true, if_false, ge1, ge2, one_ne, two_ne, true_implies, unD_append, ex_pair, ex_trip])
      refine ⟨by rw [nis_len]; omega, ?_⟩
      refine lcT (fun x : Nat => PyData.bool (!decide (i ∈ frs n g x))) (fun a _ b _ => nI_inj) (fun x hx => ?_) ?_
      · (try simp only [dSeq, dNext, dDrop, dAsg, dAsgG, dRet, dIfS, dPar, dVar, dC, dU, dOp, dTst, dAnd, dOr, dNot, dAndV, dNotV, dChain, dIf, dNil, dCons, dStar, dTup, dLst, dCall, dItL, dItT, dRng1, dRng2, dEnum, gdName, gdTup2, gdTup3, dYes, wipeR, dAppend, dExtend, dPopA, dAugL, dCut, dIsi, dLc_eq, dLc2_eq, dFor, dWhile, fAdd, fSub, fLt, fLe, fGt, fGe, fI2_eq, fNeg_eq, fTuple_nis, fTuple_l, fList_l, fList_tN, fCat_eq, unD_nil, unD_d, startR, List.map_cons, List.map_nil, List.length_cons, List.length_nil, List.replicate, List.cons_append, List.nil_append, Nat.zero_add, Nat.reduceAdd, Nat.reduceSub, List.append_nil, List.getElem?_cons_zero, List.getElem?_cons_succ, List.set_cons_zero, List.set_cons_succ, Option.some.injEq, Prod.mk.injEq, Option.map_some, Option.map_none, W.d.injEq, W.l.injEq, PyData.tuple.injEq, PyData.int.injEq, PyData.bool.injEq, PyData.str.injEq, reduceCtorEq, retOk_d, retOk_1, retOk_2, asgOk_d, asgOk_2, and_assoc, exists_and_left, exists_eq_left', exists_eq_left, true_and, and_true, ex_gD, ex_tN, fLen_gD, fLen_tN, fLen_l, len100, Int.toNat_natCast, Nat.reduceLeDiff, isT_ii, isT_ib, isT_tt, isT_ss, is_integer_eq, is_in_eq, is_list_eq, is_list_tN, is_list_gD, if_true, eq_self, Bool.false_eq_true, if_false, ge1, ge2, one_ne, two_ne, true_implies, unD_append, ex_pair, ex_trip])
        refine ix_gD (mem_frs.mp hx).1 ?_
        (try simp only [dSeq, dNext, dDrop, dAsg, dAsgG, dRet, dIfS, dPar, dVar, dC, dU, dOp, dTst, dAnd, dOr, dNot, dAndV, dNotV, dChain, dIf, dNil, dCons, dStar, dTup, dLst, dCall, dItL, dItT, dRng1, dRng2, dEnum, gdName, gdTup2, gdTup3, dYes, wipeR, dAppend, dExtend, dPopA, dAugL, dCut, dIsi, dLc_eq, dLc2_eq, dFor, dWhile, fAdd, fSub, fLt, fLe, fGt, fGe, fI2_eq, fNeg_eq, fTuple_nis, fTuple_l, fList_l, fList_tN, fCat_eq, unD_nil, unD_d, startR, List.map_cons, List.map_nil, List.length_cons, List.length_nil, List.replicate, List.cons_append, List.nil_append, Nat.zero_add, Nat.reduceAdd, Nat.reduceSub, List.append_nil, List.getElem?_cons_zero, List.getElem?_cons_succ, List.set_cons_zero, List.set_cons_succ, Option.some.injEq, Prod.mk.injEq, Option.map_some, Option.map_none, W.d.injEq, W.l.injEq, PyData.tuple.injEq, PyData.int.injEq, PyData.bool.injEq, PyData.str.injEq, reduceCtorEq, retOk_d, retOk_1, retOk_2, asgOk_d, asgOk_2, and_assoc, exists_and_left, exists_eq_left', exists_eq_left, true_and, and_true, ex_gD, ex_tN, fLen_gD, fLen_tN, fLen_l, len100, Int.toNat_natCast, Nat.reduceLeDiff, isT_ii, isT_ib, isT_tt, isT_ss, is_integer_eq, is_in_eq, is_list_eq, is_list_tN, is_list_gD, if_true, eq_self, Bool.false_eq_true, if_false, ge1, ge2, one_ne, two_ne, true_implies, unD_append, ex_pair, ex_trip, fIn_t])
      · refine fAny_of ?_
        have e2 : ((frs n g i).any fun x : Nat => !decide (i ∈ frs n g x)) = false := by
          rw [List.any_eq_false]
          intro x hx
          have h := mem_frs.mp hx
          have : i ∈ frs n g x := mem_frs.mpr ⟨hi, by rw [o.sym]; exact h.2⟩
          simp [this]
        rw [e2]
        (try simp only [dSeq, dNext, dDrop, dAsg, dAsgG, dRet, dIfS, dPar, dVar, dC, dU, dOp, dTst, dAnd, dOr, dNot, dAndV, dNotV, dChain, dIf, dNil, dCons, dStar, dTup, dLst, dCall, dItL, dItT, dRng1, dRng2, dEnum, gdName, gdTup2, gdTup3, dYes, wipeR, dAppend, dExtend, dPopA, dAugL, dCut, dIsi, dLc_eq, dLc2_eq, dFor, dWhile, fAdd, fSub, fLt, fLe, fGt, fGe, fI2_eq, fNeg_eq, fTuple_nis, fTuple_l, fList_l, fList_tN, fCat_eq, unD_nil, unD_d, startR, List.map_cons, List.map_nil, List.length_cons, List.length_nil, List.replicate, List.cons_append, List.nil_append, Nat.zero_add, Nat.reduceAdd, Nat.reduceSub, List.append_nil, List.getElem?_cons_zero, List.getElem?_cons_succ, List.set_cons_zero, List.set_cons_succ, Option.some.injEq, Prod.mk.injEq, Option.map_some, Option.map_none, W.d.injEq, W.l.injEq, PyData.tuple.injEq, PyData.int.injEq, PyData.bool.injEq, PyData.str.injEq, reduceCtorEq, retOk_d, retOk_1, retOk_2, asgOk_d, asgOk_2, and_assoc, exists_and_left, exists_eq_left', exists_eq_left, true_and, and_true, ex_gD, ex_tN, fLen_gD, fLen_tN, fLen_l, len100, Int.toNat_natCast, Nat.reduceLeDiff, isT_ii, isT_ib, isT_tt, isT_ss, is_integer_eq, is_in_eq, is_list_eq, is_list_tN, is_list_gD, if_true, eq_self, Bool.false_eq_true, if_false, ge1, ge2, one_ne, two_ne, true_implies, unD_append, ex_pair, ex_trip])
        exact ⟨_, _, _, rfl⟩
    · rintro _ ⟨a, b, c, rfl⟩
      exact r
theorem sem_need_people : ∀ ws R, sp_need_people ws R → t_need_people { nx := fun _ => R (.d .none), rt := R } (startR ["web", "people", "many", "person"] ws) := by
  rintro _ R ⟨n, g, S, rfl, o, h1, h2, r⟩
  have hn := o.le
  have hl := len_le (lt_nodup h1) h2
  have e1 : (decide ((0 : Int) ≤ (S.length : Int)) && decide ((S.length : Int) ≤ (n : Int))) = true := by
    rw [decide_eq_true (by omega : (0 : Int) ≤ (S.length : Int)), decide_eq_true (by omega : (S.length : Int) ≤ (n : Int))]
    rfl
  (try simp only [dSeq, dNext, dDrop, dAsg, dAsgG, dRet, dIfS, dPar, dVar, dC, dU, dOp, dTst, dAnd, dOr, dNot, dAndV, dNotV, dChain, dIf, dNil, dCons, dStar, dTup, dLst, dCall, dItL, dItT, dRng1, dRng2, dEnum, gdName, gdTup2, gdTup3, dYes, wipeR, dAppend, dExtend, dPopA, dAugL, dCut, dIsi, dLc_eq, dLc2_eq, dFor, dWhile, fAdd, fSub, fLt, fLe, fGt, fGe, fI2_eq, fNeg_eq, fTuple_nis, fTuple_l, fList_l, fList_tN, fCat_eq, unD_nil, unD_d, startR, List.map_cons, List.map_nil, List.length_cons, List.length_nil, List.replicate, List.cons_append, List.nil_append, Nat.zero_add, Nat.reduceAdd, Nat.reduceSub, List.append_nil, List.getElem?_cons_zero, List.getElem?_cons_succ, List.set_cons_zero, List.set_cons_succ, Option.some.injEq, Prod.mk.injEq, Option.map_some, Option.map_none, W.d.injEq, W.l.injEq, PyData.tuple.injEq, PyData.int.injEq, PyData.bool.injEq, PyData.str.injEq, reduceCtorEq, retOk_d, retOk_1, retOk_2, asgOk_d, asgOk_2, and_assoc, exists_and_left, exists_eq_left', exists_eq_left, true_and, and_true, ex_gD, ex_tN, fLen_gD, fLen_tN, fLen_l, len100, Int.toNat_natCast, Nat.reduceLeDiff, isT_ii, isT_ib, isT_tt, isT_ss, is_integer_eq, is_in_eq, is_list_eq, is_list_tN, is_list_gD, if_true, eq_self, Bool.false_eq_true, if_false, ge1, ge2, one_ne, two_ne, true_implies, unD_append, ex_pair, ex_trip, t_need_people, dNever, e1, Bool.not_true])
  refine ⟨by rw [nis_len]; omega, ?_⟩
  refine lcT (fun x : Nat => PyData.bool (decide ((0 : Int) ≤ (x : Int)) && decide ((x : Int) ≤ (n : Int) - 1))) (fun a _ b _ => nI_inj) (fun x hx => ?_) ?_
  · (try simp only [dSeq, dNext, dDrop, dAsg, dAsgG, dRet, dIfS, dPar, dVar, dC, dU, dOp, dTst, dAnd, dOr, dNot, dAndV, dNotV, dChain, dIf, dNil, dCons, dStar, dTup, dLst, dCall, dItL, dItT, dRng1, dRng2, dEnum, gdName, gdTup2, gdTup3, dYes, wipeR, dAppend, dExtend, dPopA, dAugL, dCut, dIsi, dLc_eq, dLc2_eq, dFor, dWhile, fAdd, fSub, fLt, fLe, fGt, fGe, fI2_eq, fNeg_eq, fTuple_nis, fTuple_l, fList_l, fList_tN, fCat_eq, unD_nil, unD_d, startR, List.map_cons, List.map_nil, List.length_cons, List.length_nil, List.replicate, List.cons_append, List.nil_append, Nat.zero_add, Nat.reduceAdd, Nat.reduceSub, List.append_nil, List.getElem?_cons_zero, List.getElem?_cons_succ, List.set_cons_zero, List.set_cons_succ, Option.some.injEq, Prod.mk.injEq, Option.map_some, Option.map_none, W.d.injEq, W.l.injEq, PyData.tuple.injEq, PyData.int.injEq, PyData.bool.injEq, PyData.str.injEq, reduceCtorEq, retOk_d, retOk_1, retOk_2, asgOk_d, asgOk_2, and_assoc, exists_and_left, exists_eq_left', exists_eq_left, true_and, and_true, ex_gD, ex_tN, fLen_gD, fLen_tN, fLen_l, len100, Int.toNat_natCast, Nat.reduceLeDiff, isT_ii, isT_ib, isT_tt, isT_ss, is_integer_eq, is_in_eq, is_list_eq, is_list_tN, is_list_gD, if_true, eq_self, Bool.false_eq_true, if_false, ge1, ge2, one_ne, two_ne, true_implies, unD_append, ex_pair, ex_trip])
  · refine fAll_of ?_
    have e2 : (S.all fun x : Nat => decide ((0 : Int) ≤ (x : Int)) && decide ((x : Int) ≤ (n : Int) - 1)) = true := List.all_eq_true.mpr fun x hx => inR (h2 x hx)
    rw [e2]
    (try simp only [dSeq, dNext, dDrop, dAsg, dAsgG, dRet, dIfS, dPar, dVar, dC, dU, dOp, dTst, dAnd, dOr, dNot, dAndV, dNotV, dChain, dIf, dNil, dCons, dStar, dTup, dLst, dCall, dItL, dItT, dRng1, dRng2, dEnum, gdName, gdTup2, gdTup3, dYes, wipeR, dAppend, dExtend, dPopA, dAugL, dCut, dIsi, dLc_eq, dLc2_eq, dFor, dWhile, fAdd, fSub, fLt, fLe, fGt, fGe, fI2_eq, fNeg_eq, fTuple_nis, fTuple_l, fList_l, fList_tN, fCat_eq, unD_nil, unD_d, startR, List.map_cons, List.map_nil, List.length_cons, List.length_nil, List.replicate, List.cons_append, List.nil_append, Nat.zero_add, Nat.reduceAdd, Nat.reduceSub, List.append_nil, List.getElem?_cons_zero, List.getElem?_cons_succ, List.set_cons_zero, List.set_cons_succ, Option.some.injEq, Prod.mk.injEq, Option.map_some, Option.map_none, W.d.injEq, W.l.injEq, PyData.tuple.injEq, PyData.int.injEq, PyData.bool.injEq, PyData.str.injEq, reduceCtorEq, retOk_d, retOk_1, retOk_2, asgOk_d, asgOk_2, and_assoc, exists_and_left, exists_eq_left', exists_eq_left, true_and, and_true, ex_gD, ex_tN, fLen_gD, fLen_tN, fLen_l, len100, Int.toNat_natCast, Nat.reduceLeDiff, isT_ii, isT_ib, isT_tt, isT_ss, is_integer_eq, is_in_eq, is_list_eq, is_list_tN, is_list_gD, if_true, eq_self, Bool.false_eq_true, if_false, ge1, ge2, one_ne, two_ne, true_implies, unD_append, ex_pair, ex_trip, Bool.not_true])
    refine sortSet_tN h1 (by omega) ?_
    rw [fNe_nis]
    (try simp only [dSeq, dNext, dDrop, dAsg, dAsgG, dRet, dIfS, dPar, dVar, dC, dU, dOp, dTst, dAnd, dOr, dNot, dAndV, dNotV, dChain, dIf, dNil, dCons, dStar, dTup, dLst, dCall, dItL, dItT, dRng1, dRng2, dEnum, gdName, gdTup2, gdTup3, dYes, wipeR, dAppend, dExtend, dPopA, dAugL, dCut, dIsi, dLc_eq, dLc2_eq, dFor, dWhile, fAdd, fSub, fLt, fLe, fGt, fGe, fI2_eq, fNeg_eq, fTuple_nis, fTuple_l, fList_l, fList_tN, fCat_eq, unD_nil, unD_d, startR, List.map_cons, List.map_nil, List.length_cons, List.length_nil, List.replicate, List.cons_append, List.nil_append, Nat.zero_add, Nat.reduceAdd, Nat.reduceSub, List.append_nil, List.getElem?_cons_zero, List.getElem?_cons_succ, List.set_cons_zero, List.set_cons_succ, Option.some.injEq, Prod.mk.injEq, Option.map_some, Option.map_none, W.d.injEq, W.l.injEq, PyData.tuple.injEq, PyData.int.injEq, PyData.bool.injEq, PyData.str.injEq, reduceCtorEq, retOk_d, retOk_1, retOk_2, asgOk_d, asgOk_2, and_assoc, exists_and_left, exists_eq_left', exists_eq_left, true_and, and_true, ex_gD, ex_tN, fLen_gD, fLen_tN, fLen_l, len100, Int.toNat_natCast, Nat.reduceLeDiff, isT_ii, isT_ib, isT_tt, isT_ss, is_integer_eq, is_in_eq, is_list_eq, is_list_tN, is_list_gD, if_true, eq_self, Bool.false_eq_true, if_false, ge1, ge2, one_ne, two_ne, true_implies, unD_append, ex_pair, ex_trip, decide_true, Bool.not_true])
    exact r
theorem sem_need_calls : ∀ ws R, sp_need_calls ws R → t_need_calls { nx := fun _ => R (.d .none), rt := R } (startR ["web", "calls", "index", "person"] ws) := by
  rintro _ R ⟨n, g, l, rfl, o, h1, h2, r⟩
  have hn := o.le
  have e1 : (decide ((0 : Int) ≤ (l.length : Int)) && decide ((l.length : Int) ≤ 60)) = true := by
    rw [decide_eq_true (by omega : (0 : Int) ≤ (l.length : Int)), decide_eq_true (by omega : (l.length : Int) ≤ 60)]
    rfl
  (try simp only [dSeq, dNext, dDrop, dAsg, dAsgG, dRet, dIfS, dPar, dVar, dC, dU, dOp, dTst, dAnd, dOr, dNot, dAndV, dNotV, dChain, dIf, dNil, dCons, dStar, dTup, dLst, dCall, dItL, dItT, dRng1, dRng2, dEnum, gdName, gdTup2, gdTup3, dYes, wipeR, dAppend, dExtend, dPopA, dAugL, dCut, dIsi, dLc_eq, dLc2_eq, dFor, dWhile, fAdd, fSub, fLt, fLe, fGt, fGe, fI2_eq, fNeg_eq, fTuple_nis, fTuple_l, fList_l, fList_tN, fCat_eq, unD_nil, unD_d, startR, List.map_cons, List.map_nil, List.length_cons, List.length_nil, List.replicate, List.cons_append, List.nil_append, Nat.zero_add, Nat.reduceAdd, Nat.reduceSub, List.append_nil, List.getElem?_cons_zero, List.getElem?_cons_succ, List.set_cons_zero, List.set_cons_succ, Option.some.injEq, Prod.mk.injEq, Option.map_some, Option.map_none, W.d.injEq, W.l.injEq, PyData.tuple.injEq, PyData.int.injEq, PyData.bool.injEq, PyData.str.injEq, reduceCtorEq, retOk_d, retOk_1, retOk_2, asgOk_d, asgOk_2, and_assoc, exists_and_left, exists_eq_left', exists_eq_left, true_and, and_true, ex_gD, ex_tN, fLen_gD, fLen_tN, fLen_l, len100, Int.toNat_natCast, Nat.reduceLeDiff, isT_ii, isT_ib, isT_tt, isT_ss, is_integer_eq, is_in_eq, is_list_eq, is_list_tN, is_list_gD, if_true, eq_self, Bool.false_eq_true, if_false, ge1, ge2, one_ne, two_ne, true_implies, unD_append, ex_pair, ex_trip, t_need_calls, dNever, e1, Bool.not_true])
  refine ⟨fun i ρ' => ∃ a b, ρ' = [some (.d (gD n g), false), some (.d (tN l), false), a, b], ⟨_, _, rfl⟩, ?_, ?_⟩
  · rintro i x _ hx ⟨a, b, rfl⟩
    obtain ⟨y, hy, rfl⟩ := enu_at hx
    obtain ⟨p, hp, rfl⟩ := nis_at hy
    (try simp only [dSeq, dNext, dDrop, dAsg, dAsgG, dRet, dIfS, dPar, dVar, dC, dU, dOp, dTst, dAnd, dOr, dNot, dAndV, dNotV, dChain, dIf, dNil, dCons, dStar, dTup, dLst, dCall, dItL, dItT, dRng1, dRng2, dEnum, gdName, gdTup2, gdTup3, dYes, wipeR, dAppend, dExtend, dPopA, dAugL, dCut, dIsi, dLc_eq, dLc2_eq, dFor, dWhile, fAdd, fSub, fLt, fLe, fGt, fGe, fI2_eq, fNeg_eq, fTuple_nis, fTuple_l, fList_l, fList_tN, fCat_eq, unD_nil, unD_d, startR, List.map_cons, List.map_nil, List.length_cons, List.length_nil, List.replicate, List.cons_append, List.nil_append, Nat.zero_add, Nat.reduceAdd, Nat.reduceSub, List.append_nil, List.getElem?_cons_zero, List.getElem?_cons_succ, List.set_cons_zero, List.set_cons_succ, Option.some.injEq, Prod.mk.injEq, Option.map_some, Option.map_none, W.d.injEq, W.l.injEq, PyData.tuple.injEq, PyData.int.injEq, PyData.bool.injEq, PyData.str.injEq, reduceCtorEq, retOk_d, retOk_1, retOk_2, asgOk_d, asgOk_2, and_assoc, exists_and_left, exists_eq_left', exists_eq_left, true_and, and_true, ex_gD, ex_tN, fLen_gD, fLen_tN, fLen_l, len100, Int.toNat_natCast, Nat.reduceLeDiff, isT_ii, isT_ib, isT_tt, isT_ss, is_integer_eq, is_in_eq, is_list_eq, is_list_tN, is_list_gD, if_true, eq_self, Bool.false_eq_true, if_false, ge1, ge2, one_ne, two_ne, true_implies, unD_append, ex_pair, ex_trip, inR (h2 p (List.mem_of_getElem? hp)), Bool.not_true])
    exact ⟨_, _, rfl⟩
  · rintro _ ⟨a, b, rfl⟩
    exact r
theorem in_strs (x : Str) (l : List Str) : (l.map PyData.str).all flatD = true ∧ (l.map PyData.str).any (fun y => eqF y (.str x)) = decide (x ∈ l) := by
  induction l with
  | nil => exact ⟨rfl, by simp⟩
  | cons a l ih =>
    refine ⟨?_, ?_⟩
    · show (true && (l.map PyData.str).all flatD) = true
      rw [ih.1]
      rfl
    · show (decide (a = x) || (l.map PyData.str).any fun y => eqF y (.str x)) = _
      rw [ih.2]
      by_cases h : x = a
      · subst h
        simp
      · simp [h, show ¬ (a = x) from fun e => h e.symm]
theorem sem_need_rule : ∀ ws R, sp_need_rule ws R → t_need_rule { nx := fun _ => R (.d .none), rt := R } (startR ["rule"] ws) := by
  rintro _ R ⟨s, rfl, h, r⟩
  (try simp only [dSeq, dNext, dDrop, dAsg, dAsgG, dRet, dIfS, dPar, dVar, dC, dU, dOp, dTst, dAnd, dOr, dNot, dAndV, dNotV, dChain, dIf, dNil, dCons, dStar, dTup, dLst, dCall, dItL, dItT, dRng1, dRng2, dEnum, gdName, gdTup2, gdTup3, dYes, wipeR, dAppend, dExtend, dPopA, dAugL, dCut, dIsi, dLc_eq, dLc2_eq, dFor, dWhile, fAdd, fSub, fLt, fLe, fGt, fGe, fI2_eq, fNeg_eq, fTuple_nis, fTuple_l, fList_l, fList_tN, fCat_eq, unD_nil, unD_d, startR, List.map_cons, List.map_nil, List.length_cons, List.length_nil, List.replicate, List.cons_append, List.nil_append, Nat.zero_add, Nat.reduceAdd, Nat.reduceSub, List.append_nil, List.getElem?_cons_zero, List.getElem?_cons_succ, List.set_cons_zero, List.set_cons_succ, Option.some.injEq, Prod.mk.injEq, Option.map_some, Option.map_none, W.d.injEq, W.l.injEq, PyData.tuple.injEq, PyData.int.injEq, PyData.bool.injEq, PyData.str.injEq, reduceCtorEq, retOk_d, retOk_1, retOk_2, asgOk_d, asgOk_2, and_assoc, exists_and_left, exists_eq_left', exists_eq_left, true_and, and_true, ex_gD, ex_tN, fLen_gD, fLen_tN, fLen_l, len100, Int.toNat_natCast, Nat.reduceLeDiff, isT_ii, isT_ib, isT_tt, isT_ss, is_integer_eq, is_in_eq, is_list_eq, is_list_tN, is_list_gD, if_true, eq_self, Bool.false_eq_true, if_false, ge1, ge2, one_ne, two_ne, true_implies, unD_append, ex_pair, ex_trip, t_need_rule, Bool.not_true])
  have hh := in_strs s rulesL
  refine ⟨rfl, hh.1, ?_⟩
  show ∃ b, W.d (.bool (!((rulesL.map PyData.str).any fun y => eqF y (.str s)))) = .d (.bool b) ∧ _
  rw [hh.2, decide_eq_true h]
  exact ⟨_, rfl, r⟩
end Wk

/-! part SemF -/
set_option Elab.async false
set_option linter.all false
set_option maxRecDepth 100000
set_option maxHeartbeats 4000000
namespace Wk
open PySem PySem.Spec PyProof.Rows L2 Dw Gg
theorem fIxT_0 {a : PyData} {xs : List PyData} {k : W → Prop} (r : k (.d a)) : fIxT (.d (.tuple (a :: xs))) (.d (.int 0)) k := ⟨a, atI_nat (i := 0) rfl, r⟩
theorem fIxT_1 {a b : PyData} {xs : List PyData} {k : W → Prop} (r : k (.d b)) : fIxT (.d (.tuple (a :: b :: xs))) (.d (.int 1)) k := ⟨b, atI_nat (i := 1) rfl, r⟩
theorem fEq_int {a b : Int} {k : W → Prop} : fEq (.d (.int a)) (.d (.int b)) k = k (.d (.bool (decide (a = b)))) := by
  show (SeqAt.shaped (.int a) = true ∧ SeqAt.shaped (.int b) = true ∧ k (.d (.bool (PyData.eqv (.int a) (.int b))))) = _
  rw [shaped_int, shaped_int, eqv_int]
  simp
/-! gains -/
theorem sem_gains : ∀ ws R, sp_gains ws R → t_gains { nx := fun _ => R (.d .none), rt := R } (startR ["web", "calls", "some", "found", "at", "here"] ws) := by
  rintro _ R ⟨n, g, l, rfl, o, h1, h2, r⟩
  have hn := o.le
  (try simp only [dSeq, dNext, dDrop, dAsg, dAsgG, dRet, dIfS, dPar, dVar, dC, dU, dOp, dTst, dAnd, dOr, dNot, dAndV, dNotV, dChain, dIf, dNil, dCons, dStar, dTup, dLst, dCall, dItL, dItT, dRng1, dRng2, dEnum, gdName, gdTup2, gdTup3, dYes, wipeR, dAppend, dExtend, dPopA, dAugL, dCut, dIsi, dLc_eq, dLc2_eq, dFor, dWhile, fAdd, fSub, fLt, fLe, fGt, fGe, fI2_eq, fNeg_eq, fTuple_nis, fTuple_l, fList_l, fList_tN, fCat_eq, unD_nil, unD_d, startR, List.map_cons, List.map_nil, List.length_cons, List.length_nil, List.replicate, List.cons_append, List.nil_append, Nat.zero_add, Nat.reduceAdd, Nat.reduceSub, List.append_nil, List.getElem?_cons_zero, List.getElem?_cons_succ, List.set_cons_zero, List.set_cons_succ, Option.some.injEq, Prod.mk.injEq, Option.map_some, Option.map_none, W.d.injEq, W.l.injEq, PyData.tuple.injEq, PyData.int.injEq, PyData.bool.injEq, PyData.str.injEq, reduceCtorEq, retOk_d, retOk_1, retOk_2, asgOk_d, asgOk_2, and_assoc, exists_and_left, exists_eq_left', exists_eq_left, true_and, and_true, ex_gD, ex_tN, fLen_gD, fLen_tN, fLen_l, len100, Int.toNat_natCast, Nat.reduceLeDiff, isT_ii, isT_ib, isT_tt, isT_ss, is_integer_eq, is_in_eq, is_list_eq, is_list_tN, is_list_gD, if_true, eq_self, Bool.false_eq_true, if_false, ge1, ge2, one_ne, two_ne, true_implies, unD_append, ex_pair, ex_trip, t_gains])
  refine c_need_web o ?_
  refine c_need_calls o h1 h2 ?_
  refine c_story_in o h1 h2 ?_
  (try simp only [dSeq, dNext, dDrop, dAsg, dAsgG, dRet, dIfS, dPar, dVar, dC, dU, dOp, dTst, dAnd, dOr, dNot, dAndV, dNotV, dChain, dIf, dNil, dCons, dStar, dTup, dLst, dCall, dItL, dItT, dRng1, dRng2, dEnum, gdName, gdTup2, gdTup3, dYes, wipeR, dAppend, dExtend, dPopA, dAugL, dCut, dIsi, dLc_eq, dLc2_eq, dFor, dWhile, fAdd, fSub, fLt, fLe, fGt, fGe, fI2_eq, fNeg_eq, fTuple_nis, fTuple_l, fList_l, fList_tN, fCat_eq, unD_nil, unD_d, startR, List.map_cons, List.map_nil, List.length_cons, List.length_nil, List.replicate, List.cons_append, List.nil_append, Nat.zero_add, Nat.reduceAdd, Nat.reduceSub, List.append_nil, List.getElem?_cons_zero, List.getElem?_cons_succ, List.set_cons_zero, List.set_cons_succ, Option.some.injEq, Prod.mk.injEq, Option.map_some, Option.map_none, W.d.injEq, W.l.injEq, PyData.tuple.injEq, PyData.int.injEq, PyData.bool.injEq, PyData.str.injEq, reduceCtorEq, retOk_d, retOk_1, retOk_2, asgOk_d, asgOk_2, and_assoc, exists_and_left, exists_eq_left', exists_eq_left, true_and, and_true, ex_gD, ex_tN, fLen_gD, fLen_tN, fLen_l, len100, Int.toNat_natCast, Nat.reduceLeDiff, isT_ii, isT_ib, isT_tt, isT_ss, is_integer_eq, is_in_eq, is_list_eq, is_list_tN, is_list_gD, if_true, eq_self, Bool.false_eq_true, if_false, ge1, ge2, one_ne, two_ne, true_implies, unD_append, ex_pair, ex_trip])
  refine ⟨by simp only [List.length_map, List.length_range]; omega, ?_⟩
  have e : ((List.range (l.length + 1)).map fun i => gD n (aft g (l.take i))) = ((List.range (l.length + 1)).map fun i => aft g (l.take i)).map (gD n) := by rw [List.map_map]; rfl
  rw [e]
  have hok : ∀ a ∈ (List.range (l.length + 1)).map (fun i => aft g (l.take i)), Ok n a := fun a ha => by
    obtain ⟨i, _, rfl⟩ := List.mem_map.mp ha
    exact o.aft
  refine lcT (fun a => nI (cnt n a)) (fun a ha b hb => gD_inj (hok a ha) (hok b hb)) (fun a ha => ?_) ?_
  · (try simp only [dSeq, dNext, dDrop, dAsg, dAsgG, dRet, dIfS, dPar, dVar, dC, dU, dOp, dTst, dAnd, dOr, dNot, dAndV, dNotV, dChain, dIf, dNil, dCons, dStar, dTup, dLst, dCall, dItL, dItT, dRng1, dRng2, dEnum, gdName, gdTup2, gdTup3, dYes, wipeR, dAppend, dExtend, dPopA, dAugL, dCut, dIsi, dLc_eq, dLc2_eq, dFor, dWhile, fAdd, fSub, fLt, fLe, fGt, fGe, fI2_eq, fNeg_eq, fTuple_nis, fTuple_l, fList_l, fList_tN, fCat_eq, unD_nil, unD_d, startR, List.map_cons, List.map_nil, List.length_cons, List.length_nil, List.replicate, List.cons_append, List.nil_append, Nat.zero_add, Nat.reduceAdd, Nat.reduceSub, List.append_nil, List.getElem?_cons_zero, List.getElem?_cons_succ, List.set_cons_zero, List.set_cons_succ, Option.some.injEq, Prod.mk.injEq, Option.map_some, Option.map_none, W.d.injEq, W.l.injEq, PyData.tuple.injEq, PyData.int.injEq, PyData.bool.injEq, PyData.str.injEq, reduceCtorEq, retOk_d, retOk_1, retOk_2, asgOk_d, asgOk_2, and_assoc, exists_and_left, exists_eq_left', exists_eq_left, true_and, and_true, ex_gD, ex_tN, fLen_gD, fLen_tN, fLen_l, len100, Int.toNat_natCast, Nat.reduceLeDiff, isT_ii, isT_ib, isT_tt, isT_ss, is_integer_eq, is_in_eq, is_list_eq, is_list_tN, is_list_gD, if_true, eq_self, Bool.false_eq_true, if_false, ge1, ge2, one_ne, two_ne, true_implies, unD_append, ex_pair, ex_trip])
    refine c_pairs_in (hok a ha) ?_
    (try simp only [dSeq, dNext, dDrop, dAsg, dAsgG, dRet, dIfS, dPar, dVar, dC, dU, dOp, dTst, dAnd, dOr, dNot, dAndV, dNotV, dChain, dIf, dNil, dCons, dStar, dTup, dLst, dCall, dItL, dItT, dRng1, dRng2, dEnum, gdName, gdTup2, gdTup3, dYes, wipeR, dAppend, dExtend, dPopA, dAugL, dCut, dIsi, dLc_eq, dLc2_eq, dFor, dWhile, fAdd, fSub, fLt, fLe, fGt, fGe, fI2_eq, fNeg_eq, fTuple_nis, fTuple_l, fList_l, fList_tN, fCat_eq, unD_nil, unD_d, startR, List.map_cons, List.map_nil, List.length_cons, List.length_nil, List.replicate, List.cons_append, List.nil_append, Nat.zero_add, Nat.reduceAdd, Nat.reduceSub, List.append_nil, List.getElem?_cons_zero, List.getElem?_cons_succ, List.set_cons_zero, List.set_cons_succ, Option.some.injEq, Prod.mk.injEq, Option.map_some, Option.map_none, W.d.injEq, W.l.injEq, PyData.tuple.injEq, PyData.int.injEq, PyData.bool.injEq, PyData.str.injEq, reduceCtorEq, retOk_d, retOk_1, retOk_2, asgOk_d, asgOk_2, and_assoc, exists_and_left, exists_eq_left', exists_eq_left, true_and, and_true, ex_gD, ex_tN, fLen_gD, fLen_tN, fLen_l, len100, Int.toNat_natCast, Nat.reduceLeDiff, isT_ii, isT_ib, isT_tt, isT_ss, is_integer_eq, is_in_eq, is_list_eq, is_list_tN, is_list_gD, if_true, eq_self, Bool.false_eq_true, if_false, ge1, ge2, one_ne, two_ne, true_implies, unD_append, ex_pair, ex_trip, List.length_map])
    rfl
  · (try simp only [dSeq, dNext, dDrop, dAsg, dAsgG, dRet, dIfS, dPar, dVar, dC, dU, dOp, dTst, dAnd, dOr, dNot, dAndV, dNotV, dChain, dIf, dNil, dCons, dStar, dTup, dLst, dCall, dItL, dItT, dRng1, dRng2, dEnum, gdName, gdTup2, gdTup3, dYes, wipeR, dAppend, dExtend, dPopA, dAugL, dCut, dIsi, dLc_eq, dLc2_eq, dFor, dWhile, fAdd, fSub, fLt, fLe, fGt, fGe, fI2_eq, fNeg_eq, fTuple_nis, fTuple_l, fList_l, fList_tN, fCat_eq, unD_nil, unD_d, startR, List.map_cons, List.map_nil, List.length_cons, List.length_nil, List.replicate, List.cons_append, List.nil_append, Nat.zero_add, Nat.reduceAdd, Nat.reduceSub, List.append_nil, List.getElem?_cons_zero, List.getElem?_cons_succ, List.set_cons_zero, List.set_cons_succ, Option.some.injEq, Prod.mk.injEq, Option.map_some, Option.map_none, W.d.injEq, W.l.injEq, PyData.tuple.injEq, PyData.int.injEq, PyData.bool.injEq, PyData.str.injEq, reduceCtorEq, retOk_d, retOk_1, retOk_2, asgOk_d, asgOk_2, and_assoc, exists_and_left, exists_eq_left', exists_eq_left, true_and, and_true, ex_gD, ex_tN, fLen_gD, fLen_tN, fLen_l, len100, Int.toNat_natCast, Nat.reduceLeDiff, isT_ii, isT_ib, isT_tt, isT_ss, is_integer_eq, is_in_eq, is_list_eq, is_list_tN, is_list_gD, if_true, eq_self, Bool.false_eq_true, if_false, ge1, ge2, one_ne, two_ne, true_implies, unD_append, ex_pair, ex_trip])
    refine ⟨by omega, by omega, fun i ρ' => ∃ a, ρ' = [some (.d (gD n g), false), some (.d (tN l), false), some (.l (((List.range (l.length + 1)).map fun i => aft g (l.take i)).map fun a => nI (cnt n a)), true), some (.l ((List.range i).map fun i => .int ((cnt n (aft g (l.take (i + 1))) : Int) - (cnt n (aft g (l.take i)) : Int))), true), a, none], ⟨_, rfl⟩, ?_, ?_⟩
    · rintro i x _ hx ⟨a, rfl⟩
      obtain ⟨rfl, hi⟩ := rng_nat hx
      have at_ : ∀ k, k < l.length + 1 → (((List.range (l.length + 1)).map fun i => aft g (l.take i)).map fun a => nI (cnt n a))[k]? = some (nI (cnt n (aft g (l.take k)))) := fun k hk => by
        rw [List.getElem?_map, List.getElem?_map, List.getElem?_range hk]
        rfl
      (try simp only [dSeq, dNext, dDrop, dAsg, dAsgG, dRet, dIfS, dPar, dVar, dC, dU, dOp, dTst, dAnd, dOr, dNot, dAndV, dNotV, dChain, dIf, dNil, dCons, dStar, dTup, dLst, dCall, dItL, dItT, dRng1, dRng2, dEnum, gdName, gdTup2, gdTup3, dYes, wipeR, dAppend, dExtend, dPopA, dAugL, dCut, dIsi, dLc_eq, dLc2_eq, dFor, dWhile, fAdd, fSub, fLt, fLe, fGt, fGe, fI2_eq, fNeg_eq, fTuple_nis, fTuple_l, fList_l, fList_tN, fCat_eq, unD_nil, unD_d, startR, List.map_cons, List.map_nil, List.length_cons, List.length_nil, List.replicate, List.cons_append, List.nil_append, Nat.zero_add, Nat.reduceAdd, Nat.reduceSub, List.append_nil, List.getElem?_cons_zero, List.getElem?_cons_succ, List.set_cons_zero, List.set_cons_succ, Option.some.injEq, Prod.mk.injEq, Option.map_some, Option.map_none, W.d.injEq, W.l.injEq, PyData.tuple.injEq, PyData.int.injEq, PyData.bool.injEq, PyData.str.injEq, reduceCtorEq, retOk_d, retOk_1, retOk_2, asgOk_d, asgOk_2, and_assoc, exists_and_left, exists_eq_left', exists_eq_left, true_and, and_true, ex_gD, ex_tN, fLen_gD, fLen_tN, fLen_l, len100, Int.toNat_natCast, Nat.reduceLeDiff, isT_ii, isT_ib, isT_tt, isT_ss, is_integer_eq, is_in_eq, is_list_eq, is_list_tN, is_list_gD, if_true, eq_self, Bool.false_eq_true, if_false, ge1, ge2, one_ne, two_ne, true_implies, unD_append, ex_pair, ex_trip])
      refine fIxL_nat (i := i + 1) (at_ (i + 1) (by omega)) ?_
      (try simp only [dSeq, dNext, dDrop, dAsg, dAsgG, dRet, dIfS, dPar, dVar, dC, dU, dOp, dTst, dAnd, dOr, dNot, dAndV, dNotV, dChain, dIf, dNil, dCons, dStar, dTup, dLst, dCall, dItL, dItT, dRng1, dRng2, dEnum, gdName, gdTup2, gdTup3, dYes, wipeR, dAppend, dExtend, dPopA, dAugL, dCut, dIsi, dLc_eq, dLc2_eq, dFor, dWhile, fAdd, fSub, fLt, fLe, fGt, fGe, fI2_eq, fNeg_eq, fTuple_nis, fTuple_l, fList_l, fList_tN, fCat_eq, unD_nil, unD_d, startR, List.map_cons, List.map_nil, List.length_cons, List.length_nil, List.replicate, List.cons_append, List.nil_append, Nat.zero_add, Nat.reduceAdd, Nat.reduceSub, List.append_nil, List.getElem?_cons_zero, List.getElem?_cons_succ, List.set_cons_zero, List.set_cons_succ, Option.some.injEq, Prod.mk.injEq, Option.map_some, Option.map_none, W.d.injEq, W.l.injEq, PyData.tuple.injEq, PyData.int.injEq, PyData.bool.injEq, PyData.str.injEq, reduceCtorEq, retOk_d, retOk_1, retOk_2, asgOk_d, asgOk_2, and_assoc, exists_and_left, exists_eq_left', exists_eq_left, true_and, and_true, ex_gD, ex_tN, fLen_gD, fLen_tN, fLen_l, len100, Int.toNat_natCast, Nat.reduceLeDiff, isT_ii, isT_ib, isT_tt, isT_ss, is_integer_eq, is_in_eq, is_list_eq, is_list_tN, is_list_gD, if_true, eq_self, Bool.false_eq_true, if_false, ge1, ge2, one_ne, two_ne, true_implies, unD_append, ex_pair, ex_trip])
      refine fIxL_nat (i := i) (at_ i (by omega)) ?_
      (try simp only [dSeq, dNext, dDrop, dAsg, dAsgG, dRet, dIfS, dPar, dVar, dC, dU, dOp, dTst, dAnd, dOr, dNot, dAndV, dNotV, dChain, dIf, dNil, dCons, dStar, dTup, dLst, dCall, dItL, dItT, dRng1, dRng2, dEnum, gdName, gdTup2, gdTup3, dYes, wipeR, dAppend, dExtend, dPopA, dAugL, dCut, dIsi, dLc_eq, dLc2_eq, dFor, dWhile, fAdd, fSub, fLt, fLe, fGt, fGe, fI2_eq, fNeg_eq, fTuple_nis, fTuple_l, fList_l, fList_tN, fCat_eq, unD_nil, unD_d, startR, List.map_cons, List.map_nil, List.length_cons, List.length_nil, List.replicate, List.cons_append, List.nil_append, Nat.zero_add, Nat.reduceAdd, Nat.reduceSub, List.append_nil, List.getElem?_cons_zero, List.getElem?_cons_succ, List.set_cons_zero, List.set_cons_succ, Option.some.injEq, Prod.mk.injEq, Option.map_some, Option.map_none, W.d.injEq, W.l.injEq, PyData.tuple.injEq, PyData.int.injEq, PyData.bool.injEq, PyData.str.injEq, reduceCtorEq, retOk_d, retOk_1, retOk_2, asgOk_d, asgOk_2, and_assoc, exists_and_left, exists_eq_left', exists_eq_left, true_and, and_true, ex_gD, ex_tN, fLen_gD, fLen_tN, fLen_l, len100, Int.toNat_natCast, Nat.reduceLeDiff, isT_ii, isT_ib, isT_tt, isT_ss, is_integer_eq, is_in_eq, is_list_eq, is_list_tN, is_list_gD, if_true, eq_self, Bool.false_eq_true, if_false, ge1, ge2, one_ne, two_ne, true_implies, unD_append, ex_pair, ex_trip])
      refine ⟨by simp only [List.length_map, List.length_range]; omega, some (.d (nI i), true), ?_⟩
      rw [List.range_succ (n := i), List.map_append]
      rfl
    · rintro _ ⟨a, rfl⟩
      (try simp only [dSeq, dNext, dDrop, dAsg, dAsgG, dRet, dIfS, dPar, dVar, dC, dU, dOp, dTst, dAnd, dOr, dNot, dAndV, dNotV, dChain, dIf, dNil, dCons, dStar, dTup, dLst, dCall, dItL, dItT, dRng1, dRng2, dEnum, gdName, gdTup2, gdTup3, dYes, wipeR, dAppend, dExtend, dPopA, dAugL, dCut, dIsi, dLc_eq, dLc2_eq, dFor, dWhile, fAdd, fSub, fLt, fLe, fGt, fGe, fI2_eq, fNeg_eq, fTuple_nis, fTuple_l, fList_l, fList_tN, fCat_eq, unD_nil, unD_d, startR, List.map_cons, List.map_nil, List.length_cons, List.length_nil, List.replicate, List.cons_append, List.nil_append, Nat.zero_add, Nat.reduceAdd, Nat.reduceSub, List.append_nil, List.getElem?_cons_zero, List.getElem?_cons_succ, List.set_cons_zero, List.set_cons_succ, Option.some.injEq, Prod.mk.injEq, Option.map_some, Option.map_none, W.d.injEq, W.l.injEq, PyData.tuple.injEq, PyData.int.injEq, PyData.bool.injEq, PyData.str.injEq, reduceCtorEq, retOk_d, retOk_1, retOk_2, asgOk_d, asgOk_2, and_assoc, exists_and_left, exists_eq_left', exists_eq_left, true_and, and_true, ex_gD, ex_tN, fLen_gD, fLen_tN, fLen_l, len100, Int.toNat_natCast, Nat.reduceLeDiff, isT_ii, isT_ib, isT_tt, isT_ss, is_integer_eq, is_in_eq, is_list_eq, is_list_tN, is_list_gD, if_true, eq_self, Bool.false_eq_true, if_false, ge1, ge2, one_ne, two_ne, true_implies, unD_append, ex_pair, ex_trip])
      rw [rng_len]
      have e2 : (PyData.tuple ((List.range l.length).map fun i => .int ((cnt n (aft g (l.take (i + 1))) : Int) - (cnt n (aft g (l.take i)) : Int)))) = tI ((List.range l.length).map fun i => (cnt n (aft g (l.take (i + 1))) : Int) - (cnt n (aft g (l.take i)) : Int)) := by
        show _ = PyData.tuple (List.map _ (List.map _ _))
        rw [List.map_map]
        rfl
      rw [e2]
      exact r
/-! the best -/
theorem min_best {n : Nat} {g : Adj} {c : Int} {k : W → Prop} (o : Ok n g) (h : ∀ p, BestP n g p → k (.d (.tuple [.int (c - (cnt n (callG g p) : Int)), nI p]))) : fMin (.l ((List.range n).map fun p => .tuple [.int (c - (cnt n (callG g p) : Int)), nI p])) k := by
  have hn := o.pos
  refine min_ii (by
    intro e
    have := congrArg List.length e
    rw [List.length_range] at this
    simp at this
    omega) (fun a _ => ⟨_, _, rfl⟩) fun p hp hl => h p ⟨List.mem_range.mp hp, fun q hq => ?_⟩
  have := hl q (List.mem_range.mpr hq)
  simp only [fstI, sndI] at this
  omega
theorem sem_most_new : ∀ ws R, sp_most_new ws R → t_most_new { nx := fun _ => R (.d .none), rt := R } (startR ["web", "known", "many", "person"] ws) := by
  rintro _ R ⟨n, g, rfl, o, r⟩
  have hn := o.le
  (try simp only [dSeq, dNext, dDrop, dAsg, dAsgG, dRet, dIfS, dPar, dVar, dC, dU, dOp, dTst, dAnd, dOr, dNot, dAndV, dNotV, dChain, dIf, dNil, dCons, dStar, dTup, dLst, dCall, dItL, dItT, dRng1, dRng2, dEnum, gdName, gdTup2, gdTup3, dYes, wipeR, dAppend, dExtend, dPopA, dAugL, dCut, dIsi, dLc_eq, dLc2_eq, dFor, dWhile, fAdd, fSub, fLt, fLe, fGt, fGe, fI2_eq, fNeg_eq, fTuple_nis, fTuple_l, fList_l, fList_tN, fCat_eq, unD_nil, unD_d, startR, List.map_cons, List.map_nil, List.length_cons, List.length_nil, List.replicate, List.cons_append, List.nil_append, Nat.zero_add, Nat.reduceAdd, Nat.reduceSub, List.append_nil, List.getElem?_cons_zero, List.getElem?_cons_succ, List.set_cons_zero, List.set_cons_succ, Option.some.injEq, Prod.mk.injEq, Option.map_some, Option.map_none, W.d.injEq, W.l.injEq, PyData.tuple.injEq, PyData.int.injEq, PyData.bool.injEq, PyData.str.injEq, reduceCtorEq, retOk_d, retOk_1, retOk_2, asgOk_d, asgOk_2, and_assoc, exists_and_left, exists_eq_left', exists_eq_left, true_and, and_true, ex_gD, ex_tN, fLen_gD, fLen_tN, fLen_l, len100, Int.toNat_natCast, Nat.reduceLeDiff, isT_ii, isT_ib, isT_tt, isT_ss, is_integer_eq, is_in_eq, is_list_eq, is_list_tN, is_list_gD, if_true, eq_self, Bool.false_eq_true, if_false, ge1, ge2, one_ne, two_ne, true_implies, unD_append, ex_pair, ex_trip, t_most_new])
  refine c_need_web o ?_
  refine c_pairs_in o ?_
  (try simp only [dSeq, dNext, dDrop, dAsg, dAsgG, dRet, dIfS, dPar, dVar, dC, dU, dOp, dTst, dAnd, dOr, dNot, dAndV, dNotV, dChain, dIf, dNil, dCons, dStar, dTup, dLst, dCall, dItL, dItT, dRng1, dRng2, dEnum, gdName, gdTup2, gdTup3, dYes, wipeR, dAppend, dExtend, dPopA, dAugL, dCut, dIsi, dLc_eq, dLc2_eq, dFor, dWhile, fAdd, fSub, fLt, fLe, fGt, fGe, fI2_eq, fNeg_eq, fTuple_nis, fTuple_l, fList_l, fList_tN, fCat_eq, unD_nil, unD_d, startR, List.map_cons, List.map_nil, List.length_cons, List.length_nil, List.replicate, List.cons_append, List.nil_append, Nat.zero_add, Nat.reduceAdd, Nat.reduceSub, List.append_nil, List.getElem?_cons_zero, List.getElem?_cons_succ, List.set_cons_zero, List.set_cons_succ, Option.some.injEq, Prod.mk.injEq, Option.map_some, Option.map_none, W.d.injEq, W.l.injEq, PyData.tuple.injEq, PyData.int.injEq, PyData.bool.injEq, PyData.str.injEq, reduceCtorEq, retOk_d, retOk_1, retOk_2, asgOk_d, asgOk_2, and_assoc, exists_and_left, exists_eq_left', exists_eq_left, true_and, and_true, ex_gD, ex_tN, fLen_gD, fLen_tN, fLen_l, len100, Int.toNat_natCast, Nat.reduceLeDiff, isT_ii, isT_ib, isT_tt, isT_ss, is_integer_eq, is_in_eq, is_list_eq, is_list_tN, is_list_gD, if_true, eq_self, Bool.false_eq_true, if_false, ge1, ge2, one_ne, two_ne, true_implies, unD_append, ex_pair, ex_trip, List.length_map])
  refine ⟨by omega, by omega, by rw [rng_len]; omega, ?_⟩
  rw [rng_nI]
  refine lcT (fun p => .tuple [.int ((cnt n g : Int) - (cnt n (callG g p) : Int)), nI p]) (fun a _ b _ => nI_inj) (fun p hp => ?_) ?_
  · (try simp only [dSeq, dNext, dDrop, dAsg, dAsgG, dRet, dIfS, dPar, dVar, dC, dU, dOp, dTst, dAnd, dOr, dNot, dAndV, dNotV, dChain, dIf, dNil, dCons, dStar, dTup, dLst, dCall, dItL, dItT, dRng1, dRng2, dEnum, gdName, gdTup2, gdTup3, dYes, wipeR, dAppend, dExtend, dPopA, dAugL, dCut, dIsi, dLc_eq, dLc2_eq, dFor, dWhile, fAdd, fSub, fLt, fLe, fGt, fGe, fI2_eq, fNeg_eq, fTuple_nis, fTuple_l, fList_l, fList_tN, fCat_eq, unD_nil, unD_d, startR, List.map_cons, List.map_nil, List.length_cons, List.length_nil, List.replicate, List.cons_append, List.nil_append, Nat.zero_add, Nat.reduceAdd, Nat.reduceSub, List.append_nil, List.getElem?_cons_zero, List.getElem?_cons_succ, List.set_cons_zero, List.set_cons_succ, Option.some.injEq, Prod.mk.injEq, Option.map_some, Option.map_none, W.d.injEq, W.l.injEq, PyData.tuple.injEq, PyData.int.injEq, PyData.bool.injEq, PyData.str.injEq, reduceCtorEq, retOk_d, retOk_1, retOk_2, asgOk_d, asgOk_2, and_assoc, exists_and_left, exists_eq_left', exists_eq_left, true_and, and_true, ex_gD, ex_tN, fLen_gD, fLen_tN, fLen_l, len100, Int.toNat_natCast, Nat.reduceLeDiff, isT_ii, isT_ib, isT_tt, isT_ss, is_integer_eq, is_in_eq, is_list_eq, is_list_tN, is_list_gD, if_true, eq_self, Bool.false_eq_true, if_false, ge1, ge2, one_ne, two_ne, true_implies, unD_append, ex_pair, ex_trip])
    refine c_call_in o (List.mem_range.mp hp) ?_
    refine c_pairs_in (o.call p) ?_
    (try simp only [dSeq, dNext, dDrop, dAsg, dAsgG, dRet, dIfS, dPar, dVar, dC, dU, dOp, dTst, dAnd, dOr, dNot, dAndV, dNotV, dChain, dIf, dNil, dCons, dStar, dTup, dLst, dCall, dItL, dItT, dRng1, dRng2, dEnum, gdName, gdTup2, gdTup3, dYes, wipeR, dAppend, dExtend, dPopA, dAugL, dCut, dIsi, dLc_eq, dLc2_eq, dFor, dWhile, fAdd, fSub, fLt, fLe, fGt, fGe, fI2_eq, fNeg_eq, fTuple_nis, fTuple_l, fList_l, fList_tN, fCat_eq, unD_nil, unD_d, startR, List.map_cons, List.map_nil, List.length_cons, List.length_nil, List.replicate, List.cons_append, List.nil_append, Nat.zero_add, Nat.reduceAdd, Nat.reduceSub, List.append_nil, List.getElem?_cons_zero, List.getElem?_cons_succ, List.set_cons_zero, List.set_cons_succ, Option.some.injEq, Prod.mk.injEq, Option.map_some, Option.map_none, W.d.injEq, W.l.injEq, PyData.tuple.injEq, PyData.int.injEq, PyData.bool.injEq, PyData.str.injEq, reduceCtorEq, retOk_d, retOk_1, retOk_2, asgOk_d, asgOk_2, and_assoc, exists_and_left, exists_eq_left', exists_eq_left, true_and, and_true, ex_gD, ex_tN, fLen_gD, fLen_tN, fLen_l, len100, Int.toNat_natCast, Nat.reduceLeDiff, isT_ii, isT_ib, isT_tt, isT_ss, is_integer_eq, is_in_eq, is_list_eq, is_list_tN, is_list_gD, if_true, eq_self, Bool.false_eq_true, if_false, ge1, ge2, one_ne, two_ne, true_implies, unD_append, ex_pair, ex_trip, List.length_map])
    rfl
  · refine min_best o fun p hp => ?_
    (try simp only [dSeq, dNext, dDrop, dAsg, dAsgG, dRet, dIfS, dPar, dVar, dC, dU, dOp, dTst, dAnd, dOr, dNot, dAndV, dNotV, dChain, dIf, dNil, dCons, dStar, dTup, dLst, dCall, dItL, dItT, dRng1, dRng2, dEnum, gdName, gdTup2, gdTup3, dYes, wipeR, dAppend, dExtend, dPopA, dAugL, dCut, dIsi, dLc_eq, dLc2_eq, dFor, dWhile, fAdd, fSub, fLt, fLe, fGt, fGe, fI2_eq, fNeg_eq, fTuple_nis, fTuple_l, fList_l, fList_tN, fCat_eq, unD_nil, unD_d, startR, List.map_cons, List.map_nil, List.length_cons, List.length_nil, List.replicate, List.cons_append, List.nil_append, Nat.zero_add, Nat.reduceAdd, Nat.reduceSub, List.append_nil, List.getElem?_cons_zero, List.getElem?_cons_succ, List.set_cons_zero, List.set_cons_succ, Option.some.injEq, Prod.mk.injEq, Option.map_some, Option.map_none, W.d.injEq, W.l.injEq, PyData.tuple.injEq, PyData.int.injEq, PyData.bool.injEq, PyData.str.injEq, reduceCtorEq, retOk_d, retOk_1, retOk_2, asgOk_d, asgOk_2, and_assoc, exists_and_left, exists_eq_left', exists_eq_left, true_and, and_true, ex_gD, ex_tN, fLen_gD, fLen_tN, fLen_l, len100, Int.toNat_natCast, Nat.reduceLeDiff, isT_ii, isT_ib, isT_tt, isT_ss, is_integer_eq, is_in_eq, is_list_eq, is_list_tN, is_list_gD, if_true, eq_self, Bool.false_eq_true, if_false, ge1, ge2, one_ne, two_ne, true_implies, unD_append, ex_pair, ex_trip])
    have := r p hp
    rw [show (cnt n (callG g p) : Int) - (cnt n g : Int) = -((cnt n g : Int) - (cnt n (callG g p) : Int)) by omega] at this
    exact this
theorem sem_greedy_row : ∀ ws R, sp_greedy_row ws R → t_greedy_row { nx := fun _ => R (.d .none), rt := R } (startR ["web", "row", "known", "many", "person", "one"] ws) := by
  rintro _ R ⟨n, g, rfl, o, r⟩
  have hn := o.le
  (try simp only [dSeq, dNext, dDrop, dAsg, dAsgG, dRet, dIfS, dPar, dVar, dC, dU, dOp, dTst, dAnd, dOr, dNot, dAndV, dNotV, dChain, dIf, dNil, dCons, dStar, dTup, dLst, dCall, dItL, dItT, dRng1, dRng2, dEnum, gdName, gdTup2, gdTup3, dYes, wipeR, dAppend, dExtend, dPopA, dAugL, dCut, dIsi, dLc_eq, dLc2_eq, dFor, dWhile, fAdd, fSub, fLt, fLe, fGt, fGe, fI2_eq, fNeg_eq, fTuple_nis, fTuple_l, fList_l, fList_tN, fCat_eq, unD_nil, unD_d, startR, List.map_cons, List.map_nil, List.length_cons, List.length_nil, List.replicate, List.cons_append, List.nil_append, Nat.zero_add, Nat.reduceAdd, Nat.reduceSub, List.append_nil, List.getElem?_cons_zero, List.getElem?_cons_succ, List.set_cons_zero, List.set_cons_succ, Option.some.injEq, Prod.mk.injEq, Option.map_some, Option.map_none, W.d.injEq, W.l.injEq, PyData.tuple.injEq, PyData.int.injEq, PyData.bool.injEq, PyData.str.injEq, reduceCtorEq, retOk_d, retOk_1, retOk_2, asgOk_d, asgOk_2, and_assoc, exists_and_left, exists_eq_left', exists_eq_left, true_and, and_true, ex_gD, ex_tN, fLen_gD, fLen_tN, fLen_l, len100, Int.toNat_natCast, Nat.reduceLeDiff, isT_ii, isT_ib, isT_tt, isT_ss, is_integer_eq, is_in_eq, is_list_eq, is_list_tN, is_list_gD, if_true, eq_self, Bool.false_eq_true, if_false, ge1, ge2, one_ne, two_ne, true_implies, unD_append, ex_pair, ex_trip, t_greedy_row])
  refine c_need_web o ?_
  refine ⟨fun m ρ' => ∃ (g' : Adj) (row : List Nat) (f : Bool) (a b c : Option (W × Bool)), (m = 15 - cnt n g' ∧ Ok n g' ∧ row.length ≤ cnt n g' ∧ ∀ l, GR n g' l → GR n g (row ++ l)) ∧ ρ' = [some (.d (gD n g'), f), some (.l (nis row), true), a, b, c, none], ⟨_, g, [], _, _, _, _, ⟨rfl, o, Nat.zero_le _, fun l h => h⟩, rfl⟩, ?_⟩
  rintro m _ ⟨g', row, f, a, b, c, ⟨rfl, o', hl, hr⟩, rfl⟩
  (try simp only [dSeq, dNext, dDrop, dAsg, dAsgG, dRet, dIfS, dPar, dVar, dC, dU, dOp, dTst, dAnd, dOr, dNot, dAndV, dNotV, dChain, dIf, dNil, dCons, dStar, dTup, dLst, dCall, dItL, dItT, dRng1, dRng2, dEnum, gdName, gdTup2, gdTup3, dYes, wipeR, dAppend, dExtend, dPopA, dAugL, dCut, dIsi, dLc_eq, dLc2_eq, dFor, dWhile, fAdd, fSub, fLt, fLe, fGt, fGe, fI2_eq, fNeg_eq, fTuple_nis, fTuple_l, fList_l, fList_tN, fCat_eq, unD_nil, unD_d, startR, List.map_cons, List.map_nil, List.length_cons, List.length_nil, List.replicate, List.cons_append, List.nil_append, Nat.zero_add, Nat.reduceAdd, Nat.reduceSub, List.append_nil, List.getElem?_cons_zero, List.getElem?_cons_succ, List.set_cons_zero, List.set_cons_succ, Option.some.injEq, Prod.mk.injEq, Option.map_some, Option.map_none, W.d.injEq, W.l.injEq, PyData.tuple.injEq, PyData.int.injEq, PyData.bool.injEq, PyData.str.injEq, reduceCtorEq, retOk_d, retOk_1, retOk_2, asgOk_d, asgOk_2, and_assoc, exists_and_left, exists_eq_left', exists_eq_left, true_and, and_true, ex_gD, ex_tN, fLen_gD, fLen_tN, fLen_l, len100, Int.toNat_natCast, Nat.reduceLeDiff, isT_ii, isT_ib, isT_tt, isT_ss, is_integer_eq, is_in_eq, is_list_eq, is_list_tN, is_list_gD, if_true, eq_self, Bool.false_eq_true, if_false, ge1, ge2, one_ne, two_ne, true_implies, unD_append, ex_pair, ex_trip])
  refine c_pairs_in o' ?_
  (try simp only [dSeq, dNext, dDrop, dAsg, dAsgG, dRet, dIfS, dPar, dVar, dC, dU, dOp, dTst, dAnd, dOr, dNot, dAndV, dNotV, dChain, dIf, dNil, dCons, dStar, dTup, dLst, dCall, dItL, dItT, dRng1, dRng2, dEnum, gdName, gdTup2, gdTup3, dYes, wipeR, dAppend, dExtend, dPopA, dAugL, dCut, dIsi, dLc_eq, dLc2_eq, dFor, dWhile, fAdd, fSub, fLt, fLe, fGt, fGe, fI2_eq, fNeg_eq, fTuple_nis, fTuple_l, fList_l, fList_tN, fCat_eq, unD_nil, unD_d, startR, List.map_cons, List.map_nil, List.length_cons, List.length_nil, List.replicate, List.cons_append, List.nil_append, Nat.zero_add, Nat.reduceAdd, Nat.reduceSub, List.append_nil, List.getElem?_cons_zero, List.getElem?_cons_succ, List.set_cons_zero, List.set_cons_succ, Option.some.injEq, Prod.mk.injEq, Option.map_some, Option.map_none, W.d.injEq, W.l.injEq, PyData.tuple.injEq, PyData.int.injEq, PyData.bool.injEq, PyData.str.injEq, reduceCtorEq, retOk_d, retOk_1, retOk_2, asgOk_d, asgOk_2, and_assoc, exists_and_left, exists_eq_left', exists_eq_left, true_and, and_true, ex_gD, ex_tN, fLen_gD, fLen_tN, fLen_l, len100, Int.toNat_natCast, Nat.reduceLeDiff, isT_ii, isT_ib, isT_tt, isT_ss, is_integer_eq, is_in_eq, is_list_eq, is_list_tN, is_list_gD, if_true, eq_self, Bool.false_eq_true, if_false, ge1, ge2, one_ne, two_ne, true_implies, unD_append, ex_pair, ex_trip, List.length_map])
  refine ⟨by omega, by omega, by rw [rng_len]; omega, ?_⟩
  rw [rng_nI]
  refine lcT (fun p => .tuple [.int ((cnt n g' : Int) - (cnt n (callG g' p) : Int)), nI p]) (fun a _ b _ => nI_inj) (fun p hp => ?_) ?_
  · (try simp only [dSeq, dNext, dDrop, dAsg, dAsgG, dRet, dIfS, dPar, dVar, dC, dU, dOp, dTst, dAnd, dOr, dNot, dAndV, dNotV, dChain, dIf, dNil, dCons, dStar, dTup, dLst, dCall, dItL, dItT, dRng1, dRng2, dEnum, gdName, gdTup2, gdTup3, dYes, wipeR, dAppend, dExtend, dPopA, dAugL, dCut, dIsi, dLc_eq, dLc2_eq, dFor, dWhile, fAdd, fSub, fLt, fLe, fGt, fGe, fI2_eq, fNeg_eq, fTuple_nis, fTuple_l, fList_l, fList_tN, fCat_eq, unD_nil, unD_d, startR, List.map_cons, List.map_nil, List.length_cons, List.length_nil, List.replicate, List.cons_append, List.nil_append, Nat.zero_add, Nat.reduceAdd, Nat.reduceSub, List.append_nil, List.getElem?_cons_zero, List.getElem?_cons_succ, List.set_cons_zero, List.set_cons_succ, Option.some.injEq, Prod.mk.injEq, Option.map_some, Option.map_none, W.d.injEq, W.l.injEq, PyData.tuple.injEq, PyData.int.injEq, PyData.bool.injEq, PyData.str.injEq, reduceCtorEq, retOk_d, retOk_1, retOk_2, asgOk_d, asgOk_2, and_assoc, exists_and_left, exists_eq_left', exists_eq_left, true_and, and_true, ex_gD, ex_tN, fLen_gD, fLen_tN, fLen_l, len100, Int.toNat_natCast, Nat.reduceLeDiff, isT_ii, isT_ib, isT_tt, isT_ss, is_integer_eq, is_in_eq, is_list_eq, is_list_tN, is_list_gD, if_true, eq_self, Bool.false_eq_true, if_false, ge1, ge2, one_ne, two_ne, true_implies, unD_append, ex_pair, ex_trip])
    refine c_call_in o' (List.mem_range.mp hp) ?_
    refine c_pairs_in (o'.call p) ?_
    (try simp only [dSeq, dNext, dDrop, dAsg, dAsgG, dRet, dIfS, dPar, dVar, dC, dU, dOp, dTst, dAnd, dOr, dNot, dAndV, dNotV, dChain, dIf, dNil, dCons, dStar, dTup, dLst, dCall, dItL, dItT, dRng1, dRng2, dEnum, gdName, gdTup2, gdTup3, dYes, wipeR, dAppend, dExtend, dPopA, dAugL, dCut, dIsi, dLc_eq, dLc2_eq, dFor, dWhile, fAdd, fSub, fLt, fLe, fGt, fGe, fI2_eq, fNeg_eq, fTuple_nis, fTuple_l, fList_l, fList_tN, fCat_eq, unD_nil, unD_d, startR, List.map_cons, List.map_nil, List.length_cons, List.length_nil, List.replicate, List.cons_append, List.nil_append, Nat.zero_add, Nat.reduceAdd, Nat.reduceSub, List.append_nil, List.getElem?_cons_zero, List.getElem?_cons_succ, List.set_cons_zero, List.set_cons_succ, Option.some.injEq, Prod.mk.injEq, Option.map_some, Option.map_none, W.d.injEq, W.l.injEq, PyData.tuple.injEq, PyData.int.injEq, PyData.bool.injEq, PyData.str.injEq, reduceCtorEq, retOk_d, retOk_1, retOk_2, asgOk_d, asgOk_2, and_assoc, exists_and_left, exists_eq_left', exists_eq_left, true_and, and_true, ex_gD, ex_tN, fLen_gD, fLen_tN, fLen_l, len100, Int.toNat_natCast, Nat.reduceLeDiff, isT_ii, isT_ib, isT_tt, isT_ss, is_integer_eq, is_in_eq, is_list_eq, is_list_tN, is_list_gD, if_true, eq_self, Bool.false_eq_true, if_false, ge1, ge2, one_ne, two_ne, true_implies, unD_append, ex_pair, ex_trip, List.length_map])
    rfl
  · refine min_best o' fun p hp => ?_
    (try simp only [dSeq, dNext, dDrop, dAsg, dAsgG, dRet, dIfS, dPar, dVar, dC, dU, dOp, dTst, dAnd, dOr, dNot, dAndV, dNotV, dChain, dIf, dNil, dCons, dStar, dTup, dLst, dCall, dItL, dItT, dRng1, dRng2, dEnum, gdName, gdTup2, gdTup3, dYes, wipeR, dAppend, dExtend, dPopA, dAugL, dCut, dIsi, dLc_eq, dLc2_eq, dFor, dWhile, fAdd, fSub, fLt, fLe, fGt, fGe, fI2_eq, fNeg_eq, fTuple_nis, fTuple_l, fList_l, fList_tN, fCat_eq, unD_nil, unD_d, startR, List.map_cons, List.map_nil, List.length_cons, List.length_nil, List.replicate, List.cons_append, List.nil_append, Nat.zero_add, Nat.reduceAdd, Nat.reduceSub, List.append_nil, List.getElem?_cons_zero, List.getElem?_cons_succ, List.set_cons_zero, List.set_cons_succ, Option.some.injEq, Prod.mk.injEq, Option.map_some, Option.map_none, W.d.injEq, W.l.injEq, PyData.tuple.injEq, PyData.int.injEq, PyData.bool.injEq, PyData.str.injEq, reduceCtorEq, retOk_d, retOk_1, retOk_2, asgOk_d, asgOk_2, and_assoc, exists_and_left, exists_eq_left', exists_eq_left, true_and, and_true, ex_gD, ex_tN, fLen_gD, fLen_tN, fLen_l, len100, Int.toNat_natCast, Nat.reduceLeDiff, isT_ii, isT_ib, isT_tt, isT_ss, is_integer_eq, is_in_eq, is_list_eq, is_list_tN, is_list_gD, if_true, eq_self, Bool.false_eq_true, if_false, ge1, ge2, one_ne, two_ne, true_implies, unD_append, ex_pair, ex_trip, fEq_int])
    have up := cnt_mono (n := n) (call_le g' p)
    by_cases h : cnt n (callG g' p) = cnt n g'
    · have e : decide ((cnt n g' : Int) - (cnt n (callG g' p) : Int) = 0) = true := decide_eq_true (by omega)
      have e' : decide (((prs n g').length : Int) - (cnt n (callG g' p) : Int) = 0) = true := e
      (try simp only [dSeq, dNext, dDrop, dAsg, dAsgG, dRet, dIfS, dPar, dVar, dC, dU, dOp, dTst, dAnd, dOr, dNot, dAndV, dNotV, dChain, dIf, dNil, dCons, dStar, dTup, dLst, dCall, dItL, dItT, dRng1, dRng2, dEnum, gdName, gdTup2, gdTup3, dYes, wipeR, dAppend, dExtend, dPopA, dAugL, dCut, dIsi, dLc_eq, dLc2_eq, dFor, dWhile, fAdd, fSub, fLt, fLe, fGt, fGe, fI2_eq, fNeg_eq, fTuple_nis, fTuple_l, fList_l, fList_tN, fCat_eq, unD_nil, unD_d, startR, List.map_cons, List.map_nil, List.length_cons, List.length_nil, List.replicate, List.cons_append, List.nil_append, Nat.zero_add, Nat.reduceAdd, Nat.reduceSub, List.append_nil, List.getElem?_cons_zero, List.getElem?_cons_succ, List.set_cons_zero, List.set_cons_succ, Option.some.injEq, Prod.mk.injEq, Option.map_some, Option.map_none, W.d.injEq, W.l.injEq, PyData.tuple.injEq, PyData.int.injEq, PyData.bool.injEq, PyData.str.injEq, reduceCtorEq, retOk_d, retOk_1, retOk_2, asgOk_d, asgOk_2, and_assoc, exists_and_left, exists_eq_left', exists_eq_left, true_and, and_true, ex_gD, ex_tN, fLen_gD, fLen_tN, fLen_l, len100, Int.toNat_natCast, Nat.reduceLeDiff, isT_ii, isT_ib, isT_tt, isT_ss, is_integer_eq, is_in_eq, is_list_eq, is_list_tN, is_list_gD, if_true, eq_self, Bool.false_eq_true, if_false, ge1, ge2, one_ne, two_ne, true_implies, unD_append, ex_pair, ex_trip, e, e'])
      have := hr [] (.done fun q hq => by
        have := hp.2 q hq
        have := cnt_mono (n := n) (call_le g' q)
        omega)
      rw [List.append_nil] at this
      exact r row this
    · have e : decide ((cnt n g' : Int) - (cnt n (callG g' p) : Int) = 0) = false := decide_eq_false (by omega)
      have e' : decide (((prs n g').length : Int) - (cnt n (callG g' p) : Int) = 0) = false := e
      have le := cnt_le g' hn
      have le2 := cnt_le (callG g' p) hn
      (try simp only [dSeq, dNext, dDrop, dAsg, dAsgG, dRet, dIfS, dPar, dVar, dC, dU, dOp, dTst, dAnd, dOr, dNot, dAndV, dNotV, dChain, dIf, dNil, dCons, dStar, dTup, dLst, dCall, dItL, dItT, dRng1, dRng2, dEnum, gdName, gdTup2, gdTup3, dYes, wipeR, dAppend, dExtend, dPopA, dAugL, dCut, dIsi, dLc_eq, dLc2_eq, dFor, dWhile, fAdd, fSub, fLt, fLe, fGt, fGe, fI2_eq, fNeg_eq, fTuple_nis, fTuple_l, fList_l, fList_tN, fCat_eq, unD_nil, unD_d, startR, List.map_cons, List.map_nil, List.length_cons, List.length_nil, List.replicate, List.cons_append, List.nil_append, Nat.zero_add, Nat.reduceAdd, Nat.reduceSub, List.append_nil, List.getElem?_cons_zero, List.getElem?_cons_succ, List.set_cons_zero, List.set_cons_succ, Option.some.injEq, Prod.mk.injEq, Option.map_some, Option.map_none, W.d.injEq, W.l.injEq, PyData.tuple.injEq, PyData.int.injEq, PyData.bool.injEq, PyData.str.injEq, reduceCtorEq, retOk_d, retOk_1, retOk_2, asgOk_d, asgOk_2, and_assoc, exists_and_left, exists_eq_left', exists_eq_left, true_and, and_true, ex_gD, ex_tN, fLen_gD, fLen_tN, fLen_l, len100, Int.toNat_natCast, Nat.reduceLeDiff, isT_ii, isT_ib, isT_tt, isT_ss, is_integer_eq, is_in_eq, is_list_eq, is_list_tN, is_list_gD, if_true, eq_self, Bool.false_eq_true, if_false, ge1, ge2, one_ne, two_ne, true_implies, unD_append, ex_pair, ex_trip, e, e'])
      refine ⟨by omega, ?_⟩
      refine c_call_in o' hp.1 ?_
      (try simp only [dSeq, dNext, dDrop, dAsg, dAsgG, dRet, dIfS, dPar, dVar, dC, dU, dOp, dTst, dAnd, dOr, dNot, dAndV, dNotV, dChain, dIf, dNil, dCons, dStar, dTup, dLst, dCall, dItL, dItT, dRng1, dRng2, dEnum, gdName, gdTup2, gdTup3, dYes, wipeR, dAppend, dExtend, dPopA, dAugL, dCut, dIsi, dLc_eq, dLc2_eq, dFor, dWhile, fAdd, fSub, fLt, fLe, fGt, fGe, fI2_eq, fNeg_eq, fTuple_nis, fTuple_l, fList_l, fList_tN, fCat_eq, unD_nil, unD_d, startR, List.map_cons, List.map_nil, List.length_cons, List.length_nil, List.replicate, List.cons_append, List.nil_append, Nat.zero_add, Nat.reduceAdd, Nat.reduceSub, List.append_nil, List.getElem?_cons_zero, List.getElem?_cons_succ, List.set_cons_zero, List.set_cons_succ, Option.some.injEq, Prod.mk.injEq, Option.map_some, Option.map_none, W.d.injEq, W.l.injEq, PyData.tuple.injEq, PyData.int.injEq, PyData.bool.injEq, PyData.str.injEq, reduceCtorEq, retOk_d, retOk_1, retOk_2, asgOk_d, asgOk_2, and_assoc, exists_and_left, exists_eq_left', exists_eq_left, true_and, and_true, ex_gD, ex_tN, fLen_gD, fLen_tN, fLen_l, len100, Int.toNat_natCast, Nat.reduceLeDiff, isT_ii, isT_ib, isT_tt, isT_ss, is_integer_eq, is_in_eq, is_list_eq, is_list_tN, is_list_gD, if_true, eq_self, Bool.false_eq_true, if_false, ge1, ge2, one_ne, two_ne, true_implies, unD_append, ex_pair, ex_trip])
      rw [nis_app]
      refine ⟨15 - cnt n (callG g' p), by omega, callG g' p, rfl, o'.call p, row ++ [p], by rw [List.length_append, List.length_singleton]; omega, fun l hl => ?_, _, _, _, _, rfl⟩
      rw [List.append_assoc]
      exact hr (p :: l) (.step hp (by omega) hl)
end Wk

/-! part SemG -/
set_option Elab.async false
set_option linter.all false
set_option maxRecDepth 100000
set_option maxHeartbeats 4000000
namespace Wk
open PySem PySem.Spec PyProof.Rows L2 Dw Gg
theorem sem_made_in : ∀ ws R, sp_made_in ws R → t_made_in { nx := fun _ => R (.d .none), rt := R } (startR ["web", "calls", "states", "found", "at", "person", "pair"] ws) := by
  rintro _ R ⟨n, g, l, rfl, o, h1, h2, r⟩
  have hn := o.le
  (try simp only [dSeq, dNext, dDrop, dAsg, dAsgG, dRet, dIfS, dPar, dVar, dC, dU, dOp, dTst, dAnd, dOr, dNot, dAndV, dNotV, dChain, dIf, dNil, dCons, dStar, dTup, dLst, dCall, dItL, dItT, dRng1, dRng2, dEnum, gdName, gdTup2, gdTup3, dYes, wipeR, dAppend, dExtend, dPopA, dAugL, dCut, dIsi, dLc_eq, dLc2_eq, dFor, dWhile, fAdd, fSub, fLt, fLe, fGt, fGe, fI2_eq, fNeg_eq, fTuple_nis, fTuple_l, fList_l, fList_tN, fCat_eq, unD_nil, unD_d, startR, List.map_cons, List.map_nil, List.length_cons, List.length_nil, List.replicate, List.cons_append, List.nil_append, Nat.zero_add, Nat.reduceAdd, Nat.reduceSub, List.append_nil, List.getElem?_cons_zero, List.getElem?_cons_succ, List.set_cons_zero, List.set_cons_succ, Option.some.injEq, Prod.mk.injEq, Option.map_some, Option.map_none, W.d.injEq, W.l.injEq, PyData.tuple.injEq, PyData.int.injEq, PyData.bool.injEq, PyData.str.injEq, reduceCtorEq, retOk_d, retOk_1, retOk_2, asgOk_d, asgOk_2, and_assoc, exists_and_left, exists_eq_left', exists_eq_left, true_and, and_true, ex_gD, ex_tN, fLen_gD, fLen_tN, fLen_l, len100, Int.toNat_natCast, Nat.reduceLeDiff, isT_ii, isT_ib, isT_tt, isT_ss, is_integer_eq, is_in_eq, is_list_eq, is_list_tN, is_list_gD, if_true, eq_self, Bool.false_eq_true, if_false, ge1, ge2, one_ne, two_ne, true_implies, unD_append, ex_pair, ex_trip, t_made_in])
  refine c_story_in o h1 h2 ?_
  (try simp only [dSeq, dNext, dDrop, dAsg, dAsgG, dRet, dIfS, dPar, dVar, dC, dU, dOp, dTst, dAnd, dOr, dNot, dAndV, dNotV, dChain, dIf, dNil, dCons, dStar, dTup, dLst, dCall, dItL, dItT, dRng1, dRng2, dEnum, gdName, gdTup2, gdTup3, dYes, wipeR, dAppend, dExtend, dPopA, dAugL, dCut, dIsi, dLc_eq, dLc2_eq, dFor, dWhile, fAdd, fSub, fLt, fLe, fGt, fGe, fI2_eq, fNeg_eq, fTuple_nis, fTuple_l, fList_l, fList_tN, fCat_eq, unD_nil, unD_d, startR, List.map_cons, List.map_nil, List.length_cons, List.length_nil, List.replicate, List.cons_append, List.nil_append, Nat.zero_add, Nat.reduceAdd, Nat.reduceSub, List.append_nil, List.getElem?_cons_zero, List.getElem?_cons_succ, List.set_cons_zero, List.set_cons_succ, Option.some.injEq, Prod.mk.injEq, Option.map_some, Option.map_none, W.d.injEq, W.l.injEq, PyData.tuple.injEq, PyData.int.injEq, PyData.bool.injEq, PyData.str.injEq, reduceCtorEq, retOk_d, retOk_1, retOk_2, asgOk_d, asgOk_2, and_assoc, exists_and_left, exists_eq_left', exists_eq_left, true_and, and_true, ex_gD, ex_tN, fLen_gD, fLen_tN, fLen_l, len100, Int.toNat_natCast, Nat.reduceLeDiff, isT_ii, isT_ib, isT_tt, isT_ss, is_integer_eq, is_in_eq, is_list_eq, is_list_tN, is_list_gD, if_true, eq_self, Bool.false_eq_true, if_false, ge1, ge2, one_ne, two_ne, true_implies, unD_append, ex_pair, ex_trip])
  let F : Nat × Nat → List PyData := fun q => ((prs n (aft g (l.take (q.2 + 1)))).filter fun p => !(aft g (l.take q.2) p.1 p.2)).map fun p => .tuple [nI q.2, nI q.1, pD p]
  have lF : ∀ q, (F q).length ≤ 15 := fun q => by
    show (List.map _ (List.filter _ _)).length ≤ 15
    rw [List.length_map]
    exact Nat.le_trans (List.length_filter_le _ _) (prs_len hn)
  refine ⟨fun i ρ' => ∃ a b, ρ' = [some (.d (gD n g), false), some (.d (tN l), false), some (.l ((List.range (l.length + 1)).map fun i => gD n (aft g (l.take i))), true), some (.l ((l.zipIdx.take i).flatMap F), true), a, b, none], ⟨_, _, rfl⟩, ?_, ?_⟩
  · rintro i x _ hx ⟨a, b, rfl⟩
    obtain ⟨y, hy, rfl⟩ := enu_at hx
    obtain ⟨p, hp, rfl⟩ := nis_at hy
    have hi := (List.getElem?_eq_some_iff.mp hp).1
    have at_ : ∀ k, k < l.length + 1 → ((List.range (l.length + 1)).map fun i => gD n (aft g (l.take i)))[k]? = some (gD n (aft g (l.take k))) := fun k hk => by
      rw [List.getElem?_map, List.getElem?_range hk]
      rfl
    have z : l.zipIdx[i]? = some (p, i) := by
      rw [List.getElem?_zipIdx, hp]
      simp
    (try simp only [dSeq, dNext, dDrop, dAsg, dAsgG, dRet, dIfS, dPar, dVar, dC, dU, dOp, dTst, dAnd, dOr, dNot, dAndV, dNotV, dChain, dIf, dNil, dCons, dStar, dTup, dLst, dCall, dItL, dItT, dRng1, dRng2, dEnum, gdName, gdTup2, gdTup3, dYes, wipeR, dAppend, dExtend, dPopA, dAugL, dCut, dIsi, dLc_eq, dLc2_eq, dFor, dWhile, fAdd, fSub, fLt, fLe, fGt, fGe, fI2_eq, fNeg_eq, fTuple_nis, fTuple_l, fList_l, fList_tN, fCat_eq, unD_nil, unD_d, startR, List.map_cons, List.map_nil, List.length_cons, List.length_nil, List.replicate, List.cons_append, List.nil_append, Nat.zero_add, Nat.reduceAdd, Nat.reduceSub, List.append_nil, List.getElem?_cons_zero, List.getElem?_cons_succ, List.set_cons_zero, List.set_cons_succ, Option.some.injEq, Prod.mk.injEq, Option.map_some, Option.map_none, W.d.injEq, W.l.injEq, PyData.tuple.injEq, PyData.int.injEq, PyData.bool.injEq, PyData.str.injEq, reduceCtorEq, retOk_d, retOk_1, retOk_2, asgOk_d, asgOk_2, and_assoc, exists_and_left, exists_eq_left', exists_eq_left, true_and, and_true, ex_gD, ex_tN, fLen_gD, fLen_tN, fLen_l, len100, Int.toNat_natCast, Nat.reduceLeDiff, isT_ii, isT_ib, isT_tt, isT_ss, is_integer_eq, is_in_eq, is_list_eq, is_list_tN, is_list_gD, if_true, eq_self, Bool.false_eq_true, if_false, ge1, ge2, one_ne, two_ne, true_implies, unD_append, ex_pair, ex_trip])
    refine fIxL_nat (i := i + 1) (at_ (i + 1) (by omega)) ?_
    refine c_pairs_in o.aft ?_
    (try simp only [dSeq, dNext, dDrop, dAsg, dAsgG, dRet, dIfS, dPar, dVar, dC, dU, dOp, dTst, dAnd, dOr, dNot, dAndV, dNotV, dChain, dIf, dNil, dCons, dStar, dTup, dLst, dCall, dItL, dItT, dRng1, dRng2, dEnum, gdName, gdTup2, gdTup3, dYes, wipeR, dAppend, dExtend, dPopA, dAugL, dCut, dIsi, dLc_eq, dLc2_eq, dFor, dWhile, fAdd, fSub, fLt, fLe, fGt, fGe, fI2_eq, fNeg_eq, fTuple_nis, fTuple_l, fList_l, fList_tN, fCat_eq, unD_nil, unD_d, startR, List.map_cons, List.map_nil, List.length_cons, List.length_nil, List.replicate, List.cons_append, List.nil_append, Nat.zero_add, Nat.reduceAdd, Nat.reduceSub, List.append_nil, List.getElem?_cons_zero, List.getElem?_cons_succ, List.set_cons_zero, List.set_cons_succ, Option.some.injEq, Prod.mk.injEq, Option.map_some, Option.map_none, W.d.injEq, W.l.injEq, PyData.tuple.injEq, PyData.int.injEq, PyData.bool.injEq, PyData.str.injEq, reduceCtorEq, retOk_d, retOk_1, retOk_2, asgOk_d, asgOk_2, and_assoc, exists_and_left, exists_eq_left', exists_eq_left, true_and, and_true, ex_gD, ex_tN, fLen_gD, fLen_tN, fLen_l, len100, Int.toNat_natCast, Nat.reduceLeDiff, isT_ii, isT_ib, isT_tt, isT_ss, is_integer_eq, is_in_eq, is_list_eq, is_list_tN, is_list_gD, if_true, eq_self, Bool.false_eq_true, if_false, ge1, ge2, one_ne, two_ne, true_implies, unD_append, ex_pair, ex_trip])
    refine ⟨by rw [List.length_map]; have := prs_len (g := aft g (l.take (i + 1))) hn; omega, ?_⟩
    refine lcM (enc := pD) (fun q => !(aft g (l.take i) q.1 q.2)) (fun q => .tuple [nI i, nI p, pD q]) (fun a _ b _ => pD_inj) (fun q hq => ?_) ?_
    · have hq := mem_prs.mp hq
      (try simp only [dSeq, dNext, dDrop, dAsg, dAsgG, dRet, dIfS, dPar, dVar, dC, dU, dOp, dTst, dAnd, dOr, dNot, dAndV, dNotV, dChain, dIf, dNil, dCons, dStar, dTup, dLst, dCall, dItL, dItT, dRng1, dRng2, dEnum, gdName, gdTup2, gdTup3, dYes, wipeR, dAppend, dExtend, dPopA, dAugL, dCut, dIsi, dLc_eq, dLc2_eq, dFor, dWhile, fAdd, fSub, fLt, fLe, fGt, fGe, fI2_eq, fNeg_eq, fTuple_nis, fTuple_l, fList_l, fList_tN, fCat_eq, unD_nil, unD_d, startR, List.map_cons, List.map_nil, List.length_cons, List.length_nil, List.replicate, List.cons_append, List.nil_append, Nat.zero_add, Nat.reduceAdd, Nat.reduceSub, List.append_nil, List.getElem?_cons_zero, List.getElem?_cons_succ, List.set_cons_zero, List.set_cons_succ, Option.some.injEq, Prod.mk.injEq, Option.map_some, Option.map_none, W.d.injEq, W.l.injEq, PyData.tuple.injEq, PyData.int.injEq, PyData.bool.injEq, PyData.str.injEq, reduceCtorEq, retOk_d, retOk_1, retOk_2, asgOk_d, asgOk_2, and_assoc, exists_and_left, exists_eq_left', exists_eq_left, true_and, and_true, ex_gD, ex_tN, fLen_gD, fLen_tN, fLen_l, len100, Int.toNat_natCast, Nat.reduceLeDiff, isT_ii, isT_ib, isT_tt, isT_ss, is_integer_eq, is_in_eq, is_list_eq, is_list_tN, is_list_gD, if_true, eq_self, Bool.false_eq_true, if_false, ge1, ge2, one_ne, two_ne, true_implies, unD_append, ex_pair, ex_trip])
      refine fIxT_1 ?_
      refine fIxL_nat (i := i) (at_ i (by omega)) ?_
      refine fIxT_0 ?_
      refine ix_gD (by omega) ?_
      (try simp only [dSeq, dNext, dDrop, dAsg, dAsgG, dRet, dIfS, dPar, dVar, dC, dU, dOp, dTst, dAnd, dOr, dNot, dAndV, dNotV, dChain, dIf, dNil, dCons, dStar, dTup, dLst, dCall, dItL, dItT, dRng1, dRng2, dEnum, gdName, gdTup2, gdTup3, dYes, wipeR, dAppend, dExtend, dPopA, dAugL, dCut, dIsi, dLc_eq, dLc2_eq, dFor, dWhile, fAdd, fSub, fLt, fLe, fGt, fGe, fI2_eq, fNeg_eq, fTuple_nis, fTuple_l, fList_l, fList_tN, fCat_eq, unD_nil, unD_d, startR, List.map_cons, List.map_nil, List.length_cons, List.length_nil, List.replicate, List.cons_append, List.nil_append, Nat.zero_add, Nat.reduceAdd, Nat.reduceSub, List.append_nil, List.getElem?_cons_zero, List.getElem?_cons_succ, List.set_cons_zero, List.set_cons_succ, Option.some.injEq, Prod.mk.injEq, Option.map_some, Option.map_none, W.d.injEq, W.l.injEq, PyData.tuple.injEq, PyData.int.injEq, PyData.bool.injEq, PyData.str.injEq, reduceCtorEq, retOk_d, retOk_1, retOk_2, asgOk_d, asgOk_2, and_assoc, exists_and_left, exists_eq_left', exists_eq_left, true_and, and_true, ex_gD, ex_tN, fLen_gD, fLen_tN, fLen_l, len100, Int.toNat_natCast, Nat.reduceLeDiff, isT_ii, isT_ib, isT_tt, isT_ss, is_integer_eq, is_in_eq, is_list_eq, is_list_tN, is_list_gD, if_true, eq_self, Bool.false_eq_true, if_false, ge1, ge2, one_ne, two_ne, true_implies, unD_append, ex_pair, ex_trip, fIn_t])
      refine ⟨?_, fun _ => trivial⟩
      congr 1
      by_cases e : aft g (l.take i) q.1 q.2 = true
      · rw [e]
        exact decide_eq_true (mem_frs.mpr ⟨hq.2.1, e⟩)
      · rw [Bool.eq_false_iff.mpr e]
        exact decide_eq_false fun h => e (mem_frs.mp h).2
    · (try simp only [dSeq, dNext, dDrop, dAsg, dAsgG, dRet, dIfS, dPar, dVar, dC, dU, dOp, dTst, dAnd, dOr, dNot, dAndV, dNotV, dChain, dIf, dNil, dCons, dStar, dTup, dLst, dCall, dItL, dItT, dRng1, dRng2, dEnum, gdName, gdTup2, gdTup3, dYes, wipeR, dAppend, dExtend, dPopA, dAugL, dCut, dIsi, dLc_eq, dLc2_eq, dFor, dWhile, fAdd, fSub, fLt, fLe, fGt, fGe, fI2_eq, fNeg_eq, fTuple_nis, fTuple_l, fList_l, fList_tN, fCat_eq, unD_nil, unD_d, startR, List.map_cons, List.map_nil, List.length_cons, List.length_nil, List.replicate, List.cons_append, List.nil_append, Nat.zero_add, Nat.reduceAdd, Nat.reduceSub, List.append_nil, List.getElem?_cons_zero, List.getElem?_cons_succ, List.set_cons_zero, List.set_cons_succ, Option.some.injEq, Prod.mk.injEq, Option.map_some, Option.map_none, W.d.injEq, W.l.injEq, PyData.tuple.injEq, PyData.int.injEq, PyData.bool.injEq, PyData.str.injEq, reduceCtorEq, retOk_d, retOk_1, retOk_2, asgOk_d, asgOk_2, and_assoc, exists_and_left, exists_eq_left', exists_eq_left, true_and, and_true, ex_gD, ex_tN, fLen_gD, fLen_tN, fLen_l, len100, Int.toNat_natCast, Nat.reduceLeDiff, isT_ii, isT_ib, isT_tt, isT_ss, is_integer_eq, is_in_eq, is_list_eq, is_list_tN, is_list_gD, if_true, eq_self, Bool.false_eq_true, if_false, ge1, ge2, one_ne, two_ne, true_implies, unD_append, ex_pair, ex_trip])
      have lt := flat_le (m := 15) (f := F) (l := l.zipIdx.take i) fun q _ => lF q
      have lt2 : (l.zipIdx.take i).length ≤ 60 := by
        rw [List.length_take, List.length_zipIdx]
        omega
      have lf := lF (p, i)
      refine ⟨?_, some (.d (nI i), true), some (.d (nI p), true), ?_⟩
      · have e : (List.map (fun q : Nat × Nat => PyData.tuple [nI i, nI p, pD q]) ((prs n (aft g (l.take (i + 1)))).filter fun q => !(aft g (l.take i) q.1 q.2))).length = (F (p, i)).length := rfl
        rw [e]
        omega
      · have e : (l.zipIdx.take (i + 1)).flatMap F = (l.zipIdx.take i).flatMap F ++ F (p, i) := by
          rw [List.take_add_one, z, List.flatMap_append]
          simp
        rw [e]
  · rintro _ ⟨a, b, rfl⟩
    (try simp only [dSeq, dNext, dDrop, dAsg, dAsgG, dRet, dIfS, dPar, dVar, dC, dU, dOp, dTst, dAnd, dOr, dNot, dAndV, dNotV, dChain, dIf, dNil, dCons, dStar, dTup, dLst, dCall, dItL, dItT, dRng1, dRng2, dEnum, gdName, gdTup2, gdTup3, dYes, wipeR, dAppend, dExtend, dPopA, dAugL, dCut, dIsi, dLc_eq, dLc2_eq, dFor, dWhile, fAdd, fSub, fLt, fLe, fGt, fGe, fI2_eq, fNeg_eq, fTuple_nis, fTuple_l, fList_l, fList_tN, fCat_eq, unD_nil, unD_d, startR, List.map_cons, List.map_nil, List.length_cons, List.length_nil, List.replicate, List.cons_append, List.nil_append, Nat.zero_add, Nat.reduceAdd, Nat.reduceSub, List.append_nil, List.getElem?_cons_zero, List.getElem?_cons_succ, List.set_cons_zero, List.set_cons_succ, Option.some.injEq, Prod.mk.injEq, Option.map_some, Option.map_none, W.d.injEq, W.l.injEq, PyData.tuple.injEq, PyData.int.injEq, PyData.bool.injEq, PyData.str.injEq, reduceCtorEq, retOk_d, retOk_1, retOk_2, asgOk_d, asgOk_2, and_assoc, exists_and_left, exists_eq_left', exists_eq_left, true_and, and_true, ex_gD, ex_tN, fLen_gD, fLen_tN, fLen_l, len100, Int.toNat_natCast, Nat.reduceLeDiff, isT_ii, isT_ib, isT_tt, isT_ss, is_integer_eq, is_in_eq, is_list_eq, is_list_tN, is_list_gD, if_true, eq_self, Bool.false_eq_true, if_false, ge1, ge2, one_ne, two_ne, true_implies, unD_append, ex_pair, ex_trip])
    rw [enu_len, nis_len, List.take_of_length_le (by rw [List.length_zipIdx]; exact Nat.le_refl _)]
    exact r
theorem sum_set : ∀ (cs : List Int) (k : Nat) (c : Int), cs[k]? = some c → (cs.set k (c + 1)).sum = cs.sum + 1
  | [], k, c, h => by simp at h
  | x :: cs, 0, c, h => by
    have e : x = c := Option.some.inj h
    subst e
    simp only [List.set_cons_zero, List.sum_cons]
    omega
  | x :: cs, k + 1, c, h => by
    have ih := sum_set cs k c h
    simp only [List.set_cons_succ, List.sum_cons, ih]
    omega
theorem sem_count_made : ∀ ws R, sp_count_made ws R → t_count_made { nx := fun _ => R (.d .none), rt := R } (startR ["web", "calls", "found", "at", "person", "pair"] ws) := by
  rintro _ R ⟨n, g, l, rfl, o, h1, h2, r⟩
  have hn := o.le
  (try simp only [dSeq, dNext, dDrop, dAsg, dAsgG, dRet, dIfS, dPar, dVar, dC, dU, dOp, dTst, dAnd, dOr, dNot, dAndV, dNotV, dChain, dIf, dNil, dCons, dStar, dTup, dLst, dCall, dItL, dItT, dRng1, dRng2, dEnum, gdName, gdTup2, gdTup3, dYes, wipeR, dAppend, dExtend, dPopA, dAugL, dCut, dIsi, dLc_eq, dLc2_eq, dFor, dWhile, fAdd, fSub, fLt, fLe, fGt, fGe, fI2_eq, fNeg_eq, fTuple_nis, fTuple_l, fList_l, fList_tN, fCat_eq, unD_nil, unD_d, startR, List.map_cons, List.map_nil, List.length_cons, List.length_nil, List.replicate, List.cons_append, List.nil_append, Nat.zero_add, Nat.reduceAdd, Nat.reduceSub, List.append_nil, List.getElem?_cons_zero, List.getElem?_cons_succ, List.set_cons_zero, List.set_cons_succ, Option.some.injEq, Prod.mk.injEq, Option.map_some, Option.map_none, W.d.injEq, W.l.injEq, PyData.tuple.injEq, PyData.int.injEq, PyData.bool.injEq, PyData.str.injEq, reduceCtorEq, retOk_d, retOk_1, retOk_2, asgOk_d, asgOk_2, and_assoc, exists_and_left, exists_eq_left', exists_eq_left, true_and, and_true, ex_gD, ex_tN, fLen_gD, fLen_tN, fLen_l, len100, Int.toNat_natCast, Nat.reduceLeDiff, isT_ii, isT_ib, isT_tt, isT_ss, is_integer_eq, is_in_eq, is_list_eq, is_list_tN, is_list_gD, if_true, eq_self, Bool.false_eq_true, if_false, ge1, ge2, one_ne, two_ne, true_implies, unD_append, ex_pair, ex_trip, t_count_made])
  refine c_need_web o ?_
  refine c_need_calls o h1 h2 ?_
  refine ⟨by omega, by omega, ?_⟩
  refine ⟨rfl, ?_⟩
  refine c_made_in o h1 h2 ?_
  (try simp only [dSeq, dNext, dDrop, dAsg, dAsgG, dRet, dIfS, dPar, dVar, dC, dU, dOp, dTst, dAnd, dOr, dNot, dAndV, dNotV, dChain, dIf, dNil, dCons, dStar, dTup, dLst, dCall, dItL, dItT, dRng1, dRng2, dEnum, gdName, gdTup2, gdTup3, dYes, wipeR, dAppend, dExtend, dPopA, dAugL, dCut, dIsi, dLc_eq, dLc2_eq, dFor, dWhile, fAdd, fSub, fLt, fLe, fGt, fGe, fI2_eq, fNeg_eq, fTuple_nis, fTuple_l, fList_l, fList_tN, fCat_eq, unD_nil, unD_d, startR, List.map_cons, List.map_nil, List.length_cons, List.length_nil, List.replicate, List.cons_append, List.nil_append, Nat.zero_add, Nat.reduceAdd, Nat.reduceSub, List.append_nil, List.getElem?_cons_zero, List.getElem?_cons_succ, List.set_cons_zero, List.set_cons_succ, Option.some.injEq, Prod.mk.injEq, Option.map_some, Option.map_none, W.d.injEq, W.l.injEq, PyData.tuple.injEq, PyData.int.injEq, PyData.bool.injEq, PyData.str.injEq, reduceCtorEq, retOk_d, retOk_1, retOk_2, asgOk_d, asgOk_2, and_assoc, exists_and_left, exists_eq_left', exists_eq_left, true_and, and_true, ex_gD, ex_tN, fLen_gD, fLen_tN, fLen_l, len100, Int.toNat_natCast, Nat.reduceLeDiff, isT_ii, isT_ib, isT_tt, isT_ss, is_integer_eq, is_in_eq, is_list_eq, is_list_tN, is_list_gD, if_true, eq_self, Bool.false_eq_true, if_false, ge1, ge2, one_ne, two_ne, true_implies, unD_append, ex_pair, ex_trip])
  refine ⟨fun i ρ' => ∃ (cs : List Int) (a b c : Option (W × Bool)), (cs.length = n ∧ cs.sum = (i : Int)) ∧ ρ' = [some (.d (gD n g), false), some (.d (tN l), false), some (.l (cs.map .int), true), a, b, c], ⟨List.replicate n 0, none, none, none, ⟨List.length_replicate, ?_⟩, ?_⟩, ?_, ?_⟩
  · rw [List.sum_replicate_int]
    simp
  · rw [List.map_replicate]
  · rintro i x _ hx ⟨cs, a, b, c, ⟨hl, hs⟩, rfl⟩
    have hm := List.mem_of_getElem? hx
    obtain ⟨q, hq, hx2⟩ := List.mem_flatMap.mp hm
    obtain ⟨pr, _, rfl⟩ := List.mem_map.mp hx2
    have hp : q.1 < n := h2 q.1 (by
      have := List.mem_zipIdx hq
      exact this.2.2 ▸ List.getElem_mem _)
    have hget : cs[q.1]? = some cs[q.1] := List.getElem?_eq_getElem (by omega)
    (try simp only [dSeq, dNext, dDrop, dAsg, dAsgG, dRet, dIfS, dPar, dVar, dC, dU, dOp, dTst, dAnd, dOr, dNot, dAndV, dNotV, dChain, dIf, dNil, dCons, dStar, dTup, dLst, dCall, dItL, dItT, dRng1, dRng2, dEnum, gdName, gdTup2, gdTup3, dYes, wipeR, dAppend, dExtend, dPopA, dAugL, dCut, dIsi, dLc_eq, dLc2_eq, dFor, dWhile, fAdd, fSub, fLt, fLe, fGt, fGe, fI2_eq, fNeg_eq, fTuple_nis, fTuple_l, fList_l, fList_tN, fCat_eq, unD_nil, unD_d, startR, List.map_cons, List.map_nil, List.length_cons, List.length_nil, List.replicate, List.cons_append, List.nil_append, Nat.zero_add, Nat.reduceAdd, Nat.reduceSub, List.append_nil, List.getElem?_cons_zero, List.getElem?_cons_succ, List.set_cons_zero, List.set_cons_succ, Option.some.injEq, Prod.mk.injEq, Option.map_some, Option.map_none, W.d.injEq, W.l.injEq, PyData.tuple.injEq, PyData.int.injEq, PyData.bool.injEq, PyData.str.injEq, reduceCtorEq, retOk_d, retOk_1, retOk_2, asgOk_d, asgOk_2, and_assoc, exists_and_left, exists_eq_left', exists_eq_left, true_and, and_true, ex_gD, ex_tN, fLen_gD, fLen_tN, fLen_l, len100, Int.toNat_natCast, Nat.reduceLeDiff, isT_ii, isT_ib, isT_tt, isT_ss, is_integer_eq, is_in_eq, is_list_eq, is_list_tN, is_list_gD, if_true, eq_self, Bool.false_eq_true, if_false, ge1, ge2, one_ne, two_ne, true_implies, unD_append, ex_pair, ex_trip])
    refine ⟨q.1, rfl, cs[q.1], ?_, ?_⟩
    · rw [List.getElem?_map, hget]
      rfl
    · have e : (cs.map PyData.int).set q.1 (.int (cs[q.1] + 1)) = (cs.set q.1 (cs[q.1] + 1)).map .int := List.map_set.symm
      rw [e]
      refine ⟨cs.set q.1 (cs[q.1] + 1), by rw [List.length_set]; exact hl, ?_, _, _, _, rfl⟩
      rw [sum_set cs q.1 _ hget, hs]
      rfl
  · rintro _ ⟨cs, a, b, c, ⟨hl, hs⟩, rfl⟩
    (try simp only [dSeq, dNext, dDrop, dAsg, dAsgG, dRet, dIfS, dPar, dVar, dC, dU, dOp, dTst, dAnd, dOr, dNot, dAndV, dNotV, dChain, dIf, dNil, dCons, dStar, dTup, dLst, dCall, dItL, dItT, dRng1, dRng2, dEnum, gdName, gdTup2, gdTup3, dYes, wipeR, dAppend, dExtend, dPopA, dAugL, dCut, dIsi, dLc_eq, dLc2_eq, dFor, dWhile, fAdd, fSub, fLt, fLe, fGt, fGe, fI2_eq, fNeg_eq, fTuple_nis, fTuple_l, fList_l, fList_tN, fCat_eq, unD_nil, unD_d, startR, List.map_cons, List.map_nil, List.length_cons, List.length_nil, List.replicate, List.cons_append, List.nil_append, Nat.zero_add, Nat.reduceAdd, Nat.reduceSub, List.append_nil, List.getElem?_cons_zero, List.getElem?_cons_succ, List.set_cons_zero, List.set_cons_succ, Option.some.injEq, Prod.mk.injEq, Option.map_some, Option.map_none, W.d.injEq, W.l.injEq, PyData.tuple.injEq, PyData.int.injEq, PyData.bool.injEq, PyData.str.injEq, reduceCtorEq, retOk_d, retOk_1, retOk_2, asgOk_d, asgOk_2, and_assoc, exists_and_left, exists_eq_left', exists_eq_left, true_and, and_true, ex_gD, ex_tN, fLen_gD, fLen_tN, fLen_l, len100, Int.toNat_natCast, Nat.reduceLeDiff, isT_ii, isT_ib, isT_tt, isT_ss, is_integer_eq, is_in_eq, is_list_eq, is_list_tN, is_list_gD, if_true, eq_self, Bool.false_eq_true, if_false, ge1, ge2, one_ne, two_ne, true_implies, unD_append, ex_pair, ex_trip])
    exact r cs hs
/-! joins -/
theorem chs_head : ∀ n, ∃ r, chs n = [] :: r ∧ ∀ S ∈ r, S ≠ []
  | 0 => ⟨[], rfl, fun S hS => by cases hS⟩
  | k + 1 => by
    obtain ⟨r, e, h⟩ := chs_head k
    refine ⟨r ++ (chs k).map fun l => l ++ [k], ?_, fun S hS => ?_⟩
    · show chs k ++ _ = _
      rw [e]
      rfl
    · rcases List.mem_append.mp hS with hS | hS
      · exact h S hS
      · obtain ⟨l, _, rfl⟩ := List.mem_map.mp hS
        simp
theorem sorted_tNs {js : List (List Nat)} {n : Nat} {s : List Nat → Bool} {k : W → Prop} (e : js = (chs n).filter s) (r : ∀ js' : List (List Nat), js'.Perm js → k (.l (js'.map tN))) : fSorted (.l (js.map tN)) k := by
  refine ⟨js.map tN, .inl rfl, fun d hd d' hd' => ?_, ?_, fun d hd => ?_, ?_⟩
  · obtain ⟨i, _, rfl⟩ := List.mem_map.mp hd
    obtain ⟨j, _, rfl⟩ := List.mem_map.mp hd'
    rw [tN_up, tN_up]
    exact alike_tI _ _
  · obtain ⟨r, er, h⟩ := chs_head n
    have tail : ∀ S ∈ r.filter s, S ≠ [] := fun S hS => h S (List.mem_filter.mp hS).1
    rw [e, er, List.filter_cons]
    by_cases q : s [] = true
    · rw [if_pos q]
      refine .inr ⟨(r.filter s).map tN, rfl, fun d hd => ?_⟩
      obtain ⟨S, _, rfl⟩ := List.mem_map.mp hd
      exact ⟨_, rfl⟩
    · rw [if_neg q]
      refine .inl (.inl fun d hd => ?_)
      obtain ⟨S, hS, rfl⟩ := List.mem_map.mp hd
      have := tail S hS
      cases S with
      | nil => exact absurd rfl this
      | cons x S => exact ⟨nI x, nis S, rfl⟩
  · obtain ⟨i, _, rfl⟩ := List.mem_map.mp hd
    have := (sh_tN i).dep
    omega
  · obtain ⟨js', hp, e2⟩ := sort_map tN js
    rw [e2]
    exact r js' hp
open Classical in
theorem sem_joining_in : ∀ ws R, sp_joining_in ws R → t_joining_in { nx := fun _ => R (.d .none), rt := R } (startR ["web", "goal", "found", "called"] ws) := by
  rintro _ R ⟨n, g, rfl, o, r⟩
  have hn := o.le
  have hc := chs_len n hn
  (try simp only [dSeq, dNext, dDrop, dAsg, dAsgG, dRet, dIfS, dPar, dVar, dC, dU, dOp, dTst, dAnd, dOr, dNot, dAndV, dNotV, dChain, dIf, dNil, dCons, dStar, dTup, dLst, dCall, dItL, dItT, dRng1, dRng2, dEnum, gdName, gdTup2, gdTup3, dYes, wipeR, dAppend, dExtend, dPopA, dAugL, dCut, dIsi, dLc_eq, dLc2_eq, dFor, dWhile, fAdd, fSub, fLt, fLe, fGt, fGe, fI2_eq, fNeg_eq, fTuple_nis, fTuple_l, fList_l, fList_tN, fCat_eq, unD_nil, unD_d, startR, List.map_cons, List.map_nil, List.length_cons, List.length_nil, List.replicate, List.cons_append, List.nil_append, Nat.zero_add, Nat.reduceAdd, Nat.reduceSub, List.append_nil, List.getElem?_cons_zero, List.getElem?_cons_succ, List.set_cons_zero, List.set_cons_succ, Option.some.injEq, Prod.mk.injEq, Option.map_some, Option.map_none, W.d.injEq, W.l.injEq, PyData.tuple.injEq, PyData.int.injEq, PyData.bool.injEq, PyData.str.injEq, reduceCtorEq, retOk_d, retOk_1, retOk_2, asgOk_d, asgOk_2, and_assoc, exists_and_left, exists_eq_left', exists_eq_left, true_and, and_true, ex_gD, ex_tN, fLen_gD, fLen_tN, fLen_l, len100, Int.toNat_natCast, Nat.reduceLeDiff, isT_ii, isT_ib, isT_tt, isT_ss, is_integer_eq, is_in_eq, is_list_eq, is_list_tN, is_list_gD, if_true, eq_self, Bool.false_eq_true, if_false, ge1, ge2, one_ne, two_ne, true_implies, unD_append, ex_pair, ex_trip, t_joining_in])
  refine c_rest_of o ?_
  (try simp only [dSeq, dNext, dDrop, dAsg, dAsgG, dRet, dIfS, dPar, dVar, dC, dU, dOp, dTst, dAnd, dOr, dNot, dAndV, dNotV, dChain, dIf, dNil, dCons, dStar, dTup, dLst, dCall, dItL, dItT, dRng1, dRng2, dEnum, gdName, gdTup2, gdTup3, dYes, wipeR, dAppend, dExtend, dPopA, dAugL, dCut, dIsi, dLc_eq, dLc2_eq, dFor, dWhile, fAdd, fSub, fLt, fLe, fGt, fGe, fI2_eq, fNeg_eq, fTuple_nis, fTuple_l, fList_l, fList_tN, fCat_eq, unD_nil, unD_d, startR, List.map_cons, List.map_nil, List.length_cons, List.length_nil, List.replicate, List.cons_append, List.nil_append, Nat.zero_add, Nat.reduceAdd, Nat.reduceSub, List.append_nil, List.getElem?_cons_zero, List.getElem?_cons_succ, List.set_cons_zero, List.set_cons_succ, Option.some.injEq, Prod.mk.injEq, Option.map_some, Option.map_none, W.d.injEq, W.l.injEq, PyData.tuple.injEq, PyData.int.injEq, PyData.bool.injEq, PyData.str.injEq, reduceCtorEq, retOk_d, retOk_1, retOk_2, asgOk_d, asgOk_2, and_assoc, exists_and_left, exists_eq_left', exists_eq_left, true_and, and_true, ex_gD, ex_tN, fLen_gD, fLen_tN, fLen_l, len100, Int.toNat_natCast, Nat.reduceLeDiff, isT_ii, isT_ib, isT_tt, isT_ss, is_integer_eq, is_in_eq, is_list_eq, is_list_tN, is_list_gD, if_true, eq_self, Bool.false_eq_true, if_false, ge1, ge2, one_ne, two_ne, true_implies, unD_append, ex_pair, ex_trip])
  refine c_choices hn ?_
  (try simp only [dSeq, dNext, dDrop, dAsg, dAsgG, dRet, dIfS, dPar, dVar, dC, dU, dOp, dTst, dAnd, dOr, dNot, dAndV, dNotV, dChain, dIf, dNil, dCons, dStar, dTup, dLst, dCall, dItL, dItT, dRng1, dRng2, dEnum, gdName, gdTup2, gdTup3, dYes, wipeR, dAppend, dExtend, dPopA, dAugL, dCut, dIsi, dLc_eq, dLc2_eq, dFor, dWhile, fAdd, fSub, fLt, fLe, fGt, fGe, fI2_eq, fNeg_eq, fTuple_nis, fTuple_l, fList_l, fList_tN, fCat_eq, unD_nil, unD_d, startR, List.map_cons, List.map_nil, List.length_cons, List.length_nil, List.replicate, List.cons_append, List.nil_append, Nat.zero_add, Nat.reduceAdd, Nat.reduceSub, List.append_nil, List.getElem?_cons_zero, List.getElem?_cons_succ, List.set_cons_zero, List.set_cons_succ, Option.some.injEq, Prod.mk.injEq, Option.map_some, Option.map_none, W.d.injEq, W.l.injEq, PyData.tuple.injEq, PyData.int.injEq, PyData.bool.injEq, PyData.str.injEq, reduceCtorEq, retOk_d, retOk_1, retOk_2, asgOk_d, asgOk_2, and_assoc, exists_and_left, exists_eq_left', exists_eq_left, true_and, and_true, ex_gD, ex_tN, fLen_gD, fLen_tN, fLen_l, len100, Int.toNat_natCast, Nat.reduceLeDiff, isT_ii, isT_ib, isT_tt, isT_ss, is_integer_eq, is_in_eq, is_list_eq, is_list_tN, is_list_gD, if_true, eq_self, Bool.false_eq_true, if_false, ge1, ge2, one_ne, two_ne, true_implies, unD_append, ex_pair, ex_trip])
  refine ⟨fun i ρ' => ∃ a, ρ' = [some (.d (gD n g), false), some (.d (gD n (restG n g)), true), some (.l ((((chs n).take i).filter fun S => decide (toldG n g S = restG n g)).map tN), true), a], ⟨_, rfl⟩, ?_, ?_⟩
  · rintro i x _ hx ⟨a, rfl⟩
    obtain ⟨S, hS, rfl⟩ := map_at hx
    (try simp only [dSeq, dNext, dDrop, dAsg, dAsgG, dRet, dIfS, dPar, dVar, dC, dU, dOp, dTst, dAnd, dOr, dNot, dAndV, dNotV, dChain, dIf, dNil, dCons, dStar, dTup, dLst, dCall, dItL, dItT, dRng1, dRng2, dEnum, gdName, gdTup2, gdTup3, dYes, wipeR, dAppend, dExtend, dPopA, dAugL, dCut, dIsi, dLc_eq, dLc2_eq, dFor, dWhile, fAdd, fSub, fLt, fLe, fGt, fGe, fI2_eq, fNeg_eq, fTuple_nis, fTuple_l, fList_l, fList_tN, fCat_eq, unD_nil, unD_d, startR, List.map_cons, List.map_nil, List.length_cons, List.length_nil, List.replicate, List.cons_append, List.nil_append, Nat.zero_add, Nat.reduceAdd, Nat.reduceSub, List.append_nil, List.getElem?_cons_zero, List.getElem?_cons_succ, List.set_cons_zero, List.set_cons_succ, Option.some.injEq, Prod.mk.injEq, Option.map_some, Option.map_none, W.d.injEq, W.l.injEq, PyData.tuple.injEq, PyData.int.injEq, PyData.bool.injEq, PyData.str.injEq, reduceCtorEq, retOk_d, retOk_1, retOk_2, asgOk_d, asgOk_2, and_assoc, exists_and_left, exists_eq_left', exists_eq_left, true_and, and_true, ex_gD, ex_tN, fLen_gD, fLen_tN, fLen_l, len100, Int.toNat_natCast, Nat.reduceLeDiff, isT_ii, isT_ib, isT_tt, isT_ss, is_integer_eq, is_in_eq, is_list_eq, is_list_tN, is_list_gD, if_true, eq_self, Bool.false_eq_true, if_false, ge1, ge2, one_ne, two_ne, true_implies, unD_append, ex_pair, ex_trip])
    refine c_told_in o ?_
    refine ⟨(sh_gD _ _).ok, (sh_gD _ _).ok, ?_⟩
    refine ⟨_, rfl, ?_⟩
    have hb := eqv_gD (o.told S) o.rest
    have hs := take_sel hS (fun S => decide (toldG n g S = restG n g)) tN
    show if PyData.eqv (gD n (toldG n g S)) (gD n (restG n g)) = true then _ else _
    by_cases h : toldG n g S = restG n g
    · rw [if_pos (hb.mpr h)]
      refine ⟨?_, some (.d (tN S), true), ?_⟩
      · rw [List.length_map]
        have := List.length_filter_le (fun S => decide (toldG n g S = restG n g)) ((chs n).take i)
        have := List.length_take_le' i (chs n)
        omega
      · rw [hs, if_pos (decide_eq_true h)]
    · rw [if_neg fun q => h (hb.mp q)]
      refine ⟨some (.d (tN S), true), ?_⟩
      rw [hs, if_neg (by simpa using h), List.append_nil]
  · rintro _ ⟨a, rfl⟩
    (try simp only [dSeq, dNext, dDrop, dAsg, dAsgG, dRet, dIfS, dPar, dVar, dC, dU, dOp, dTst, dAnd, dOr, dNot, dAndV, dNotV, dChain, dIf, dNil, dCons, dStar, dTup, dLst, dCall, dItL, dItT, dRng1, dRng2, dEnum, gdName, gdTup2, gdTup3, dYes, wipeR, dAppend, dExtend, dPopA, dAugL, dCut, dIsi, dLc_eq, dLc2_eq, dFor, dWhile, fAdd, fSub, fLt, fLe, fGt, fGe, fI2_eq, fNeg_eq, fTuple_nis, fTuple_l, fList_l, fList_tN, fCat_eq, unD_nil, unD_d, startR, List.map_cons, List.map_nil, List.length_cons, List.length_nil, List.replicate, List.cons_append, List.nil_append, Nat.zero_add, Nat.reduceAdd, Nat.reduceSub, List.append_nil, List.getElem?_cons_zero, List.getElem?_cons_succ, List.set_cons_zero, List.set_cons_succ, Option.some.injEq, Prod.mk.injEq, Option.map_some, Option.map_none, W.d.injEq, W.l.injEq, PyData.tuple.injEq, PyData.int.injEq, PyData.bool.injEq, PyData.str.injEq, reduceCtorEq, retOk_d, retOk_1, retOk_2, asgOk_d, asgOk_2, and_assoc, exists_and_left, exists_eq_left', exists_eq_left, true_and, and_true, ex_gD, ex_tN, fLen_gD, fLen_tN, fLen_l, len100, Int.toNat_natCast, Nat.reduceLeDiff, isT_ii, isT_ib, isT_tt, isT_ss, is_integer_eq, is_in_eq, is_list_eq, is_list_tN, is_list_gD, if_true, eq_self, Bool.false_eq_true, if_false, ge1, ge2, one_ne, two_ne, true_implies, unD_append, ex_pair, ex_trip])
    rw [List.length_map, List.take_length]
    refine sorted_tNs rfl fun js' hp => ?_
    (try simp only [dSeq, dNext, dDrop, dAsg, dAsgG, dRet, dIfS, dPar, dVar, dC, dU, dOp, dTst, dAnd, dOr, dNot, dAndV, dNotV, dChain, dIf, dNil, dCons, dStar, dTup, dLst, dCall, dItL, dItT, dRng1, dRng2, dEnum, gdName, gdTup2, gdTup3, dYes, wipeR, dAppend, dExtend, dPopA, dAugL, dCut, dIsi, dLc_eq, dLc2_eq, dFor, dWhile, fAdd, fSub, fLt, fLe, fGt, fGe, fI2_eq, fNeg_eq, fTuple_nis, fTuple_l, fList_l, fList_tN, fCat_eq, unD_nil, unD_d, startR, List.map_cons, List.map_nil, List.length_cons, List.length_nil, List.replicate, List.cons_append, List.nil_append, Nat.zero_add, Nat.reduceAdd, Nat.reduceSub, List.append_nil, List.getElem?_cons_zero, List.getElem?_cons_succ, List.set_cons_zero, List.set_cons_succ, Option.some.injEq, Prod.mk.injEq, Option.map_some, Option.map_none, W.d.injEq, W.l.injEq, PyData.tuple.injEq, PyData.int.injEq, PyData.bool.injEq, PyData.str.injEq, reduceCtorEq, retOk_d, retOk_1, retOk_2, asgOk_d, asgOk_2, and_assoc, exists_and_left, exists_eq_left', exists_eq_left, true_and, and_true, ex_gD, ex_tN, fLen_gD, fLen_tN, fLen_l, len100, Int.toNat_natCast, Nat.reduceLeDiff, isT_ii, isT_ib, isT_tt, isT_ss, is_integer_eq, is_in_eq, is_list_eq, is_list_tN, is_list_gD, if_true, eq_self, Bool.false_eq_true, if_false, ge1, ge2, one_ne, two_ne, true_implies, unD_append, ex_pair, ex_trip])
    refine r js' ?_ fun S => ?_
    · rw [hp.length_eq]
      exact Nat.le_trans (List.length_filter_le _ _) hc
    · rw [hp.mem_iff, List.mem_filter, decide_eq_true_eq]
      rfl
theorem sem_calls_to_rest : ∀ ws R, sp_calls_to_rest ws R → t_calls_to_rest { nx := fun _ => R (.d .none), rt := R } (startR ["web", "called"] ws) := by
  rintro _ R ⟨n, g, rfl, o, ⟨S0, hS0⟩, r⟩
  have hn := o.le
  (try simp only [dSeq, dNext, dDrop, dAsg, dAsgG, dRet, dIfS, dPar, dVar, dC, dU, dOp, dTst, dAnd, dOr, dNot, dAndV, dNotV, dChain, dIf, dNil, dCons, dStar, dTup, dLst, dCall, dItL, dItT, dRng1, dRng2, dEnum, gdName, gdTup2, gdTup3, dYes, wipeR, dAppend, dExtend, dPopA, dAugL, dCut, dIsi, dLc_eq, dLc2_eq, dFor, dWhile, fAdd, fSub, fLt, fLe, fGt, fGe, fI2_eq, fNeg_eq, fTuple_nis, fTuple_l, fList_l, fList_tN, fCat_eq, unD_nil, unD_d, startR, List.map_cons, List.map_nil, List.length_cons, List.length_nil, List.replicate, List.cons_append, List.nil_append, Nat.zero_add, Nat.reduceAdd, Nat.reduceSub, List.append_nil, List.getElem?_cons_zero, List.getElem?_cons_succ, List.set_cons_zero, List.set_cons_succ, Option.some.injEq, Prod.mk.injEq, Option.map_some, Option.map_none, W.d.injEq, W.l.injEq, PyData.tuple.injEq, PyData.int.injEq, PyData.bool.injEq, PyData.str.injEq, reduceCtorEq, retOk_d, retOk_1, retOk_2, asgOk_d, asgOk_2, and_assoc, exists_and_left, exists_eq_left', exists_eq_left, true_and, and_true, ex_gD, ex_tN, fLen_gD, fLen_tN, fLen_l, len100, Int.toNat_natCast, Nat.reduceLeDiff, isT_ii, isT_ib, isT_tt, isT_ss, is_integer_eq, is_in_eq, is_list_eq, is_list_tN, is_list_gD, if_true, eq_self, Bool.false_eq_true, if_false, ge1, ge2, one_ne, two_ne, true_implies, unD_append, ex_pair, ex_trip, t_calls_to_rest])
  refine c_need_web o ?_
  refine c_joining_in o fun js hl hj => ?_
  (try simp only [dSeq, dNext, dDrop, dAsg, dAsgG, dRet, dIfS, dPar, dVar, dC, dU, dOp, dTst, dAnd, dOr, dNot, dAndV, dNotV, dChain, dIf, dNil, dCons, dStar, dTup, dLst, dCall, dItL, dItT, dRng1, dRng2, dEnum, gdName, gdTup2, gdTup3, dYes, wipeR, dAppend, dExtend, dPopA, dAugL, dCut, dIsi, dLc_eq, dLc2_eq, dFor, dWhile, fAdd, fSub, fLt, fLe, fGt, fGe, fI2_eq, fNeg_eq, fTuple_nis, fTuple_l, fList_l, fList_tN, fCat_eq, unD_nil, unD_d, startR, List.map_cons, List.map_nil, List.length_cons, List.length_nil, List.replicate, List.cons_append, List.nil_append, Nat.zero_add, Nat.reduceAdd, Nat.reduceSub, List.append_nil, List.getElem?_cons_zero, List.getElem?_cons_succ, List.set_cons_zero, List.set_cons_succ, Option.some.injEq, Prod.mk.injEq, Option.map_some, Option.map_none, W.d.injEq, W.l.injEq, PyData.tuple.injEq, PyData.int.injEq, PyData.bool.injEq, PyData.str.injEq, reduceCtorEq, retOk_d, retOk_1, retOk_2, asgOk_d, asgOk_2, and_assoc, exists_and_left, exists_eq_left', exists_eq_left, true_and, and_true, ex_gD, ex_tN, fLen_gD, fLen_tN, fLen_l, len100, Int.toNat_natCast, Nat.reduceLeDiff, isT_ii, isT_ib, isT_tt, isT_ss, is_integer_eq, is_in_eq, is_list_eq, is_list_tN, is_list_gD, if_true, eq_self, Bool.false_eq_true, if_false, ge1, ge2, one_ne, two_ne, true_implies, unD_append, ex_pair, ex_trip])
  refine ⟨by rw [List.length_map]; omega, ?_⟩
  refine lcT (fun S => nI S.length) (fun a _ b _ => tN_inj) (fun S hS => ?_) ?_
  · (try simp only [dSeq, dNext, dDrop, dAsg, dAsgG, dRet, dIfS, dPar, dVar, dC, dU, dOp, dTst, dAnd, dOr, dNot, dAndV, dNotV, dChain, dIf, dNil, dCons, dStar, dTup, dLst, dCall, dItL, dItT, dRng1, dRng2, dEnum, gdName, gdTup2, gdTup3, dYes, wipeR, dAppend, dExtend, dPopA, dAugL, dCut, dIsi, dLc_eq, dLc2_eq, dFor, dWhile, fAdd, fSub, fLt, fLe, fGt, fGe, fI2_eq, fNeg_eq, fTuple_nis, fTuple_l, fList_l, fList_tN, fCat_eq, unD_nil, unD_d, startR, List.map_cons, List.map_nil, List.length_cons, List.length_nil, List.replicate, List.cons_append, List.nil_append, Nat.zero_add, Nat.reduceAdd, Nat.reduceSub, List.append_nil, List.getElem?_cons_zero, List.getElem?_cons_succ, List.set_cons_zero, List.set_cons_succ, Option.some.injEq, Prod.mk.injEq, Option.map_some, Option.map_none, W.d.injEq, W.l.injEq, PyData.tuple.injEq, PyData.int.injEq, PyData.bool.injEq, PyData.str.injEq, reduceCtorEq, retOk_d, retOk_1, retOk_2, asgOk_d, asgOk_2, and_assoc, exists_and_left, exists_eq_left', exists_eq_left, true_and, and_true, ex_gD, ex_tN, fLen_gD, fLen_tN, fLen_l, len100, Int.toNat_natCast, Nat.reduceLeDiff, isT_ii, isT_ib, isT_tt, isT_ss, is_integer_eq, is_in_eq, is_list_eq, is_list_tN, is_list_gD, if_true, eq_self, Bool.false_eq_true, if_false, ge1, ge2, one_ne, two_ne, true_implies, unD_append, ex_pair, ex_trip])
  · refine min_int (f := fun S : List Nat => (S.length : Int)) (fun e => ?_) fun S hS hm => ?_
    · have := (hj S0).mpr hS0
      rw [e] at this
      cases this
    · (try simp only [dSeq, dNext, dDrop, dAsg, dAsgG, dRet, dIfS, dPar, dVar, dC, dU, dOp, dTst, dAnd, dOr, dNot, dAndV, dNotV, dChain, dIf, dNil, dCons, dStar, dTup, dLst, dCall, dItL, dItT, dRng1, dRng2, dEnum, gdName, gdTup2, gdTup3, dYes, wipeR, dAppend, dExtend, dPopA, dAugL, dCut, dIsi, dLc_eq, dLc2_eq, dFor, dWhile, fAdd, fSub, fLt, fLe, fGt, fGe, fI2_eq, fNeg_eq, fTuple_nis, fTuple_l, fList_l, fList_tN, fCat_eq, unD_nil, unD_d, startR, List.map_cons, List.map_nil, List.length_cons, List.length_nil, List.replicate, List.cons_append, List.nil_append, Nat.zero_add, Nat.reduceAdd, Nat.reduceSub, List.append_nil, List.getElem?_cons_zero, List.getElem?_cons_succ, List.set_cons_zero, List.set_cons_succ, Option.some.injEq, Prod.mk.injEq, Option.map_some, Option.map_none, W.d.injEq, W.l.injEq, PyData.tuple.injEq, PyData.int.injEq, PyData.bool.injEq, PyData.str.injEq, reduceCtorEq, retOk_d, retOk_1, retOk_2, asgOk_d, asgOk_2, and_assoc, exists_and_left, exists_eq_left', exists_eq_left, true_and, and_true, ex_gD, ex_tN, fLen_gD, fLen_tN, fLen_l, len100, Int.toNat_natCast, Nat.reduceLeDiff, isT_ii, isT_ib, isT_tt, isT_ss, is_integer_eq, is_in_eq, is_list_eq, is_list_tN, is_list_gD, if_true, eq_self, Bool.false_eq_true, if_false, ge1, ge2, one_ne, two_ne, true_implies, unD_append, ex_pair, ex_trip])
      refine r S.length ⟨⟨S, (hj S).mp hS, rfl⟩, fun S' hS' => ?_⟩
      have := hm S' ((hj S').mpr hS')
      omega
theorem sem_least_joining : ∀ ws R, sp_least_joining ws R → t_least_joining { nx := fun _ => R (.d .none), rt := R } (startR ["web", "some", "few", "called"] ws) := by
  rintro _ R ⟨n, g, rfl, o, ⟨S0, hS0⟩, r⟩
  have hn := o.le
  (try simp only [dSeq, dNext, dDrop, dAsg, dAsgG, dRet, dIfS, dPar, dVar, dC, dU, dOp, dTst, dAnd, dOr, dNot, dAndV, dNotV, dChain, dIf, dNil, dCons, dStar, dTup, dLst, dCall, dItL, dItT, dRng1, dRng2, dEnum, gdName, gdTup2, gdTup3, dYes, wipeR, dAppend, dExtend, dPopA, dAugL, dCut, dIsi, dLc_eq, dLc2_eq, dFor, dWhile, fAdd, fSub, fLt, fLe, fGt, fGe, fI2_eq, fNeg_eq, fTuple_nis, fTuple_l, fList_l, fList_tN, fCat_eq, unD_nil, unD_d, startR, List.map_cons, List.map_nil, List.length_cons, List.length_nil, List.replicate, List.cons_append, List.nil_append, Nat.zero_add, Nat.reduceAdd, Nat.reduceSub, List.append_nil, List.getElem?_cons_zero, List.getElem?_cons_succ, List.set_cons_zero, List.set_cons_succ, Option.some.injEq, Prod.mk.injEq, Option.map_some, Option.map_none, W.d.injEq, W.l.injEq, PyData.tuple.injEq, PyData.int.injEq, PyData.bool.injEq, PyData.str.injEq, reduceCtorEq, retOk_d, retOk_1, retOk_2, asgOk_d, asgOk_2, and_assoc, exists_and_left, exists_eq_left', exists_eq_left, true_and, and_true, ex_gD, ex_tN, fLen_gD, fLen_tN, fLen_l, len100, Int.toNat_natCast, Nat.reduceLeDiff, isT_ii, isT_ib, isT_tt, isT_ss, is_integer_eq, is_in_eq, is_list_eq, is_list_tN, is_list_gD, if_true, eq_self, Bool.false_eq_true, if_false, ge1, ge2, one_ne, two_ne, true_implies, unD_append, ex_pair, ex_trip, t_least_joining])
  refine c_need_web o ?_
  refine c_joining_in o fun js hl hj => ?_
  (try simp only [dSeq, dNext, dDrop, dAsg, dAsgG, dRet, dIfS, dPar, dVar, dC, dU, dOp, dTst, dAnd, dOr, dNot, dAndV, dNotV, dChain, dIf, dNil, dCons, dStar, dTup, dLst, dCall, dItL, dItT, dRng1, dRng2, dEnum, gdName, gdTup2, gdTup3, dYes, wipeR, dAppend, dExtend, dPopA, dAugL, dCut, dIsi, dLc_eq, dLc2_eq, dFor, dWhile, fAdd, fSub, fLt, fLe, fGt, fGe, fI2_eq, fNeg_eq, fTuple_nis, fTuple_l, fList_l, fList_tN, fCat_eq, unD_nil, unD_d, startR, List.map_cons, List.map_nil, List.length_cons, List.length_nil, List.replicate, List.cons_append, List.nil_append, Nat.zero_add, Nat.reduceAdd, Nat.reduceSub, List.append_nil, List.getElem?_cons_zero, List.getElem?_cons_succ, List.set_cons_zero, List.set_cons_succ, Option.some.injEq, Prod.mk.injEq, Option.map_some, Option.map_none, W.d.injEq, W.l.injEq, PyData.tuple.injEq, PyData.int.injEq, PyData.bool.injEq, PyData.str.injEq, reduceCtorEq, retOk_d, retOk_1, retOk_2, asgOk_d, asgOk_2, and_assoc, exists_and_left, exists_eq_left', exists_eq_left, true_and, and_true, ex_gD, ex_tN, fLen_gD, fLen_tN, fLen_l, len100, Int.toNat_natCast, Nat.reduceLeDiff, isT_ii, isT_ib, isT_tt, isT_ss, is_integer_eq, is_in_eq, is_list_eq, is_list_tN, is_list_gD, if_true, eq_self, Bool.false_eq_true, if_false, ge1, ge2, one_ne, two_ne, true_implies, unD_append, ex_pair, ex_trip])
  refine ⟨by rw [List.length_map]; omega, ?_⟩
  refine lcT (fun S => nI S.length) (fun a _ b _ => tN_inj) (fun S hS => ?_) ?_
  · (try simp only [dSeq, dNext, dDrop, dAsg, dAsgG, dRet, dIfS, dPar, dVar, dC, dU, dOp, dTst, dAnd, dOr, dNot, dAndV, dNotV, dChain, dIf, dNil, dCons, dStar, dTup, dLst, dCall, dItL, dItT, dRng1, dRng2, dEnum, gdName, gdTup2, gdTup3, dYes, wipeR, dAppend, dExtend, dPopA, dAugL, dCut, dIsi, dLc_eq, dLc2_eq, dFor, dWhile, fAdd, fSub, fLt, fLe, fGt, fGe, fI2_eq, fNeg_eq, fTuple_nis, fTuple_l, fList_l, fList_tN, fCat_eq, unD_nil, unD_d, startR, List.map_cons, List.map_nil, List.length_cons, List.length_nil, List.replicate, List.cons_append, List.nil_append, Nat.zero_add, Nat.reduceAdd, Nat.reduceSub, List.append_nil, List.getElem?_cons_zero, List.getElem?_cons_succ, List.set_cons_zero, List.set_cons_succ, Option.some.injEq, Prod.mk.injEq, Option.map_some, Option.map_none, W.d.injEq, W.l.injEq, PyData.tuple.injEq, PyData.int.injEq, PyData.bool.injEq, PyData.str.injEq, reduceCtorEq, retOk_d, retOk_1, retOk_2, asgOk_d, asgOk_2, and_assoc, exists_and_left, exists_eq_left', exists_eq_left, true_and, and_true, ex_gD, ex_tN, fLen_gD, fLen_tN, fLen_l, len100, Int.toNat_natCast, Nat.reduceLeDiff, isT_ii, isT_ib, isT_tt, isT_ss, is_integer_eq, is_in_eq, is_list_eq, is_list_tN, is_list_gD, if_true, eq_self, Bool.false_eq_true, if_false, ge1, ge2, one_ne, two_ne, true_implies, unD_append, ex_pair, ex_trip])
  · refine min_int (f := fun S : List Nat => (S.length : Int)) (fun e => ?_) fun S hS hm => ?_
    · have := (hj S0).mpr hS0
      rw [e] at this
      cases this
    · (try simp only [dSeq, dNext, dDrop, dAsg, dAsgG, dRet, dIfS, dPar, dVar, dC, dU, dOp, dTst, dAnd, dOr, dNot, dAndV, dNotV, dChain, dIf, dNil, dCons, dStar, dTup, dLst, dCall, dItL, dItT, dRng1, dRng2, dEnum, gdName, gdTup2, gdTup3, dYes, wipeR, dAppend, dExtend, dPopA, dAugL, dCut, dIsi, dLc_eq, dLc2_eq, dFor, dWhile, fAdd, fSub, fLt, fLe, fGt, fGe, fI2_eq, fNeg_eq, fTuple_nis, fTuple_l, fList_l, fList_tN, fCat_eq, unD_nil, unD_d, startR, List.map_cons, List.map_nil, List.length_cons, List.length_nil, List.replicate, List.cons_append, List.nil_append, Nat.zero_add, Nat.reduceAdd, Nat.reduceSub, List.append_nil, List.getElem?_cons_zero, List.getElem?_cons_succ, List.set_cons_zero, List.set_cons_succ, Option.some.injEq, Prod.mk.injEq, Option.map_some, Option.map_none, W.d.injEq, W.l.injEq, PyData.tuple.injEq, PyData.int.injEq, PyData.bool.injEq, PyData.str.injEq, reduceCtorEq, retOk_d, retOk_1, retOk_2, asgOk_d, asgOk_2, and_assoc, exists_and_left, exists_eq_left', exists_eq_left, true_and, and_true, ex_gD, ex_tN, fLen_gD, fLen_tN, fLen_l, len100, Int.toNat_natCast, Nat.reduceLeDiff, isT_ii, isT_ib, isT_tt, isT_ss, is_integer_eq, is_in_eq, is_list_eq, is_list_tN, is_list_gD, if_true, eq_self, Bool.false_eq_true, if_false, ge1, ge2, one_ne, two_ne, true_implies, unD_append, ex_pair, ex_trip])
      refine ⟨by rw [List.length_map]; omega, ?_⟩
      have few : IsFew n g S.length := ⟨⟨S, (hj S).mp hS, rfl⟩, fun S' hS' => by
        have := hm S' ((hj S').mpr hS')
        omega⟩
      refine lcM (fun S' => decide ((S'.length : Int) = (S.length : Int))) tN (fun a _ b _ => tN_inj) (fun S' hS' => ?_) ?_
      · (try simp only [dSeq, dNext, dDrop, dAsg, dAsgG, dRet, dIfS, dPar, dVar, dC, dU, dOp, dTst, dAnd, dOr, dNot, dAndV, dNotV, dChain, dIf, dNil, dCons, dStar, dTup, dLst, dCall, dItL, dItT, dRng1, dRng2, dEnum, gdName, gdTup2, gdTup3, dYes, wipeR, dAppend, dExtend, dPopA, dAugL, dCut, dIsi, dLc_eq, dLc2_eq, dFor, dWhile, fAdd, fSub, fLt, fLe, fGt, fGe, fI2_eq, fNeg_eq, fTuple_nis, fTuple_l, fList_l, fList_tN, fCat_eq, unD_nil, unD_d, startR, List.map_cons, List.map_nil, List.length_cons, List.length_nil, List.replicate, List.cons_append, List.nil_append, Nat.zero_add, Nat.reduceAdd, Nat.reduceSub, List.append_nil, List.getElem?_cons_zero, List.getElem?_cons_succ, List.set_cons_zero, List.set_cons_succ, Option.some.injEq, Prod.mk.injEq, Option.map_some, Option.map_none, W.d.injEq, W.l.injEq, PyData.tuple.injEq, PyData.int.injEq, PyData.bool.injEq, PyData.str.injEq, reduceCtorEq, retOk_d, retOk_1, retOk_2, asgOk_d, asgOk_2, and_assoc, exists_and_left, exists_eq_left', exists_eq_left, true_and, and_true, ex_gD, ex_tN, fLen_gD, fLen_tN, fLen_l, len100, Int.toNat_natCast, Nat.reduceLeDiff, isT_ii, isT_ib, isT_tt, isT_ss, is_integer_eq, is_in_eq, is_list_eq, is_list_tN, is_list_gD, if_true, eq_self, Bool.false_eq_true, if_false, ge1, ge2, one_ne, two_ne, true_implies, unD_append, ex_pair, ex_trip, fEq_int])
        intro _
        trivial
      · (try simp only [dSeq, dNext, dDrop, dAsg, dAsgG, dRet, dIfS, dPar, dVar, dC, dU, dOp, dTst, dAnd, dOr, dNot, dAndV, dNotV, dChain, dIf, dNil, dCons, dStar, dTup, dLst, dCall, dItL, dItT, dRng1, dRng2, dEnum, gdName, gdTup2, gdTup3, dYes, wipeR, dAppend, dExtend, dPopA, dAugL, dCut, dIsi, dLc_eq, dLc2_eq, dFor, dWhile, fAdd, fSub, fLt, fLe, fGt, fGe, fI2_eq, fNeg_eq, fTuple_nis, fTuple_l, fList_l, fList_tN, fCat_eq, unD_nil, unD_d, startR, List.map_cons, List.map_nil, List.length_cons, List.length_nil, List.replicate, List.cons_append, List.nil_append, Nat.zero_add, Nat.reduceAdd, Nat.reduceSub, List.append_nil, List.getElem?_cons_zero, List.getElem?_cons_succ, List.set_cons_zero, List.set_cons_succ, Option.some.injEq, Prod.mk.injEq, Option.map_some, Option.map_none, W.d.injEq, W.l.injEq, PyData.tuple.injEq, PyData.int.injEq, PyData.bool.injEq, PyData.str.injEq, reduceCtorEq, retOk_d, retOk_1, retOk_2, asgOk_d, asgOk_2, and_assoc, exists_and_left, exists_eq_left', exists_eq_left, true_and, and_true, ex_gD, ex_tN, fLen_gD, fLen_tN, fLen_l, len100, Int.toNat_natCast, Nat.reduceLeDiff, isT_ii, isT_ib, isT_tt, isT_ss, is_integer_eq, is_in_eq, is_list_eq, is_list_tN, is_list_gD, if_true, eq_self, Bool.false_eq_true, if_false, ge1, ge2, one_ne, two_ne, true_implies, unD_append, ex_pair, ex_trip])
        refine r _ (Nat.le_trans (List.length_filter_le _ _) hl) fun S' hS' => ?_
        obtain ⟨h1, h2⟩ := List.mem_filter.mp hS'
        have h3 := of_decide_eq_true h2
        refine ⟨(hj S').mp h1, ?_⟩
        rw [show S'.length = S.length by omega]
        exact few
end Wk

/-! part SemH -/
set_option Elab.async false
set_option linter.all false
set_option maxRecDepth 100000
set_option maxHeartbeats 4000000
namespace Gg
theorem grp_eq {n : Nat} {g : Adj} {i j : Nat} (o : Ok n g) (h : Ch g All i j) : grp n g i = grp n g j := by
  unfold grp
  refine List.filter_congr fun x _ => decide_eq_decide.mpr ⟨fun k => ?_, fun k => ?_⟩
  · exact (h.symm o).join (show All i from trivial) k
  · exact h.join (show All j from trivial) k
open Classical in
theorem cut_of {n : Nat} {g : Adj} {p : Nat} (o : Ok n g) (hp : p < n) {gs gs' : List (List Nat)} (nd' : gs'.Nodup) (h : ∀ S, S ∈ gs ↔ ∃ q, q < n ∧ S = grp n g q) (h' : ∀ S, S ∈ gs' ↔ ∃ q, q < n ∧ S = grp n (cutG g p) q)
    (lt : gs.length + 1 < gs'.length) : CutV n g p := by
  by_cases c : CutV n g p
  · exact c
  exfalso
  have key : ∀ i j, i ≠ p → j ≠ p → i < n → Ch g All i j → Ch (cutG g p) All i j := fun i j hi hj li a => by
    by_cases q : Ch (cutG g p) All i j
    · exact q
    · exact absurd ⟨hp, i, j, hi, hj, li, a, q⟩ c
  let L := gs'.erase (grp n (cutG g p) p)
  have ndL : L.Nodup := nd'.erase _
  have mL : ∀ S ∈ L, ∃ i, i < n ∧ i ≠ p ∧ S = grp n (cutG g p) i := fun S hS => by
    obtain ⟨ne, hm⟩ := nd'.mem_erase_iff.mp hS
    obtain ⟨i, hi, e⟩ := (h' S).mp hm
    exact ⟨i, hi, fun z => ne (by rw [e, z]), e⟩
  let f : List Nat → List Nat := fun S => if q : ∃ i, i < n ∧ i ≠ p ∧ S = grp n (cutG g p) i then grp n g q.choose else []
  have hf : ∀ S ∈ L, ∃ i, i < n ∧ i ≠ p ∧ S = grp n (cutG g p) i ∧ f S = grp n g i := fun S hS => by
    have q := mL S hS
    refine ⟨q.choose, q.choose_spec.1, q.choose_spec.2.1, q.choose_spec.2.2, ?_⟩
    show (if q : ∃ i, i < n ∧ i ≠ p ∧ S = grp n (cutG g p) i then grp n g q.choose else []) = _
    rw [dif_pos q]
  have nd2 : (L.map f).Nodup := by
    unfold List.Nodup
    rw [List.pairwise_map]
    refine List.Pairwise.imp_of_mem (fun {S T} hS hT ne e => ?_) ndL
    obtain ⟨i, hi, ip, eS, fS⟩ := hf S hS
    obtain ⟨j, hj, jp, eT, fT⟩ := hf T hT
    rw [fS, fT] at e
    have hm : j ∈ grp n g i := by
      rw [e]
      unfold grp
      simp only [List.mem_filter, List.mem_range, decide_eq_true_eq]
      exact ⟨hj, .here⟩
    unfold grp at hm
    simp only [List.mem_filter, List.mem_range, decide_eq_true_eq] at hm
    exact ne (by rw [eS, eT, grp_eq (o.cut p) (key i j ip jp hi hm.2)])
  have sub := List.Nodup.length_le_of_subset nd2 (l₂ := gs) fun S hS => by
    obtain ⟨T, hT, rfl⟩ := List.mem_map.mp hS
    obtain ⟨i, hi, _, _, fT⟩ := hf T hT
    exact (h _).mpr ⟨i, hi, fT⟩
  rw [List.length_map] at sub
  have hmem : grp n (cutG g p) p ∈ gs' := (h' _).mpr ⟨p, hp, rfl⟩
  have len : L.length = gs'.length - 1 := List.length_erase_of_mem hmem
  omega
end Gg
namespace Wk
open PySem PySem.Spec PyProof.Rows L2 Dw Gg
theorem fNe_t {a : List Nat} {k : W → Prop} : fNe (.d (tN a)) (.d (.tuple [])) k = k (.d (.bool (!decide (a = [])))) := by
  have h := eqv_tN a []
  show (SeqAt.shaped (tN a) = true ∧ SeqAt.shaped (.tuple []) = true ∧ k (.d (.bool (!PyData.eqv (tN a) (.tuple []))))) = _
  rw [(sh_tN a).ok, shaped_tnil, show PyData.eqv (tN a) (.tuple []) = decide (a = []) from h]
  simp
theorem sem_cut_in : ∀ ws R, sp_cut_in ws R → t_cut_in { nx := fun _ => R (.d .none), rt := R } (startR ["web", "many", "found", "person"] ws) := by
  rintro _ R ⟨n, g, rfl, o, r⟩
  have hn := o.le
  (try simp only [dSeq, dNext, dDrop, dAsg, dAsgG, dRet, dIfS, dPar, dVar, dC, dU, dOp, dTst, dAnd, dOr, dNot, dAndV, dNotV, dChain, dIf, dNil, dCons, dStar, dTup, dLst, dCall, dItL, dItT, dRng1, dRng2, dEnum, gdName, gdTup2, gdTup3, dYes, wipeR, dAppend, dExtend, dPopA, dAugL, dCut, dIsi, dLc_eq, dLc2_eq, dFor, dWhile, fAdd, fSub, fLt, fLe, fGt, fGe, fI2_eq, fNeg_eq, fTuple_nis, fTuple_l, fList_l, fList_tN, fCat_eq, unD_nil, unD_d, startR, List.map_cons, List.map_nil, List.length_cons, List.length_nil, List.replicate, List.cons_append, List.nil_append, Nat.zero_add, Nat.reduceAdd, Nat.reduceSub, List.append_nil, List.getElem?_cons_zero, List.getElem?_cons_succ, List.set_cons_zero, List.set_cons_succ, Option.some.injEq, Prod.mk.injEq, Option.map_some, Option.map_none, W.d.injEq, W.l.injEq, PyData.tuple.injEq, PyData.int.injEq, PyData.bool.injEq, PyData.str.injEq, reduceCtorEq, retOk_d, retOk_1, retOk_2, asgOk_d, asgOk_2, and_assoc, exists_and_left, exists_eq_left', exists_eq_left, true_and, and_true, ex_gD, ex_tN, fLen_gD, fLen_tN, fLen_l, len100, Int.toNat_natCast, Nat.reduceLeDiff, isT_ii, isT_ib, isT_tt, isT_ss, is_integer_eq, is_in_eq, is_list_eq, is_list_tN, is_list_gD, if_true, eq_self, Bool.false_eq_true, if_false, ge1, ge2, one_ne, two_ne, true_implies, unD_append, ex_pair, ex_trip, t_cut_in])
  refine c_groups_in o fun gs nd hgs => ?_
  (try simp only [dSeq, dNext, dDrop, dAsg, dAsgG, dRet, dIfS, dPar, dVar, dC, dU, dOp, dTst, dAnd, dOr, dNot, dAndV, dNotV, dChain, dIf, dNil, dCons, dStar, dTup, dLst, dCall, dItL, dItT, dRng1, dRng2, dEnum, gdName, gdTup2, gdTup3, dYes, wipeR, dAppend, dExtend, dPopA, dAugL, dCut, dIsi, dLc_eq, dLc2_eq, dFor, dWhile, fAdd, fSub, fLt, fLe, fGt, fGe, fI2_eq, fNeg_eq, fTuple_nis, fTuple_l, fList_l, fList_tN, fCat_eq, unD_nil, unD_d, startR, List.map_cons, List.map_nil, List.length_cons, List.length_nil, List.replicate, List.cons_append, List.nil_append, Nat.zero_add, Nat.reduceAdd, Nat.reduceSub, List.append_nil, List.getElem?_cons_zero, List.getElem?_cons_succ, List.set_cons_zero, List.set_cons_succ, Option.some.injEq, Prod.mk.injEq, Option.map_some, Option.map_none, W.d.injEq, W.l.injEq, PyData.tuple.injEq, PyData.int.injEq, PyData.bool.injEq, PyData.str.injEq, reduceCtorEq, retOk_d, retOk_1, retOk_2, asgOk_d, asgOk_2, and_assoc, exists_and_left, exists_eq_left', exists_eq_left, true_and, and_true, ex_gD, ex_tN, fLen_gD, fLen_tN, fLen_l, len100, Int.toNat_natCast, Nat.reduceLeDiff, isT_ii, isT_ib, isT_tt, isT_ss, is_integer_eq, is_in_eq, is_list_eq, is_list_tN, is_list_gD, if_true, eq_self, Bool.false_eq_true, if_false, ge1, ge2, one_ne, two_ne, true_implies, unD_append, ex_pair, ex_trip, List.length_map])
  refine ⟨by omega, by omega, fun i ρ' => ∃ (ms : List Nat) (a : Option (W × Bool)), (ms.length ≤ i ∧ ∀ p ∈ ms, CutV n g p) ∧ ρ' = [some (.d (gD n g), false), some (.d (nI gs.length), true), some (.l (nis ms), true), a], ⟨[], none, ⟨Nat.le_refl _, fun p hp => by cases hp⟩, rfl⟩, ?_, ?_⟩
  · rintro i x _ hx ⟨ms, a, ⟨hl, hm⟩, rfl⟩
    obtain ⟨rfl, hi⟩ := rng_nat hx
    (try simp only [dSeq, dNext, dDrop, dAsg, dAsgG, dRet, dIfS, dPar, dVar, dC, dU, dOp, dTst, dAnd, dOr, dNot, dAndV, dNotV, dChain, dIf, dNil, dCons, dStar, dTup, dLst, dCall, dItL, dItT, dRng1, dRng2, dEnum, gdName, gdTup2, gdTup3, dYes, wipeR, dAppend, dExtend, dPopA, dAugL, dCut, dIsi, dLc_eq, dLc2_eq, dFor, dWhile, fAdd, fSub, fLt, fLe, fGt, fGe, fI2_eq, fNeg_eq, fTuple_nis, fTuple_l, fList_l, fList_tN, fCat_eq, unD_nil, unD_d, startR, List.map_cons, List.map_nil, List.length_cons, List.length_nil, List.replicate, List.cons_append, List.nil_append, Nat.zero_add, Nat.reduceAdd, Nat.reduceSub, List.append_nil, List.getElem?_cons_zero, List.getElem?_cons_succ, List.set_cons_zero, List.set_cons_succ, Option.some.injEq, Prod.mk.injEq, Option.map_some, Option.map_none, W.d.injEq, W.l.injEq, PyData.tuple.injEq, PyData.int.injEq, PyData.bool.injEq, PyData.str.injEq, reduceCtorEq, retOk_d, retOk_1, retOk_2, asgOk_d, asgOk_2, and_assoc, exists_and_left, exists_eq_left', exists_eq_left, true_and, and_true, ex_gD, ex_tN, fLen_gD, fLen_tN, fLen_l, len100, Int.toNat_natCast, Nat.reduceLeDiff, isT_ii, isT_ib, isT_tt, isT_ss, is_integer_eq, is_in_eq, is_list_eq, is_list_tN, is_list_gD, if_true, eq_self, Bool.false_eq_true, if_false, ge1, ge2, one_ne, two_ne, true_implies, unD_append, ex_pair, ex_trip])
    refine ix_gD hi ?_
    (try simp only [dSeq, dNext, dDrop, dAsg, dAsgG, dRet, dIfS, dPar, dVar, dC, dU, dOp, dTst, dAnd, dOr, dNot, dAndV, dNotV, dChain, dIf, dNil, dCons, dStar, dTup, dLst, dCall, dItL, dItT, dRng1, dRng2, dEnum, gdName, gdTup2, gdTup3, dYes, wipeR, dAppend, dExtend, dPopA, dAugL, dCut, dIsi, dLc_eq, dLc2_eq, dFor, dWhile, fAdd, fSub, fLt, fLe, fGt, fGe, fI2_eq, fNeg_eq, fTuple_nis, fTuple_l, fList_l, fList_tN, fCat_eq, unD_nil, unD_d, startR, List.map_cons, List.map_nil, List.length_cons, List.length_nil, List.replicate, List.cons_append, List.nil_append, Nat.zero_add, Nat.reduceAdd, Nat.reduceSub, List.append_nil, List.getElem?_cons_zero, List.getElem?_cons_succ, List.set_cons_zero, List.set_cons_succ, Option.some.injEq, Prod.mk.injEq, Option.map_some, Option.map_none, W.d.injEq, W.l.injEq, PyData.tuple.injEq, PyData.int.injEq, PyData.bool.injEq, PyData.str.injEq, reduceCtorEq, retOk_d, retOk_1, retOk_2, asgOk_d, asgOk_2, and_assoc, exists_and_left, exists_eq_left', exists_eq_left, true_and, and_true, ex_gD, ex_tN, fLen_gD, fLen_tN, fLen_l, len100, Int.toNat_natCast, Nat.reduceLeDiff, isT_ii, isT_ib, isT_tt, isT_ss, is_integer_eq, is_in_eq, is_list_eq, is_list_tN, is_list_gD, if_true, eq_self, Bool.false_eq_true, if_false, ge1, ge2, one_ne, two_ne, true_implies, unD_append, ex_pair, ex_trip, fNe_t])
    have skip : ∃ (ms' : List Nat), ms'.length ≤ i + 1 ∧ (∀ p, p ∈ ms' → CutV n g p) ∧ ∃ x, [some (W.d (gD n g), false), some (W.d (nI gs.length), true), some (W.l (nis ms), true), some (W.d (nI i), true)] = [some (W.d (gD n g), false), some (W.d (nI gs.length), true), some (W.l (nis ms'), true), x] := ⟨ms, by omega, hm, _, rfl⟩
    by_cases h : frs n g i = []
    · (try simp only [dSeq, dNext, dDrop, dAsg, dAsgG, dRet, dIfS, dPar, dVar, dC, dU, dOp, dTst, dAnd, dOr, dNot, dAndV, dNotV, dChain, dIf, dNil, dCons, dStar, dTup, dLst, dCall, dItL, dItT, dRng1, dRng2, dEnum, gdName, gdTup2, gdTup3, dYes, wipeR, dAppend, dExtend, dPopA, dAugL, dCut, dIsi, dLc_eq, dLc2_eq, dFor, dWhile, fAdd, fSub, fLt, fLe, fGt, fGe, fI2_eq, fNeg_eq, fTuple_nis, fTuple_l, fList_l, fList_tN, fCat_eq, unD_nil, unD_d, startR, List.map_cons, List.map_nil, List.length_cons, List.length_nil, List.replicate, List.cons_append, List.nil_append, Nat.zero_add, Nat.reduceAdd, Nat.reduceSub, List.append_nil, List.getElem?_cons_zero, List.getElem?_cons_succ, List.set_cons_zero, List.set_cons_succ, Option.some.injEq, Prod.mk.injEq, Option.map_some, Option.map_none, W.d.injEq, W.l.injEq, PyData.tuple.injEq, PyData.int.injEq, PyData.bool.injEq, PyData.str.injEq, reduceCtorEq, retOk_d, retOk_1, retOk_2, asgOk_d, asgOk_2, and_assoc, exists_and_left, exists_eq_left', exists_eq_left, true_and, and_true, ex_gD, ex_tN, fLen_gD, fLen_tN, fLen_l, len100, Int.toNat_natCast, Nat.reduceLeDiff, isT_ii, isT_ib, isT_tt, isT_ss, is_integer_eq, is_in_eq, is_list_eq, is_list_tN, is_list_gD, if_true, eq_self, Bool.false_eq_true, if_false, ge1, ge2, one_ne, two_ne, true_implies, unD_append, ex_pair, ex_trip, h, decide_true, Bool.not_true])
      exact skip
    · (try simp only [dSeq, dNext, dDrop, dAsg, dAsgG, dRet, dIfS, dPar, dVar, dC, dU, dOp, dTst, dAnd, dOr, dNot, dAndV, dNotV, dChain, dIf, dNil, dCons, dStar, dTup, dLst, dCall, dItL, dItT, dRng1, dRng2, dEnum, gdName, gdTup2, gdTup3, dYes, wipeR, dAppend, dExtend, dPopA, dAugL, dCut, dIsi, dLc_eq, dLc2_eq, dFor, dWhile, fAdd, fSub, fLt, fLe, fGt, fGe, fI2_eq, fNeg_eq, fTuple_nis, fTuple_l, fList_l, fList_tN, fCat_eq, unD_nil, unD_d, startR, List.map_cons, List.map_nil, List.length_cons, List.length_nil, List.replicate, List.cons_append, List.nil_append, Nat.zero_add, Nat.reduceAdd, Nat.reduceSub, List.append_nil, List.getElem?_cons_zero, List.getElem?_cons_succ, List.set_cons_zero, List.set_cons_succ, Option.some.injEq, Prod.mk.injEq, Option.map_some, Option.map_none, W.d.injEq, W.l.injEq, PyData.tuple.injEq, PyData.int.injEq, PyData.bool.injEq, PyData.str.injEq, reduceCtorEq, retOk_d, retOk_1, retOk_2, asgOk_d, asgOk_2, and_assoc, exists_and_left, exists_eq_left', exists_eq_left, true_and, and_true, ex_gD, ex_tN, fLen_gD, fLen_tN, fLen_l, len100, Int.toNat_natCast, Nat.reduceLeDiff, isT_ii, isT_ib, isT_tt, isT_ss, is_integer_eq, is_in_eq, is_list_eq, is_list_tN, is_list_gD, if_true, eq_self, Bool.false_eq_true, if_false, ge1, ge2, one_ne, two_ne, true_implies, unD_append, ex_pair, ex_trip, h, decide_false, Bool.not_false])
      refine c_without o hi ?_
      refine c_groups_in (o.cut i) fun gs' nd' hgs' => ?_
      (try simp only [dSeq, dNext, dDrop, dAsg, dAsgG, dRet, dIfS, dPar, dVar, dC, dU, dOp, dTst, dAnd, dOr, dNot, dAndV, dNotV, dChain, dIf, dNil, dCons, dStar, dTup, dLst, dCall, dItL, dItT, dRng1, dRng2, dEnum, gdName, gdTup2, gdTup3, dYes, wipeR, dAppend, dExtend, dPopA, dAugL, dCut, dIsi, dLc_eq, dLc2_eq, dFor, dWhile, fAdd, fSub, fLt, fLe, fGt, fGe, fI2_eq, fNeg_eq, fTuple_nis, fTuple_l, fList_l, fList_tN, fCat_eq, unD_nil, unD_d, startR, List.map_cons, List.map_nil, List.length_cons, List.length_nil, List.replicate, List.cons_append, List.nil_append, Nat.zero_add, Nat.reduceAdd, Nat.reduceSub, List.append_nil, List.getElem?_cons_zero, List.getElem?_cons_succ, List.set_cons_zero, List.set_cons_succ, Option.some.injEq, Prod.mk.injEq, Option.map_some, Option.map_none, W.d.injEq, W.l.injEq, PyData.tuple.injEq, PyData.int.injEq, PyData.bool.injEq, PyData.str.injEq, reduceCtorEq, retOk_d, retOk_1, retOk_2, asgOk_d, asgOk_2, and_assoc, exists_and_left, exists_eq_left', exists_eq_left, true_and, and_true, ex_gD, ex_tN, fLen_gD, fLen_tN, fLen_l, len100, Int.toNat_natCast, Nat.reduceLeDiff, isT_ii, isT_ib, isT_tt, isT_ss, is_integer_eq, is_in_eq, is_list_eq, is_list_tN, is_list_gD, if_true, eq_self, Bool.false_eq_true, if_false, ge1, ge2, one_ne, two_ne, true_implies, unD_append, ex_pair, ex_trip, List.length_map])
      by_cases q : gs.length + 1 < gs'.length
      · have e : decide ((gs.length : Int) + 1 < (gs'.length : Int)) = true := decide_eq_true (by omega)
        (try simp only [dSeq, dNext, dDrop, dAsg, dAsgG, dRet, dIfS, dPar, dVar, dC, dU, dOp, dTst, dAnd, dOr, dNot, dAndV, dNotV, dChain, dIf, dNil, dCons, dStar, dTup, dLst, dCall, dItL, dItT, dRng1, dRng2, dEnum, gdName, gdTup2, gdTup3, dYes, wipeR, dAppend, dExtend, dPopA, dAugL, dCut, dIsi, dLc_eq, dLc2_eq, dFor, dWhile, fAdd, fSub, fLt, fLe, fGt, fGe, fI2_eq, fNeg_eq, fTuple_nis, fTuple_l, fList_l, fList_tN, fCat_eq, unD_nil, unD_d, startR, List.map_cons, List.map_nil, List.length_cons, List.length_nil, List.replicate, List.cons_append, List.nil_append, Nat.zero_add, Nat.reduceAdd, Nat.reduceSub, List.append_nil, List.getElem?_cons_zero, List.getElem?_cons_succ, List.set_cons_zero, List.set_cons_succ, Option.some.injEq, Prod.mk.injEq, Option.map_some, Option.map_none, W.d.injEq, W.l.injEq, PyData.tuple.injEq, PyData.int.injEq, PyData.bool.injEq, PyData.str.injEq, reduceCtorEq, retOk_d, retOk_1, retOk_2, asgOk_d, asgOk_2, and_assoc, exists_and_left, exists_eq_left', exists_eq_left, true_and, and_true, ex_gD, ex_tN, fLen_gD, fLen_tN, fLen_l, len100, Int.toNat_natCast, Nat.reduceLeDiff, isT_ii, isT_ib, isT_tt, isT_ss, is_integer_eq, is_in_eq, is_list_eq, is_list_tN, is_list_gD, if_true, eq_self, Bool.false_eq_true, if_false, ge1, ge2, one_ne, two_ne, true_implies, unD_append, ex_pair, ex_trip, e])
        refine ⟨by omega, ?_⟩
        rw [nis_app]
        refine ⟨ms ++ [i], by rw [List.length_append, List.length_singleton]; omega, fun p hp => ?_, _, rfl⟩
        rcases List.mem_append.mp hp with hp | hp
        · exact hm p hp
        · rw [List.mem_singleton.mp hp]
          exact cut_of o hi nd' hgs hgs' q
      · have e : decide ((gs.length : Int) + 1 < (gs'.length : Int)) = false := decide_eq_false (by omega)
        (try simp only [dSeq, dNext, dDrop, dAsg, dAsgG, dRet, dIfS, dPar, dVar, dC, dU, dOp, dTst, dAnd, dOr, dNot, dAndV, dNotV, dChain, dIf, dNil, dCons, dStar, dTup, dLst, dCall, dItL, dItT, dRng1, dRng2, dEnum, gdName, gdTup2, gdTup3, dYes, wipeR, dAppend, dExtend, dPopA, dAugL, dCut, dIsi, dLc_eq, dLc2_eq, dFor, dWhile, fAdd, fSub, fLt, fLe, fGt, fGe, fI2_eq, fNeg_eq, fTuple_nis, fTuple_l, fList_l, fList_tN, fCat_eq, unD_nil, unD_d, startR, List.map_cons, List.map_nil, List.length_cons, List.length_nil, List.replicate, List.cons_append, List.nil_append, Nat.zero_add, Nat.reduceAdd, Nat.reduceSub, List.append_nil, List.getElem?_cons_zero, List.getElem?_cons_succ, List.set_cons_zero, List.set_cons_succ, Option.some.injEq, Prod.mk.injEq, Option.map_some, Option.map_none, W.d.injEq, W.l.injEq, PyData.tuple.injEq, PyData.int.injEq, PyData.bool.injEq, PyData.str.injEq, reduceCtorEq, retOk_d, retOk_1, retOk_2, asgOk_d, asgOk_2, and_assoc, exists_and_left, exists_eq_left', exists_eq_left, true_and, and_true, ex_gD, ex_tN, fLen_gD, fLen_tN, fLen_l, len100, Int.toNat_natCast, Nat.reduceLeDiff, isT_ii, isT_ib, isT_tt, isT_ss, is_integer_eq, is_in_eq, is_list_eq, is_list_tN, is_list_gD, if_true, eq_self, Bool.false_eq_true, if_false, ge1, ge2, one_ne, two_ne, true_implies, unD_append, ex_pair, ex_trip, e])
        exact skip
  · rintro _ ⟨ms, a, ⟨hl, hm⟩, rfl⟩
    (try simp only [dSeq, dNext, dDrop, dAsg, dAsgG, dRet, dIfS, dPar, dVar, dC, dU, dOp, dTst, dAnd, dOr, dNot, dAndV, dNotV, dChain, dIf, dNil, dCons, dStar, dTup, dLst, dCall, dItL, dItT, dRng1, dRng2, dEnum, gdName, gdTup2, gdTup3, dYes, wipeR, dAppend, dExtend, dPopA, dAugL, dCut, dIsi, dLc_eq, dLc2_eq, dFor, dWhile, fAdd, fSub, fLt, fLe, fGt, fGe, fI2_eq, fNeg_eq, fTuple_nis, fTuple_l, fList_l, fList_tN, fCat_eq, unD_nil, unD_d, startR, List.map_cons, List.map_nil, List.length_cons, List.length_nil, List.replicate, List.cons_append, List.nil_append, Nat.zero_add, Nat.reduceAdd, Nat.reduceSub, List.append_nil, List.getElem?_cons_zero, List.getElem?_cons_succ, List.set_cons_zero, List.set_cons_succ, Option.some.injEq, Prod.mk.injEq, Option.map_some, Option.map_none, W.d.injEq, W.l.injEq, PyData.tuple.injEq, PyData.int.injEq, PyData.bool.injEq, PyData.str.injEq, reduceCtorEq, retOk_d, retOk_1, retOk_2, asgOk_d, asgOk_2, and_assoc, exists_and_left, exists_eq_left', exists_eq_left, true_and, and_true, ex_gD, ex_tN, fLen_gD, fLen_tN, fLen_l, len100, Int.toNat_natCast, Nat.reduceLeDiff, isT_ii, isT_ib, isT_tt, isT_ss, is_integer_eq, is_in_eq, is_list_eq, is_list_tN, is_list_gD, if_true, eq_self, Bool.false_eq_true, if_false, ge1, ge2, one_ne, two_ne, true_implies, unD_append, ex_pair, ex_trip])
    rw [rng_len] at hl
    exact r ms hl hm
end Wk

/-! part SemI -/
set_option Elab.async false
set_option linter.all false
set_option maxRecDepth 100000
set_option maxHeartbeats 4000000
namespace Wk
open PySem PySem.Spec PyProof.Rows L2 Dw Gg
theorem rule_lay : ∀ r ∈ rulesL, PySem.PyData.canLay0 (.str r) = true := by
  intro r hr
  unfold rulesL at hr
  simp only [List.mem_cons, List.not_mem_nil, or_false] at hr
  rcases hr with rfl | rfl | rfl | rfl | rfl | rfl <;> decide +kernel
theorem sh_rule {r : Str} (hr : r ∈ rulesL) : Sh 0 (.str r) := ⟨rule_lay r hr, by simp [PyData.depth]⟩
theorem fEq_rule {r s : Str} (hr : r ∈ rulesL) (hs : s ∈ rulesL) {k : W → Prop} : fEq (.d (.str r)) (.d (.str s)) k = k (.d (.bool (decide (r = s)))) := by
  show (SeqAt.shaped (.str r) = true ∧ SeqAt.shaped (.str s) = true ∧ k (.d (.bool (PyData.eqv (.str r) (.str s))))) = _
  rw [(sh_rule hr).ok, (sh_rule hs).ok, eqv_str]
  simp
theorem min_lex {key : Nat → Int} {l : List Nat} {k : W → Prop} (hl : l ≠ []) (h : ∀ p, LexMin key l p → k (.d (.tuple [.int (key p), nI p]))) : fMin (.l (l.map fun p => .tuple [.int (key p), nI p])) k := by
  refine min_ii hl (fun a _ => ⟨_, _, rfl⟩) fun p hp hm => h p ⟨hp, fun q hq => ?_⟩
  have := hm q hq
  simp only [fstI, sndI] at this
  omega
theorem movs_lt (n : Nat) (g : Adj) : (movs n g).Pairwise (· < ·) := (range_lt n).filter _
theorem movs_len (n : Nat) (g : Adj) : (movs n g).length ≤ n := filter_range_len _ n
theorem sem_next_in : ∀ ws R, sp_next_in ws R → t_next_in { nx := fun _ => R (.d .none), rt := R } (startR ["web", "rule", "some", "person"] ws) := by
  rintro _ R ⟨n, g, s, rfl, o, hr, ⟨q0, hq0, mq0⟩, r⟩
  have hn := o.le
  have hne : movs n g ≠ [] := fun e => by
    have := mem_movs.mpr ⟨hq0, mq0⟩
    rw [e] at this
    cases this
  have hml := movs_len n g
  have no : ∀ {a b : PySem.Str}, s = a → (a = b → False) → ∀ {P : Prop}, s = b → P := fun h1 h2 P h3 => (h2 (h1.symm.trans h3)).elim
  (try simp only [dSeq, dNext, dDrop, dAsg, dAsgG, dRet, dIfS, dPar, dVar, dC, dU, dOp, dTst, dAnd, dOr, dNot, dAndV, dNotV, dChain, dIf, dNil, dCons, dStar, dTup, dLst, dCall, dItL, dItT, dRng1, dRng2, dEnum, gdName, gdTup2, gdTup3, dYes, wipeR, dAppend, dExtend, dPopA, dAugL, dCut, dIsi, dLc_eq, dLc2_eq, dFor, dWhile, fAdd, fSub, fLt, fLe, fGt, fGe, fI2_eq, fNeg_eq, fTuple_nis, fTuple_l, fList_l, fList_tN, fCat_eq, unD_nil, unD_d, startR, List.map_cons, List.map_nil, List.length_cons, List.length_nil, List.replicate, List.cons_append, List.nil_append, Nat.zero_add, Nat.reduceAdd, Nat.reduceSub, List.append_nil, List.getElem?_cons_zero, List.getElem?_cons_succ, List.set_cons_zero, List.set_cons_succ, Option.some.injEq, Prod.mk.injEq, Option.map_some, Option.map_none, W.d.injEq, W.l.injEq, PyData.tuple.injEq, PyData.int.injEq, PyData.bool.injEq, PyData.str.injEq, reduceCtorEq, retOk_d, retOk_1, retOk_2, asgOk_d, asgOk_2, and_assoc, exists_and_left, exists_eq_left', exists_eq_left, true_and, and_true, ex_gD, ex_tN, fLen_gD, fLen_tN, fLen_l, len100, Int.toNat_natCast, Nat.reduceLeDiff, isT_ii, isT_ib, isT_tt, isT_ss, is_integer_eq, is_in_eq, is_list_eq, is_list_tN, is_list_gD, if_true, eq_self, Bool.false_eq_true, if_false, ge1, ge2, one_ne, two_ne, true_implies, unD_append, ex_pair, ex_trip, t_next_in])
  refine c_movers_in o ?_
  (try simp only [dSeq, dNext, dDrop, dAsg, dAsgG, dRet, dIfS, dPar, dVar, dC, dU, dOp, dTst, dAnd, dOr, dNot, dAndV, dNotV, dChain, dIf, dNil, dCons, dStar, dTup, dLst, dCall, dItL, dItT, dRng1, dRng2, dEnum, gdName, gdTup2, gdTup3, dYes, wipeR, dAppend, dExtend, dPopA, dAugL, dCut, dIsi, dLc_eq, dLc2_eq, dFor, dWhile, fAdd, fSub, fLt, fLe, fGt, fGe, fI2_eq, fNeg_eq, fTuple_nis, fTuple_l, fList_l, fList_tN, fCat_eq, unD_nil, unD_d, startR, List.map_cons, List.map_nil, List.length_cons, List.length_nil, List.replicate, List.cons_append, List.nil_append, Nat.zero_add, Nat.reduceAdd, Nat.reduceSub, List.append_nil, List.getElem?_cons_zero, List.getElem?_cons_succ, List.set_cons_zero, List.set_cons_succ, Option.some.injEq, Prod.mk.injEq, Option.map_some, Option.map_none, W.d.injEq, W.l.injEq, PyData.tuple.injEq, PyData.int.injEq, PyData.bool.injEq, PyData.str.injEq, reduceCtorEq, retOk_d, retOk_1, retOk_2, asgOk_d, asgOk_2, and_assoc, exists_and_left, exists_eq_left', exists_eq_left, true_and, and_true, ex_gD, ex_tN, fLen_gD, fLen_tN, fLen_l, len100, Int.toNat_natCast, Nat.reduceLeDiff, isT_ii, isT_ib, isT_tt, isT_ss, is_integer_eq, is_in_eq, is_list_eq, is_list_tN, is_list_gD, if_true, eq_self, Bool.false_eq_true, if_false, ge1, ge2, one_ne, two_ne, true_implies, unD_append, ex_pair, ex_trip])
  rw [fEq_rule hr (by decide +kernel : sMany ∈ rulesL)]
  (try simp only [dSeq, dNext, dDrop, dAsg, dAsgG, dRet, dIfS, dPar, dVar, dC, dU, dOp, dTst, dAnd, dOr, dNot, dAndV, dNotV, dChain, dIf, dNil, dCons, dStar, dTup, dLst, dCall, dItL, dItT, dRng1, dRng2, dEnum, gdName, gdTup2, gdTup3, dYes, wipeR, dAppend, dExtend, dPopA, dAugL, dCut, dIsi, dLc_eq, dLc2_eq, dFor, dWhile, fAdd, fSub, fLt, fLe, fGt, fGe, fI2_eq, fNeg_eq, fTuple_nis, fTuple_l, fList_l, fList_tN, fCat_eq, unD_nil, unD_d, startR, List.map_cons, List.map_nil, List.length_cons, List.length_nil, List.replicate, List.cons_append, List.nil_append, Nat.zero_add, Nat.reduceAdd, Nat.reduceSub, List.append_nil, List.getElem?_cons_zero, List.getElem?_cons_succ, List.set_cons_zero, List.set_cons_succ, Option.some.injEq, Prod.mk.injEq, Option.map_some, Option.map_none, W.d.injEq, W.l.injEq, PyData.tuple.injEq, PyData.int.injEq, PyData.bool.injEq, PyData.str.injEq, reduceCtorEq, retOk_d, retOk_1, retOk_2, asgOk_d, asgOk_2, and_assoc, exists_and_left, exists_eq_left', exists_eq_left, true_and, and_true, ex_gD, ex_tN, fLen_gD, fLen_tN, fLen_l, len100, Int.toNat_natCast, Nat.reduceLeDiff, isT_ii, isT_ib, isT_tt, isT_ss, is_integer_eq, is_in_eq, is_list_eq, is_list_tN, is_list_gD, if_true, eq_self, Bool.false_eq_true, if_false, ge1, ge2, one_ne, two_ne, true_implies, unD_append, ex_pair, ex_trip])
  by_cases h : s = sMany
  · (try simp only [dSeq, dNext, dDrop, dAsg, dAsgG, dRet, dIfS, dPar, dVar, dC, dU, dOp, dTst, dAnd, dOr, dNot, dAndV, dNotV, dChain, dIf, dNil, dCons, dStar, dTup, dLst, dCall, dItL, dItT, dRng1, dRng2, dEnum, gdName, gdTup2, gdTup3, dYes, wipeR, dAppend, dExtend, dPopA, dAugL, dCut, dIsi, dLc_eq, dLc2_eq, dFor, dWhile, fAdd, fSub, fLt, fLe, fGt, fGe, fI2_eq, fNeg_eq, fTuple_nis, fTuple_l, fList_l, fList_tN, fCat_eq, unD_nil, unD_d, startR, List.map_cons, List.map_nil, List.length_cons, List.length_nil, List.replicate, List.cons_append, List.nil_append, Nat.zero_add, Nat.reduceAdd, Nat.reduceSub, List.append_nil, List.getElem?_cons_zero, List.getElem?_cons_succ, List.set_cons_zero, List.set_cons_succ, Option.some.injEq, Prod.mk.injEq, Option.map_some, Option.map_none, W.d.injEq, W.l.injEq, PyData.tuple.injEq, PyData.int.injEq, PyData.bool.injEq, PyData.str.injEq, reduceCtorEq, retOk_d, retOk_1, retOk_2, asgOk_d, asgOk_2, and_assoc, exists_and_left, exists_eq_left', exists_eq_left, true_and, and_true, ex_gD, ex_tN, fLen_gD, fLen_tN, fLen_l, len100, Int.toNat_natCast, Nat.reduceLeDiff, isT_ii, isT_ib, isT_tt, isT_ss, is_integer_eq, is_in_eq, is_list_eq, is_list_tN, is_list_gD, if_true, eq_self, Bool.false_eq_true, if_false, ge1, ge2, one_ne, two_ne, true_implies, unD_append, ex_pair, ex_trip, decide_eq_true h])
    refine ⟨by rw [nis_len]; omega, ?_⟩
    refine lcT (fun p => .tuple [.int (-(cnt n (callG g p) : Int)), nI p]) (fun a _ b _ => nI_inj) (fun p hp => ?_) ?_
    · (try simp only [dSeq, dNext, dDrop, dAsg, dAsgG, dRet, dIfS, dPar, dVar, dC, dU, dOp, dTst, dAnd, dOr, dNot, dAndV, dNotV, dChain, dIf, dNil, dCons, dStar, dTup, dLst, dCall, dItL, dItT, dRng1, dRng2, dEnum, gdName, gdTup2, gdTup3, dYes, wipeR, dAppend, dExtend, dPopA, dAugL, dCut, dIsi, dLc_eq, dLc2_eq, dFor, dWhile, fAdd, fSub, fLt, fLe, fGt, fGe, fI2_eq, fNeg_eq, fTuple_nis, fTuple_l, fList_l, fList_tN, fCat_eq, unD_nil, unD_d, startR, List.map_cons, List.map_nil, List.length_cons, List.length_nil, List.replicate, List.cons_append, List.nil_append, Nat.zero_add, Nat.reduceAdd, Nat.reduceSub, List.append_nil, List.getElem?_cons_zero, List.getElem?_cons_succ, List.set_cons_zero, List.set_cons_succ, Option.some.injEq, Prod.mk.injEq, Option.map_some, Option.map_none, W.d.injEq, W.l.injEq, PyData.tuple.injEq, PyData.int.injEq, PyData.bool.injEq, PyData.str.injEq, reduceCtorEq, retOk_d, retOk_1, retOk_2, asgOk_d, asgOk_2, and_assoc, exists_and_left, exists_eq_left', exists_eq_left, true_and, and_true, ex_gD, ex_tN, fLen_gD, fLen_tN, fLen_l, len100, Int.toNat_natCast, Nat.reduceLeDiff, isT_ii, isT_ib, isT_tt, isT_ss, is_integer_eq, is_in_eq, is_list_eq, is_list_tN, is_list_gD, if_true, eq_self, Bool.false_eq_true, if_false, ge1, ge2, one_ne, two_ne, true_implies, unD_append, ex_pair, ex_trip])
      refine c_call_in o (mem_movs.mp hp).1 ?_
      refine c_pairs_in (o.call p) ?_
      (try simp only [dSeq, dNext, dDrop, dAsg, dAsgG, dRet, dIfS, dPar, dVar, dC, dU, dOp, dTst, dAnd, dOr, dNot, dAndV, dNotV, dChain, dIf, dNil, dCons, dStar, dTup, dLst, dCall, dItL, dItT, dRng1, dRng2, dEnum, gdName, gdTup2, gdTup3, dYes, wipeR, dAppend, dExtend, dPopA, dAugL, dCut, dIsi, dLc_eq, dLc2_eq, dFor, dWhile, fAdd, fSub, fLt, fLe, fGt, fGe, fI2_eq, fNeg_eq, fTuple_nis, fTuple_l, fList_l, fList_tN, fCat_eq, unD_nil, unD_d, startR, List.map_cons, List.map_nil, List.length_cons, List.length_nil, List.replicate, List.cons_append, List.nil_append, Nat.zero_add, Nat.reduceAdd, Nat.reduceSub, List.append_nil, List.getElem?_cons_zero, List.getElem?_cons_succ, List.set_cons_zero, List.set_cons_succ, Option.some.injEq, Prod.mk.injEq, Option.map_some, Option.map_none, W.d.injEq, W.l.injEq, PyData.tuple.injEq, PyData.int.injEq, PyData.bool.injEq, PyData.str.injEq, reduceCtorEq, retOk_d, retOk_1, retOk_2, asgOk_d, asgOk_2, and_assoc, exists_and_left, exists_eq_left', exists_eq_left, true_and, and_true, ex_gD, ex_tN, fLen_gD, fLen_tN, fLen_l, len100, Int.toNat_natCast, Nat.reduceLeDiff, isT_ii, isT_ib, isT_tt, isT_ss, is_integer_eq, is_in_eq, is_list_eq, is_list_tN, is_list_gD, if_true, eq_self, Bool.false_eq_true, if_false, ge1, ge2, one_ne, two_ne, true_implies, unD_append, ex_pair, ex_trip, List.length_map])
      rfl
    · refine min_lex (key := fun p => -(cnt n (callG g p) : Int)) hne fun p hp => ?_
      refine fIxT_1 ?_
      (try simp only [dSeq, dNext, dDrop, dAsg, dAsgG, dRet, dIfS, dPar, dVar, dC, dU, dOp, dTst, dAnd, dOr, dNot, dAndV, dNotV, dChain, dIf, dNil, dCons, dStar, dTup, dLst, dCall, dItL, dItT, dRng1, dRng2, dEnum, gdName, gdTup2, gdTup3, dYes, wipeR, dAppend, dExtend, dPopA, dAugL, dCut, dIsi, dLc_eq, dLc2_eq, dFor, dWhile, fAdd, fSub, fLt, fLe, fGt, fGe, fI2_eq, fNeg_eq, fTuple_nis, fTuple_l, fList_l, fList_tN, fCat_eq, unD_nil, unD_d, startR, List.map_cons, List.map_nil, List.length_cons, List.length_nil, List.replicate, List.cons_append, List.nil_append, Nat.zero_add, Nat.reduceAdd, Nat.reduceSub, List.append_nil, List.getElem?_cons_zero, List.getElem?_cons_succ, List.set_cons_zero, List.set_cons_succ, Option.some.injEq, Prod.mk.injEq, Option.map_some, Option.map_none, W.d.injEq, W.l.injEq, PyData.tuple.injEq, PyData.int.injEq, PyData.bool.injEq, PyData.str.injEq, reduceCtorEq, retOk_d, retOk_1, retOk_2, asgOk_d, asgOk_2, and_assoc, exists_and_left, exists_eq_left', exists_eq_left, true_and, and_true, ex_gD, ex_tN, fLen_gD, fLen_tN, fLen_l, len100, Int.toNat_natCast, Nat.reduceLeDiff, isT_ii, isT_ib, isT_tt, isT_ss, is_integer_eq, is_in_eq, is_list_eq, is_list_tN, is_list_gD, if_true, eq_self, Bool.false_eq_true, if_false, ge1, ge2, one_ne, two_ne, true_implies, unD_append, ex_pair, ex_trip])
      have hm := mem_movs.mp hp.1
      refine r p ⟨hm.1, hm.2, fun _ => ⟨hm.1, fun q hq => ?_⟩, no h (by decide +kernel), no h (by decide +kernel), no h (by decide +kernel), no h (by decide +kernel), no h (by decide +kernel)⟩
      by_cases mq : Mv g q
      · have := hp.2 q (mem_movs.mpr ⟨hq, mq⟩)
        simp only at this
        omega
      · have h1 := (mv_iff o).mp hm.2
        rw [nm_call o ((nm_iff o).mp mq)]
        exact .inl h1
  · (try simp only [dSeq, dNext, dDrop, dAsg, dAsgG, dRet, dIfS, dPar, dVar, dC, dU, dOp, dTst, dAnd, dOr, dNot, dAndV, dNotV, dChain, dIf, dNil, dCons, dStar, dTup, dLst, dCall, dItL, dItT, dRng1, dRng2, dEnum, gdName, gdTup2, gdTup3, dYes, wipeR, dAppend, dExtend, dPopA, dAugL, dCut, dIsi, dLc_eq, dLc2_eq, dFor, dWhile, fAdd, fSub, fLt, fLe, fGt, fGe, fI2_eq, fNeg_eq, fTuple_nis, fTuple_l, fList_l, fList_tN, fCat_eq, unD_nil, unD_d, startR, List.map_cons, List.map_nil, List.length_cons, List.length_nil, List.replicate, List.cons_append, List.nil_append, Nat.zero_add, Nat.reduceAdd, Nat.reduceSub, List.append_nil, List.getElem?_cons_zero, List.getElem?_cons_succ, List.set_cons_zero, List.set_cons_succ, Option.some.injEq, Prod.mk.injEq, Option.map_some, Option.map_none, W.d.injEq, W.l.injEq, PyData.tuple.injEq, PyData.int.injEq, PyData.bool.injEq, PyData.str.injEq, reduceCtorEq, retOk_d, retOk_1, retOk_2, asgOk_d, asgOk_2, and_assoc, exists_and_left, exists_eq_left', exists_eq_left, true_and, and_true, ex_gD, ex_tN, fLen_gD, fLen_tN, fLen_l, len100, Int.toNat_natCast, Nat.reduceLeDiff, isT_ii, isT_ib, isT_tt, isT_ss, is_integer_eq, is_in_eq, is_list_eq, is_list_tN, is_list_gD, if_true, eq_self, Bool.false_eq_true, if_false, ge1, ge2, one_ne, two_ne, true_implies, unD_append, ex_pair, ex_trip, decide_eq_false h])
    rw [fEq_rule hr (by decide +kernel : sFew ∈ rulesL)]
    (try simp only [dSeq, dNext, dDrop, dAsg, dAsgG, dRet, dIfS, dPar, dVar, dC, dU, dOp, dTst, dAnd, dOr, dNot, dAndV, dNotV, dChain, dIf, dNil, dCons, dStar, dTup, dLst, dCall, dItL, dItT, dRng1, dRng2, dEnum, gdName, gdTup2, gdTup3, dYes, wipeR, dAppend, dExtend, dPopA, dAugL, dCut, dIsi, dLc_eq, dLc2_eq, dFor, dWhile, fAdd, fSub, fLt, fLe, fGt, fGe, fI2_eq, fNeg_eq, fTuple_nis, fTuple_l, fList_l, fList_tN, fCat_eq, unD_nil, unD_d, startR, List.map_cons, List.map_nil, List.length_cons, List.length_nil, List.replicate, List.cons_append, List.nil_append, Nat.zero_add, Nat.reduceAdd, Nat.reduceSub, List.append_nil, List.getElem?_cons_zero, List.getElem?_cons_succ, List.set_cons_zero, List.set_cons_succ, Option.some.injEq, Prod.mk.injEq, Option.map_some, Option.map_none, W.d.injEq, W.l.injEq, PyData.tuple.injEq, PyData.int.injEq, PyData.bool.injEq, PyData.str.injEq, reduceCtorEq, retOk_d, retOk_1, retOk_2, asgOk_d, asgOk_2, and_assoc, exists_and_left, exists_eq_left', exists_eq_left, true_and, and_true, ex_gD, ex_tN, fLen_gD, fLen_tN, fLen_l, len100, Int.toNat_natCast, Nat.reduceLeDiff, isT_ii, isT_ib, isT_tt, isT_ss, is_integer_eq, is_in_eq, is_list_eq, is_list_tN, is_list_gD, if_true, eq_self, Bool.false_eq_true, if_false, ge1, ge2, one_ne, two_ne, true_implies, unD_append, ex_pair, ex_trip])
    by_cases h2 : s = sFew
    · (try simp only [dSeq, dNext, dDrop, dAsg, dAsgG, dRet, dIfS, dPar, dVar, dC, dU, dOp, dTst, dAnd, dOr, dNot, dAndV, dNotV, dChain, dIf, dNil, dCons, dStar, dTup, dLst, dCall, dItL, dItT, dRng1, dRng2, dEnum, gdName, gdTup2, gdTup3, dYes, wipeR, dAppend, dExtend, dPopA, dAugL, dCut, dIsi, dLc_eq, dLc2_eq, dFor, dWhile, fAdd, fSub, fLt, fLe, fGt, fGe, fI2_eq, fNeg_eq, fTuple_nis, fTuple_l, fList_l, fList_tN, fCat_eq, unD_nil, unD_d, startR, List.map_cons, List.map_nil, List.length_cons, List.length_nil, List.replicate, List.cons_append, List.nil_append, Nat.zero_add, Nat.reduceAdd, Nat.reduceSub, List.append_nil, List.getElem?_cons_zero, List.getElem?_cons_succ, List.set_cons_zero, List.set_cons_succ, Option.some.injEq, Prod.mk.injEq, Option.map_some, Option.map_none, W.d.injEq, W.l.injEq, PyData.tuple.injEq, PyData.int.injEq, PyData.bool.injEq, PyData.str.injEq, reduceCtorEq, retOk_d, retOk_1, retOk_2, asgOk_d, asgOk_2, and_assoc, exists_and_left, exists_eq_left', exists_eq_left, true_and, and_true, ex_gD, ex_tN, fLen_gD, fLen_tN, fLen_l, len100, Int.toNat_natCast, Nat.reduceLeDiff, isT_ii, isT_ib, isT_tt, isT_ss, is_integer_eq, is_in_eq, is_list_eq, is_list_tN, is_list_gD, if_true, eq_self, Bool.false_eq_true, if_false, ge1, ge2, one_ne, two_ne, true_implies, unD_append, ex_pair, ex_trip, decide_eq_true h2])
      refine ⟨by rw [nis_len]; omega, ?_⟩
      refine lcT (fun p => .tuple [.int ((cnt n (callG g p) : Int)), nI p]) (fun a _ b _ => nI_inj) (fun p hp => ?_) ?_
      · (try simp only [dSeq, dNext, dDrop, dAsg, dAsgG, dRet, dIfS, dPar, dVar, dC, dU, dOp, dTst, dAnd, dOr, dNot, dAndV, dNotV, dChain, dIf, dNil, dCons, dStar, dTup, dLst, dCall, dItL, dItT, dRng1, dRng2, dEnum, gdName, gdTup2, gdTup3, dYes, wipeR, dAppend, dExtend, dPopA, dAugL, dCut, dIsi, dLc_eq, dLc2_eq, dFor, dWhile, fAdd, fSub, fLt, fLe, fGt, fGe, fI2_eq, fNeg_eq, fTuple_nis, fTuple_l, fList_l, fList_tN, fCat_eq, unD_nil, unD_d, startR, List.map_cons, List.map_nil, List.length_cons, List.length_nil, List.replicate, List.cons_append, List.nil_append, Nat.zero_add, Nat.reduceAdd, Nat.reduceSub, List.append_nil, List.getElem?_cons_zero, List.getElem?_cons_succ, List.set_cons_zero, List.set_cons_succ, Option.some.injEq, Prod.mk.injEq, Option.map_some, Option.map_none, W.d.injEq, W.l.injEq, PyData.tuple.injEq, PyData.int.injEq, PyData.bool.injEq, PyData.str.injEq, reduceCtorEq, retOk_d, retOk_1, retOk_2, asgOk_d, asgOk_2, and_assoc, exists_and_left, exists_eq_left', exists_eq_left, true_and, and_true, ex_gD, ex_tN, fLen_gD, fLen_tN, fLen_l, len100, Int.toNat_natCast, Nat.reduceLeDiff, isT_ii, isT_ib, isT_tt, isT_ss, is_integer_eq, is_in_eq, is_list_eq, is_list_tN, is_list_gD, if_true, eq_self, Bool.false_eq_true, if_false, ge1, ge2, one_ne, two_ne, true_implies, unD_append, ex_pair, ex_trip])
        refine c_call_in o (mem_movs.mp hp).1 ?_
        refine c_pairs_in (o.call p) ?_
        (try simp only [dSeq, dNext, dDrop, dAsg, dAsgG, dRet, dIfS, dPar, dVar, dC, dU, dOp, dTst, dAnd, dOr, dNot, dAndV, dNotV, dChain, dIf, dNil, dCons, dStar, dTup, dLst, dCall, dItL, dItT, dRng1, dRng2, dEnum, gdName, gdTup2, gdTup3, dYes, wipeR, dAppend, dExtend, dPopA, dAugL, dCut, dIsi, dLc_eq, dLc2_eq, dFor, dWhile, fAdd, fSub, fLt, fLe, fGt, fGe, fI2_eq, fNeg_eq, fTuple_nis, fTuple_l, fList_l, fList_tN, fCat_eq, unD_nil, unD_d, startR, List.map_cons, List.map_nil, List.length_cons, List.length_nil, List.replicate, List.cons_append, List.nil_append, Nat.zero_add, Nat.reduceAdd, Nat.reduceSub, List.append_nil, List.getElem?_cons_zero, List.getElem?_cons_succ, List.set_cons_zero, List.set_cons_succ, Option.some.injEq, Prod.mk.injEq, Option.map_some, Option.map_none, W.d.injEq, W.l.injEq, PyData.tuple.injEq, PyData.int.injEq, PyData.bool.injEq, PyData.str.injEq, reduceCtorEq, retOk_d, retOk_1, retOk_2, asgOk_d, asgOk_2, and_assoc, exists_and_left, exists_eq_left', exists_eq_left, true_and, and_true, ex_gD, ex_tN, fLen_gD, fLen_tN, fLen_l, len100, Int.toNat_natCast, Nat.reduceLeDiff, isT_ii, isT_ib, isT_tt, isT_ss, is_integer_eq, is_in_eq, is_list_eq, is_list_tN, is_list_gD, if_true, eq_self, Bool.false_eq_true, if_false, ge1, ge2, one_ne, two_ne, true_implies, unD_append, ex_pair, ex_trip, List.length_map])
        rfl
      · refine min_lex (key := fun p => (cnt n (callG g p) : Int)) hne fun p hp => ?_
        refine fIxT_1 ?_
        (try simp only [dSeq, dNext, dDrop, dAsg, dAsgG, dRet, dIfS, dPar, dVar, dC, dU, dOp, dTst, dAnd, dOr, dNot, dAndV, dNotV, dChain, dIf, dNil, dCons, dStar, dTup, dLst, dCall, dItL, dItT, dRng1, dRng2, dEnum, gdName, gdTup2, gdTup3, dYes, wipeR, dAppend, dExtend, dPopA, dAugL, dCut, dIsi, dLc_eq, dLc2_eq, dFor, dWhile, fAdd, fSub, fLt, fLe, fGt, fGe, fI2_eq, fNeg_eq, fTuple_nis, fTuple_l, fList_l, fList_tN, fCat_eq, unD_nil, unD_d, startR, List.map_cons, List.map_nil, List.length_cons, List.length_nil, List.replicate, List.cons_append, List.nil_append, Nat.zero_add, Nat.reduceAdd, Nat.reduceSub, List.append_nil, List.getElem?_cons_zero, List.getElem?_cons_succ, List.set_cons_zero, List.set_cons_succ, Option.some.injEq, Prod.mk.injEq, Option.map_some, Option.map_none, W.d.injEq, W.l.injEq, PyData.tuple.injEq, PyData.int.injEq, PyData.bool.injEq, PyData.str.injEq, reduceCtorEq, retOk_d, retOk_1, retOk_2, asgOk_d, asgOk_2, and_assoc, exists_and_left, exists_eq_left', exists_eq_left, true_and, and_true, ex_gD, ex_tN, fLen_gD, fLen_tN, fLen_l, len100, Int.toNat_natCast, Nat.reduceLeDiff, isT_ii, isT_ib, isT_tt, isT_ss, is_integer_eq, is_in_eq, is_list_eq, is_list_tN, is_list_gD, if_true, eq_self, Bool.false_eq_true, if_false, ge1, ge2, one_ne, two_ne, true_implies, unD_append, ex_pair, ex_trip])
        have hm := mem_movs.mp hp.1
        exact r p ⟨hm.1, hm.2, no h2 (by decide +kernel), fun _ => hp, no h2 (by decide +kernel), no h2 (by decide +kernel), no h2 (by decide +kernel), no h2 (by decide +kernel)⟩
    · (try simp only [dSeq, dNext, dDrop, dAsg, dAsgG, dRet, dIfS, dPar, dVar, dC, dU, dOp, dTst, dAnd, dOr, dNot, dAndV, dNotV, dChain, dIf, dNil, dCons, dStar, dTup, dLst, dCall, dItL, dItT, dRng1, dRng2, dEnum, gdName, gdTup2, gdTup3, dYes, wipeR, dAppend, dExtend, dPopA, dAugL, dCut, dIsi, dLc_eq, dLc2_eq, dFor, dWhile, fAdd, fSub, fLt, fLe, fGt, fGe, fI2_eq, fNeg_eq, fTuple_nis, fTuple_l, fList_l, fList_tN, fCat_eq, unD_nil, unD_d, startR, List.map_cons, List.map_nil, List.length_cons, List.length_nil, List.replicate, List.cons_append, List.nil_append, Nat.zero_add, Nat.reduceAdd, Nat.reduceSub, List.append_nil, List.getElem?_cons_zero, List.getElem?_cons_succ, List.set_cons_zero, List.set_cons_succ, Option.some.injEq, Prod.mk.injEq, Option.map_some, Option.map_none, W.d.injEq, W.l.injEq, PyData.tuple.injEq, PyData.int.injEq, PyData.bool.injEq, PyData.str.injEq, reduceCtorEq, retOk_d, retOk_1, retOk_2, asgOk_d, asgOk_2, and_assoc, exists_and_left, exists_eq_left', exists_eq_left, true_and, and_true, ex_gD, ex_tN, fLen_gD, fLen_tN, fLen_l, len100, Int.toNat_natCast, Nat.reduceLeDiff, isT_ii, isT_ib, isT_tt, isT_ss, is_integer_eq, is_in_eq, is_list_eq, is_list_tN, is_list_gD, if_true, eq_self, Bool.false_eq_true, if_false, ge1, ge2, one_ne, two_ne, true_implies, unD_append, ex_pair, ex_trip, decide_eq_false h2])
      rw [fEq_rule hr (by decide +kernel : sPop ∈ rulesL)]
      (try simp only [dSeq, dNext, dDrop, dAsg, dAsgG, dRet, dIfS, dPar, dVar, dC, dU, dOp, dTst, dAnd, dOr, dNot, dAndV, dNotV, dChain, dIf, dNil, dCons, dStar, dTup, dLst, dCall, dItL, dItT, dRng1, dRng2, dEnum, gdName, gdTup2, gdTup3, dYes, wipeR, dAppend, dExtend, dPopA, dAugL, dCut, dIsi, dLc_eq, dLc2_eq, dFor, dWhile, fAdd, fSub, fLt, fLe, fGt, fGe, fI2_eq, fNeg_eq, fTuple_nis, fTuple_l, fList_l, fList_tN, fCat_eq, unD_nil, unD_d, startR, List.map_cons, List.map_nil, List.length_cons, List.length_nil, List.replicate, List.cons_append, List.nil_append, Nat.zero_add, Nat.reduceAdd, Nat.reduceSub, List.append_nil, List.getElem?_cons_zero, List.getElem?_cons_succ, List.set_cons_zero, List.set_cons_succ, Option.some.injEq, Prod.mk.injEq, Option.map_some, Option.map_none, W.d.injEq, W.l.injEq, PyData.tuple.injEq, PyData.int.injEq, PyData.bool.injEq, PyData.str.injEq, reduceCtorEq, retOk_d, retOk_1, retOk_2, asgOk_d, asgOk_2, and_assoc, exists_and_left, exists_eq_left', exists_eq_left, true_and, and_true, ex_gD, ex_tN, fLen_gD, fLen_tN, fLen_l, len100, Int.toNat_natCast, Nat.reduceLeDiff, isT_ii, isT_ib, isT_tt, isT_ss, is_integer_eq, is_in_eq, is_list_eq, is_list_tN, is_list_gD, if_true, eq_self, Bool.false_eq_true, if_false, ge1, ge2, one_ne, two_ne, true_implies, unD_append, ex_pair, ex_trip])
      by_cases h3 : s = sPop
      · (try simp only [dSeq, dNext, dDrop, dAsg, dAsgG, dRet, dIfS, dPar, dVar, dC, dU, dOp, dTst, dAnd, dOr, dNot, dAndV, dNotV, dChain, dIf, dNil, dCons, dStar, dTup, dLst, dCall, dItL, dItT, dRng1, dRng2, dEnum, gdName, gdTup2, gdTup3, dYes, wipeR, dAppend, dExtend, dPopA, dAugL, dCut, dIsi, dLc_eq, dLc2_eq, dFor, dWhile, fAdd, fSub, fLt, fLe, fGt, fGe, fI2_eq, fNeg_eq, fTuple_nis, fTuple_l, fList_l, fList_tN, fCat_eq, unD_nil, unD_d, startR, List.map_cons, List.map_nil, List.length_cons, List.length_nil, List.replicate, List.cons_append, List.nil_append, Nat.zero_add, Nat.reduceAdd, Nat.reduceSub, List.append_nil, List.getElem?_cons_zero, List.getElem?_cons_succ, List.set_cons_zero, List.set_cons_succ, Option.some.injEq, Prod.mk.injEq, Option.map_some, Option.map_none, W.d.injEq, W.l.injEq, PyData.tuple.injEq, PyData.int.injEq, PyData.bool.injEq, PyData.str.injEq, reduceCtorEq, retOk_d, retOk_1, retOk_2, asgOk_d, asgOk_2, and_assoc, exists_and_left, exists_eq_left', exists_eq_left, true_and, and_true, ex_gD, ex_tN, fLen_gD, fLen_tN, fLen_l, len100, Int.toNat_natCast, Nat.reduceLeDiff, isT_ii, isT_ib, isT_tt, isT_ss, is_integer_eq, is_in_eq, is_list_eq, is_list_tN, is_list_gD, if_true, eq_self, Bool.false_eq_true, if_false, ge1, ge2, one_ne, two_ne, true_implies, unD_append, ex_pair, ex_trip, decide_eq_true h3])
        refine ⟨by rw [nis_len]; omega, ?_⟩
        refine lcT (fun p => .tuple [.int (-((frs n g p).length : Int)), nI p]) (fun a _ b _ => nI_inj) (fun p hp => ?_) ?_
        · (try simp only [dSeq, dNext, dDrop, dAsg, dAsgG, dRet, dIfS, dPar, dVar, dC, dU, dOp, dTst, dAnd, dOr, dNot, dAndV, dNotV, dChain, dIf, dNil, dCons, dStar, dTup, dLst, dCall, dItL, dItT, dRng1, dRng2, dEnum, gdName, gdTup2, gdTup3, dYes, wipeR, dAppend, dExtend, dPopA, dAugL, dCut, dIsi, dLc_eq, dLc2_eq, dFor, dWhile, fAdd, fSub, fLt, fLe, fGt, fGe, fI2_eq, fNeg_eq, fTuple_nis, fTuple_l, fList_l, fList_tN, fCat_eq, unD_nil, unD_d, startR, List.map_cons, List.map_nil, List.length_cons, List.length_nil, List.replicate, List.cons_append, List.nil_append, Nat.zero_add, Nat.reduceAdd, Nat.reduceSub, List.append_nil, List.getElem?_cons_zero, List.getElem?_cons_succ, List.set_cons_zero, List.set_cons_succ, Option.some.injEq, Prod.mk.injEq, Option.map_some, Option.map_none, W.d.injEq, W.l.injEq, PyData.tuple.injEq, PyData.int.injEq, PyData.bool.injEq, PyData.str.injEq, reduceCtorEq, retOk_d, retOk_1, retOk_2, asgOk_d, asgOk_2, and_assoc, exists_and_left, exists_eq_left', exists_eq_left, true_and, and_true, ex_gD, ex_tN, fLen_gD, fLen_tN, fLen_l, len100, Int.toNat_natCast, Nat.reduceLeDiff, isT_ii, isT_ib, isT_tt, isT_ss, is_integer_eq, is_in_eq, is_list_eq, is_list_tN, is_list_gD, if_true, eq_self, Bool.false_eq_true, if_false, ge1, ge2, one_ne, two_ne, true_implies, unD_append, ex_pair, ex_trip])
          refine ix_gD (mem_movs.mp hp).1 ?_
          (try simp only [dSeq, dNext, dDrop, dAsg, dAsgG, dRet, dIfS, dPar, dVar, dC, dU, dOp, dTst, dAnd, dOr, dNot, dAndV, dNotV, dChain, dIf, dNil, dCons, dStar, dTup, dLst, dCall, dItL, dItT, dRng1, dRng2, dEnum, gdName, gdTup2, gdTup3, dYes, wipeR, dAppend, dExtend, dPopA, dAugL, dCut, dIsi, dLc_eq, dLc2_eq, dFor, dWhile, fAdd, fSub, fLt, fLe, fGt, fGe, fI2_eq, fNeg_eq, fTuple_nis, fTuple_l, fList_l, fList_tN, fCat_eq, unD_nil, unD_d, startR, List.map_cons, List.map_nil, List.length_cons, List.length_nil, List.replicate, List.cons_append, List.nil_append, Nat.zero_add, Nat.reduceAdd, Nat.reduceSub, List.append_nil, List.getElem?_cons_zero, List.getElem?_cons_succ, List.set_cons_zero, List.set_cons_succ, Option.some.injEq, Prod.mk.injEq, Option.map_some, Option.map_none, W.d.injEq, W.l.injEq, PyData.tuple.injEq, PyData.int.injEq, PyData.bool.injEq, PyData.str.injEq, reduceCtorEq, retOk_d, retOk_1, retOk_2, asgOk_d, asgOk_2, and_assoc, exists_and_left, exists_eq_left', exists_eq_left, true_and, and_true, ex_gD, ex_tN, fLen_gD, fLen_tN, fLen_l, len100, Int.toNat_natCast, Nat.reduceLeDiff, isT_ii, isT_ib, isT_tt, isT_ss, is_integer_eq, is_in_eq, is_list_eq, is_list_tN, is_list_gD, if_true, eq_self, Bool.false_eq_true, if_false, ge1, ge2, one_ne, two_ne, true_implies, unD_append, ex_pair, ex_trip])
        · refine min_lex (key := fun p => -((frs n g p).length : Int)) hne fun p hp => ?_
          refine fIxT_1 ?_
          (try simp only [dSeq, dNext, dDrop, dAsg, dAsgG, dRet, dIfS, dPar, dVar, dC, dU, dOp, dTst, dAnd, dOr, dNot, dAndV, dNotV, dChain, dIf, dNil, dCons, dStar, dTup, dLst, dCall, dItL, dItT, dRng1, dRng2, dEnum, gdName, gdTup2, gdTup3, dYes, wipeR, dAppend, dExtend, dPopA, dAugL, dCut, dIsi, dLc_eq, dLc2_eq, dFor, dWhile, fAdd, fSub, fLt, fLe, fGt, fGe, fI2_eq, fNeg_eq, fTuple_nis, fTuple_l, fList_l, fList_tN, fCat_eq, unD_nil, unD_d, startR, List.map_cons, List.map_nil, List.length_cons, List.length_nil, List.replicate, List.cons_append, List.nil_append, Nat.zero_add, Nat.reduceAdd, Nat.reduceSub, List.append_nil, List.getElem?_cons_zero, List.getElem?_cons_succ, List.set_cons_zero, List.set_cons_succ, Option.some.injEq, Prod.mk.injEq, Option.map_some, Option.map_none, W.d.injEq, W.l.injEq, PyData.tuple.injEq, PyData.int.injEq, PyData.bool.injEq, PyData.str.injEq, reduceCtorEq, retOk_d, retOk_1, retOk_2, asgOk_d, asgOk_2, and_assoc, exists_and_left, exists_eq_left', exists_eq_left, true_and, and_true, ex_gD, ex_tN, fLen_gD, fLen_tN, fLen_l, len100, Int.toNat_natCast, Nat.reduceLeDiff, isT_ii, isT_ib, isT_tt, isT_ss, is_integer_eq, is_in_eq, is_list_eq, is_list_tN, is_list_gD, if_true, eq_self, Bool.false_eq_true, if_false, ge1, ge2, one_ne, two_ne, true_implies, unD_append, ex_pair, ex_trip])
          have hm := mem_movs.mp hp.1
          exact r p ⟨hm.1, hm.2, no h3 (by decide +kernel), no h3 (by decide +kernel), fun _ => hp, no h3 (by decide +kernel), no h3 (by decide +kernel), no h3 (by decide +kernel)⟩
      · (try simp only [dSeq, dNext, dDrop, dAsg, dAsgG, dRet, dIfS, dPar, dVar, dC, dU, dOp, dTst, dAnd, dOr, dNot, dAndV, dNotV, dChain, dIf, dNil, dCons, dStar, dTup, dLst, dCall, dItL, dItT, dRng1, dRng2, dEnum, gdName, gdTup2, gdTup3, dYes, wipeR, dAppend, dExtend, dPopA, dAugL, dCut, dIsi, dLc_eq, dLc2_eq, dFor, dWhile, fAdd, fSub, fLt, fLe, fGt, fGe, fI2_eq, fNeg_eq, fTuple_nis, fTuple_l, fList_l, fList_tN, fCat_eq, unD_nil, unD_d, startR, List.map_cons, List.map_nil, List.length_cons, List.length_nil, List.replicate, List.cons_append, List.nil_append, Nat.zero_add, Nat.reduceAdd, Nat.reduceSub, List.append_nil, List.getElem?_cons_zero, List.getElem?_cons_succ, List.set_cons_zero, List.set_cons_succ, Option.some.injEq, Prod.mk.injEq, Option.map_some, Option.map_none, W.d.injEq, W.l.injEq, PyData.tuple.injEq, PyData.int.injEq, PyData.bool.injEq, PyData.str.injEq, reduceCtorEq, retOk_d, retOk_1, retOk_2, asgOk_d, asgOk_2, and_assoc, exists_and_left, exists_eq_left', exists_eq_left, true_and, and_true, ex_gD, ex_tN, fLen_gD, fLen_tN, fLen_l, len100, Int.toNat_natCast, Nat.reduceLeDiff, isT_ii, isT_ib, isT_tt, isT_ss, is_integer_eq, is_in_eq, is_list_eq, is_list_tN, is_list_gD, if_true, eq_self, Bool.false_eq_true, if_false, ge1, ge2, one_ne, two_ne, true_implies, unD_append, ex_pair, ex_trip, decide_eq_false h3])
        rw [fEq_rule hr (by decide +kernel : sShy ∈ rulesL)]
        (try simp only [dSeq, dNext, dDrop, dAsg, dAsgG, dRet, dIfS, dPar, dVar, dC, dU, dOp, dTst, dAnd, dOr, dNot, dAndV, dNotV, dChain, dIf, dNil, dCons, dStar, dTup, dLst, dCall, dItL, dItT, dRng1, dRng2, dEnum, gdName, gdTup2, gdTup3, dYes, wipeR, dAppend, dExtend, dPopA, dAugL, dCut, dIsi, dLc_eq, dLc2_eq, dFor, dWhile, fAdd, fSub, fLt, fLe, fGt, fGe, fI2_eq, fNeg_eq, fTuple_nis, fTuple_l, fList_l, fList_tN, fCat_eq, unD_nil, unD_d, startR, List.map_cons, List.map_nil, List.length_cons, List.length_nil, List.replicate, List.cons_append, List.nil_append, Nat.zero_add, Nat.reduceAdd, Nat.reduceSub, List.append_nil, List.getElem?_cons_zero, List.getElem?_cons_succ, List.set_cons_zero, List.set_cons_succ, Option.some.injEq, Prod.mk.injEq, Option.map_some, Option.map_none, W.d.injEq, W.l.injEq, PyData.tuple.injEq, PyData.int.injEq, PyData.bool.injEq, PyData.str.injEq, reduceCtorEq, retOk_d, retOk_1, retOk_2, asgOk_d, asgOk_2, and_assoc, exists_and_left, exists_eq_left', exists_eq_left, true_and, and_true, ex_gD, ex_tN, fLen_gD, fLen_tN, fLen_l, len100, Int.toNat_natCast, Nat.reduceLeDiff, isT_ii, isT_ib, isT_tt, isT_ss, is_integer_eq, is_in_eq, is_list_eq, is_list_tN, is_list_gD, if_true, eq_self, Bool.false_eq_true, if_false, ge1, ge2, one_ne, two_ne, true_implies, unD_append, ex_pair, ex_trip])
        by_cases h4 : s = sShy
        · (try simp only [dSeq, dNext, dDrop, dAsg, dAsgG, dRet, dIfS, dPar, dVar, dC, dU, dOp, dTst, dAnd, dOr, dNot, dAndV, dNotV, dChain, dIf, dNil, dCons, dStar, dTup, dLst, dCall, dItL, dItT, dRng1, dRng2, dEnum, gdName, gdTup2, gdTup3, dYes, wipeR, dAppend, dExtend, dPopA, dAugL, dCut, dIsi, dLc_eq, dLc2_eq, dFor, dWhile, fAdd, fSub, fLt, fLe, fGt, fGe, fI2_eq, fNeg_eq, fTuple_nis, fTuple_l, fList_l, fList_tN, fCat_eq, unD_nil, unD_d, startR, List.map_cons, List.map_nil, List.length_cons, List.length_nil, List.replicate, List.cons_append, List.nil_append, Nat.zero_add, Nat.reduceAdd, Nat.reduceSub, List.append_nil, List.getElem?_cons_zero, List.getElem?_cons_succ, List.set_cons_zero, List.set_cons_succ, Option.some.injEq, Prod.mk.injEq, Option.map_some, Option.map_none, W.d.injEq, W.l.injEq, PyData.tuple.injEq, PyData.int.injEq, PyData.bool.injEq, PyData.str.injEq, reduceCtorEq, retOk_d, retOk_1, retOk_2, asgOk_d, asgOk_2, and_assoc, exists_and_left, exists_eq_left', exists_eq_left, true_and, and_true, ex_gD, ex_tN, fLen_gD, fLen_tN, fLen_l, len100, Int.toNat_natCast, Nat.reduceLeDiff, isT_ii, isT_ib, isT_tt, isT_ss, is_integer_eq, is_in_eq, is_list_eq, is_list_tN, is_list_gD, if_true, eq_self, Bool.false_eq_true, if_false, ge1, ge2, one_ne, two_ne, true_implies, unD_append, ex_pair, ex_trip, decide_eq_true h4])
          refine ⟨by rw [nis_len]; omega, ?_⟩
          refine lcT (fun p => .tuple [.int ((frs n g p).length : Int), nI p]) (fun a _ b _ => nI_inj) (fun p hp => ?_) ?_
          · (try simp only [dSeq, dNext, dDrop, dAsg, dAsgG, dRet, dIfS, dPar, dVar, dC, dU, dOp, dTst, dAnd, dOr, dNot, dAndV, dNotV, dChain, dIf, dNil, dCons, dStar, dTup, dLst, dCall, dItL, dItT, dRng1, dRng2, dEnum, gdName, gdTup2, gdTup3, dYes, wipeR, dAppend, dExtend, dPopA, dAugL, dCut, dIsi, dLc_eq, dLc2_eq, dFor, dWhile, fAdd, fSub, fLt, fLe, fGt, fGe, fI2_eq, fNeg_eq, fTuple_nis, fTuple_l, fList_l, fList_tN, fCat_eq, unD_nil, unD_d, startR, List.map_cons, List.map_nil, List.length_cons, List.length_nil, List.replicate, List.cons_append, List.nil_append, Nat.zero_add, Nat.reduceAdd, Nat.reduceSub, List.append_nil, List.getElem?_cons_zero, List.getElem?_cons_succ, List.set_cons_zero, List.set_cons_succ, Option.some.injEq, Prod.mk.injEq, Option.map_some, Option.map_none, W.d.injEq, W.l.injEq, PyData.tuple.injEq, PyData.int.injEq, PyData.bool.injEq, PyData.str.injEq, reduceCtorEq, retOk_d, retOk_1, retOk_2, asgOk_d, asgOk_2, and_assoc, exists_and_left, exists_eq_left', exists_eq_left, true_and, and_true, ex_gD, ex_tN, fLen_gD, fLen_tN, fLen_l, len100, Int.toNat_natCast, Nat.reduceLeDiff, isT_ii, isT_ib, isT_tt, isT_ss, is_integer_eq, is_in_eq, is_list_eq, is_list_tN, is_list_gD, if_true, eq_self, Bool.false_eq_true, if_false, ge1, ge2, one_ne, two_ne, true_implies, unD_append, ex_pair, ex_trip])
            refine ix_gD (mem_movs.mp hp).1 ?_
            (try simp only [dSeq, dNext, dDrop, dAsg, dAsgG, dRet, dIfS, dPar, dVar, dC, dU, dOp, dTst, dAnd, dOr, dNot, dAndV, dNotV, dChain, dIf, dNil, dCons, dStar, dTup, dLst, dCall, dItL, dItT, dRng1, dRng2, dEnum, gdName, gdTup2, gdTup3, dYes, wipeR, dAppend, dExtend, dPopA, dAugL, dCut, dIsi, dLc_eq, dLc2_eq, dFor, dWhile, fAdd, fSub, fLt, fLe, fGt, fGe, fI2_eq, fNeg_eq, fTuple_nis, fTuple_l, fList_l, fList_tN, fCat_eq, unD_nil, unD_d, startR, List.map_cons, List.map_nil, List.length_cons, List.length_nil, List.replicate, List.cons_append, List.nil_append, Nat.zero_add, Nat.reduceAdd, Nat.reduceSub, List.append_nil, List.getElem?_cons_zero, List.getElem?_cons_succ, List.set_cons_zero, List.set_cons_succ, Option.some.injEq, Prod.mk.injEq, Option.map_some, Option.map_none, W.d.injEq, W.l.injEq, PyData.tuple.injEq, PyData.int.injEq, PyData.bool.injEq, PyData.str.injEq, reduceCtorEq, retOk_d, retOk_1, retOk_2, asgOk_d, asgOk_2, and_assoc, exists_and_left, exists_eq_left', exists_eq_left, true_and, and_true, ex_gD, ex_tN, fLen_gD, fLen_tN, fLen_l, len100, Int.toNat_natCast, Nat.reduceLeDiff, isT_ii, isT_ib, isT_tt, isT_ss, is_integer_eq, is_in_eq, is_list_eq, is_list_tN, is_list_gD, if_true, eq_self, Bool.false_eq_true, if_false, ge1, ge2, one_ne, two_ne, true_implies, unD_append, ex_pair, ex_trip])
          · refine min_lex (key := fun p => ((frs n g p).length : Int)) hne fun p hp => ?_
            refine fIxT_1 ?_
            (try simp only [dSeq, dNext, dDrop, dAsg, dAsgG, dRet, dIfS, dPar, dVar, dC, dU, dOp, dTst, dAnd, dOr, dNot, dAndV, dNotV, dChain, dIf, dNil, dCons, dStar, dTup, dLst, dCall, dItL, dItT, dRng1, dRng2, dEnum, gdName, gdTup2, gdTup3, dYes, wipeR, dAppend, dExtend, dPopA, dAugL, dCut, dIsi, dLc_eq, dLc2_eq, dFor, dWhile, fAdd, fSub, fLt, fLe, fGt, fGe, fI2_eq, fNeg_eq, fTuple_nis, fTuple_l, fList_l, fList_tN, fCat_eq, unD_nil, unD_d, startR, List.map_cons, List.map_nil, List.length_cons, List.length_nil, List.replicate, List.cons_append, List.nil_append, Nat.zero_add, Nat.reduceAdd, Nat.reduceSub, List.append_nil, List.getElem?_cons_zero, List.getElem?_cons_succ, List.set_cons_zero, List.set_cons_succ, Option.some.injEq, Prod.mk.injEq, Option.map_some, Option.map_none, W.d.injEq, W.l.injEq, PyData.tuple.injEq, PyData.int.injEq, PyData.bool.injEq, PyData.str.injEq, reduceCtorEq, retOk_d, retOk_1, retOk_2, asgOk_d, asgOk_2, and_assoc, exists_and_left, exists_eq_left', exists_eq_left, true_and, and_true, ex_gD, ex_tN, fLen_gD, fLen_tN, fLen_l, len100, Int.toNat_natCast, Nat.reduceLeDiff, isT_ii, isT_ib, isT_tt, isT_ss, is_integer_eq, is_in_eq, is_list_eq, is_list_tN, is_list_gD, if_true, eq_self, Bool.false_eq_true, if_false, ge1, ge2, one_ne, two_ne, true_implies, unD_append, ex_pair, ex_trip])
            have hm := mem_movs.mp hp.1
            exact r p ⟨hm.1, hm.2, no h4 (by decide +kernel), no h4 (by decide +kernel), no h4 (by decide +kernel), fun _ => hp, no h4 (by decide +kernel), no h4 (by decide +kernel)⟩
        · (try simp only [dSeq, dNext, dDrop, dAsg, dAsgG, dRet, dIfS, dPar, dVar, dC, dU, dOp, dTst, dAnd, dOr, dNot, dAndV, dNotV, dChain, dIf, dNil, dCons, dStar, dTup, dLst, dCall, dItL, dItT, dRng1, dRng2, dEnum, gdName, gdTup2, gdTup3, dYes, wipeR, dAppend, dExtend, dPopA, dAugL, dCut, dIsi, dLc_eq, dLc2_eq, dFor, dWhile, fAdd, fSub, fLt, fLe, fGt, fGe, fI2_eq, fNeg_eq, fTuple_nis, fTuple_l, fList_l, fList_tN, fCat_eq, unD_nil, unD_d, startR, List.map_cons, List.map_nil, List.length_cons, List.length_nil, List.replicate, List.cons_append, List.nil_append, Nat.zero_add, Nat.reduceAdd, Nat.reduceSub, List.append_nil, List.getElem?_cons_zero, List.getElem?_cons_succ, List.set_cons_zero, List.set_cons_succ, Option.some.injEq, Prod.mk.injEq, Option.map_some, Option.map_none, W.d.injEq, W.l.injEq, PyData.tuple.injEq, PyData.int.injEq, PyData.bool.injEq, PyData.str.injEq, reduceCtorEq, retOk_d, retOk_1, retOk_2, asgOk_d, asgOk_2, and_assoc, exists_and_left, exists_eq_left', exists_eq_left, true_and, and_true, ex_gD, ex_tN, fLen_gD, fLen_tN, fLen_l, len100, Int.toNat_natCast, Nat.reduceLeDiff, isT_ii, isT_ib, isT_tt, isT_ss, is_integer_eq, is_in_eq, is_list_eq, is_list_tN, is_list_gD, if_true, eq_self, Bool.false_eq_true, if_false, ge1, ge2, one_ne, two_ne, true_implies, unD_append, ex_pair, ex_trip, decide_eq_false h4])
          rw [fEq_rule hr (by decide +kernel : sFirst ∈ rulesL)]
          (try simp only [dSeq, dNext, dDrop, dAsg, dAsgG, dRet, dIfS, dPar, dVar, dC, dU, dOp, dTst, dAnd, dOr, dNot, dAndV, dNotV, dChain, dIf, dNil, dCons, dStar, dTup, dLst, dCall, dItL, dItT, dRng1, dRng2, dEnum, gdName, gdTup2, gdTup3, dYes, wipeR, dAppend, dExtend, dPopA, dAugL, dCut, dIsi, dLc_eq, dLc2_eq, dFor, dWhile, fAdd, fSub, fLt, fLe, fGt, fGe, fI2_eq, fNeg_eq, fTuple_nis, fTuple_l, fList_l, fList_tN, fCat_eq, unD_nil, unD_d, startR, List.map_cons, List.map_nil, List.length_cons, List.length_nil, List.replicate, List.cons_append, List.nil_append, Nat.zero_add, Nat.reduceAdd, Nat.reduceSub, List.append_nil, List.getElem?_cons_zero, List.getElem?_cons_succ, List.set_cons_zero, List.set_cons_succ, Option.some.injEq, Prod.mk.injEq, Option.map_some, Option.map_none, W.d.injEq, W.l.injEq, PyData.tuple.injEq, PyData.int.injEq, PyData.bool.injEq, PyData.str.injEq, reduceCtorEq, retOk_d, retOk_1, retOk_2, asgOk_d, asgOk_2, and_assoc, exists_and_left, exists_eq_left', exists_eq_left, true_and, and_true, ex_gD, ex_tN, fLen_gD, fLen_tN, fLen_l, len100, Int.toNat_natCast, Nat.reduceLeDiff, isT_ii, isT_ib, isT_tt, isT_ss, is_integer_eq, is_in_eq, is_list_eq, is_list_tN, is_list_gD, if_true, eq_self, Bool.false_eq_true, if_false, ge1, ge2, one_ne, two_ne, true_implies, unD_append, ex_pair, ex_trip])
          by_cases h5 : s = sFirst
          · (try simp only [dSeq, dNext, dDrop, dAsg, dAsgG, dRet, dIfS, dPar, dVar, dC, dU, dOp, dTst, dAnd, dOr, dNot, dAndV, dNotV, dChain, dIf, dNil, dCons, dStar, dTup, dLst, dCall, dItL, dItT, dRng1, dRng2, dEnum, gdName, gdTup2, gdTup3, dYes, wipeR, dAppend, dExtend, dPopA, dAugL, dCut, dIsi, dLc_eq, dLc2_eq, dFor, dWhile, fAdd, fSub, fLt, fLe, fGt, fGe, fI2_eq, fNeg_eq, fTuple_nis, fTuple_l, fList_l, fList_tN, fCat_eq, unD_nil, unD_d, startR, List.map_cons, List.map_nil, List.length_cons, List.length_nil, List.replicate, List.cons_append, List.nil_append, Nat.zero_add, Nat.reduceAdd, Nat.reduceSub, List.append_nil, List.getElem?_cons_zero, List.getElem?_cons_succ, List.set_cons_zero, List.set_cons_succ, Option.some.injEq, Prod.mk.injEq, Option.map_some, Option.map_none, W.d.injEq, W.l.injEq, PyData.tuple.injEq, PyData.int.injEq, PyData.bool.injEq, PyData.str.injEq, reduceCtorEq, retOk_d, retOk_1, retOk_2, asgOk_d, asgOk_2, and_assoc, exists_and_left, exists_eq_left', exists_eq_left, true_and, and_true, ex_gD, ex_tN, fLen_gD, fLen_tN, fLen_l, len100, Int.toNat_natCast, Nat.reduceLeDiff, isT_ii, isT_ib, isT_tt, isT_ss, is_integer_eq, is_in_eq, is_list_eq, is_list_tN, is_list_gD, if_true, eq_self, Bool.false_eq_true, if_false, ge1, ge2, one_ne, two_ne, true_implies, unD_append, ex_pair, ex_trip, decide_eq_true h5])
            cases e : movs n g with
            | nil => exact absurd e hne
            | cons p ms =>
              have hp : p ∈ movs n g := by rw [e]; exact List.mem_cons_self ..
              have hm := mem_movs.mp hp
              refine fIxL_nat (i := 0) (x := nI p) rfl ?_
              (try simp only [dSeq, dNext, dDrop, dAsg, dAsgG, dRet, dIfS, dPar, dVar, dC, dU, dOp, dTst, dAnd, dOr, dNot, dAndV, dNotV, dChain, dIf, dNil, dCons, dStar, dTup, dLst, dCall, dItL, dItT, dRng1, dRng2, dEnum, gdName, gdTup2, gdTup3, dYes, wipeR, dAppend, dExtend, dPopA, dAugL, dCut, dIsi, dLc_eq, dLc2_eq, dFor, dWhile, fAdd, fSub, fLt, fLe, fGt, fGe, fI2_eq, fNeg_eq, fTuple_nis, fTuple_l, fList_l, fList_tN, fCat_eq, unD_nil, unD_d, startR, List.map_cons, List.map_nil, List.length_cons, List.length_nil, List.replicate, List.cons_append, List.nil_append, Nat.zero_add, Nat.reduceAdd, Nat.reduceSub, List.append_nil, List.getElem?_cons_zero, List.getElem?_cons_succ, List.set_cons_zero, List.set_cons_succ, Option.some.injEq, Prod.mk.injEq, Option.map_some, Option.map_none, W.d.injEq, W.l.injEq, PyData.tuple.injEq, PyData.int.injEq, PyData.bool.injEq, PyData.str.injEq, reduceCtorEq, retOk_d, retOk_1, retOk_2, asgOk_d, asgOk_2, and_assoc, exists_and_left, exists_eq_left', exists_eq_left, true_and, and_true, ex_gD, ex_tN, fLen_gD, fLen_tN, fLen_l, len100, Int.toNat_natCast, Nat.reduceLeDiff, isT_ii, isT_ib, isT_tt, isT_ss, is_integer_eq, is_in_eq, is_list_eq, is_list_tN, is_list_gD, if_true, eq_self, Bool.false_eq_true, if_false, ge1, ge2, one_ne, two_ne, true_implies, unD_append, ex_pair, ex_trip])
              refine r p ⟨hm.1, hm.2, no h5 (by decide +kernel), no h5 (by decide +kernel), no h5 (by decide +kernel), no h5 (by decide +kernel), fun _ q hq mq => ?_, no h5 (by decide +kernel)⟩
              have hq := mem_movs.mpr ⟨hq, mq⟩
              have hlt := movs_lt n g
              rw [e] at hq hlt
              rcases List.mem_cons.mp hq with rfl | hq
              · exact Nat.le_refl _
              · exact Nat.le_of_lt ((List.pairwise_cons.mp hlt).1 q hq)
          · (try simp only [dSeq, dNext, dDrop, dAsg, dAsgG, dRet, dIfS, dPar, dVar, dC, dU, dOp, dTst, dAnd, dOr, dNot, dAndV, dNotV, dChain, dIf, dNil, dCons, dStar, dTup, dLst, dCall, dItL, dItT, dRng1, dRng2, dEnum, gdName, gdTup2, gdTup3, dYes, wipeR, dAppend, dExtend, dPopA, dAugL, dCut, dIsi, dLc_eq, dLc2_eq, dFor, dWhile, fAdd, fSub, fLt, fLe, fGt, fGe, fI2_eq, fNeg_eq, fTuple_nis, fTuple_l, fList_l, fList_tN, fCat_eq, unD_nil, unD_d, startR, List.map_cons, List.map_nil, List.length_cons, List.length_nil, List.replicate, List.cons_append, List.nil_append, Nat.zero_add, Nat.reduceAdd, Nat.reduceSub, List.append_nil, List.getElem?_cons_zero, List.getElem?_cons_succ, List.set_cons_zero, List.set_cons_succ, Option.some.injEq, Prod.mk.injEq, Option.map_some, Option.map_none, W.d.injEq, W.l.injEq, PyData.tuple.injEq, PyData.int.injEq, PyData.bool.injEq, PyData.str.injEq, reduceCtorEq, retOk_d, retOk_1, retOk_2, asgOk_d, asgOk_2, and_assoc, exists_and_left, exists_eq_left', exists_eq_left, true_and, and_true, ex_gD, ex_tN, fLen_gD, fLen_tN, fLen_l, len100, Int.toNat_natCast, Nat.reduceLeDiff, isT_ii, isT_ib, isT_tt, isT_ss, is_integer_eq, is_in_eq, is_list_eq, is_list_tN, is_list_gD, if_true, eq_self, Bool.false_eq_true, if_false, ge1, ge2, one_ne, two_ne, true_implies, unD_append, ex_pair, ex_trip, decide_eq_false h5])
            have h6 : s = sLast := by
              unfold rulesL at hr
              simp only [List.mem_cons, List.not_mem_nil, or_false] at hr
              rcases hr with q | q | q | q | q | q
              · exact absurd q h5
              · exact q
              · exact absurd q h
              · exact absurd q h2
              · exact absurd q h3
              · exact absurd q h4
            rcases List.eq_nil_or_concat (movs n g) with e | ⟨ms, p, e⟩
            · exact absurd e hne
            · rw [List.concat_eq_append] at e
              have hp : p ∈ movs n g := by rw [e]; simp
              have hm := mem_movs.mp hp
              rw [e, ← nis_app]
              refine fIxL_last ?_
              (try simp only [dSeq, dNext, dDrop, dAsg, dAsgG, dRet, dIfS, dPar, dVar, dC, dU, dOp, dTst, dAnd, dOr, dNot, dAndV, dNotV, dChain, dIf, dNil, dCons, dStar, dTup, dLst, dCall, dItL, dItT, dRng1, dRng2, dEnum, gdName, gdTup2, gdTup3, dYes, wipeR, dAppend, dExtend, dPopA, dAugL, dCut, dIsi, dLc_eq, dLc2_eq, dFor, dWhile, fAdd, fSub, fLt, fLe, fGt, fGe, fI2_eq, fNeg_eq, fTuple_nis, fTuple_l, fList_l, fList_tN, fCat_eq, unD_nil, unD_d, startR, List.map_cons, List.map_nil, List.length_cons, List.length_nil, List.replicate, List.cons_append, List.nil_append, Nat.zero_add, Nat.reduceAdd, Nat.reduceSub, List.append_nil, List.getElem?_cons_zero, List.getElem?_cons_succ, List.set_cons_zero, List.set_cons_succ, Option.some.injEq, Prod.mk.injEq, Option.map_some, Option.map_none, W.d.injEq, W.l.injEq, PyData.tuple.injEq, PyData.int.injEq, PyData.bool.injEq, PyData.str.injEq, reduceCtorEq, retOk_d, retOk_1, retOk_2, asgOk_d, asgOk_2, and_assoc, exists_and_left, exists_eq_left', exists_eq_left, true_and, and_true, ex_gD, ex_tN, fLen_gD, fLen_tN, fLen_l, len100, Int.toNat_natCast, Nat.reduceLeDiff, isT_ii, isT_ib, isT_tt, isT_ss, is_integer_eq, is_in_eq, is_list_eq, is_list_tN, is_list_gD, if_true, eq_self, Bool.false_eq_true, if_false, ge1, ge2, one_ne, two_ne, true_implies, unD_append, ex_pair, ex_trip])
              refine r p ⟨hm.1, hm.2, no h6 (by decide +kernel), no h6 (by decide +kernel), no h6 (by decide +kernel), no h6 (by decide +kernel), no h6 (by decide +kernel), fun _ q hq mq => ?_⟩
              have hq := mem_movs.mpr ⟨hq, mq⟩
              have hlt := movs_lt n g
              rw [e] at hq hlt
              rcases List.mem_append.mp hq with hq | hq
              · exact Nat.le_of_lt ((List.pairwise_append.mp hlt).2.2 q hq p (by simp))
              · rw [List.mem_singleton.mp hq]
                exact Nat.le_refl _
theorem sem_row_in : ∀ ws R, sp_row_in ws R → t_row_in { nx := fun _ => R (.d .none), rt := R } (startR ["web", "rule", "found"] ws) := by
  rintro _ R ⟨n, g, s, rfl, o, hs, r⟩
  have hn := o.le
  (try simp only [dSeq, dNext, dDrop, dAsg, dAsgG, dRet, dIfS, dPar, dVar, dC, dU, dOp, dTst, dAnd, dOr, dNot, dAndV, dNotV, dChain, dIf, dNil, dCons, dStar, dTup, dLst, dCall, dItL, dItT, dRng1, dRng2, dEnum, gdName, gdTup2, gdTup3, dYes, wipeR, dAppend, dExtend, dPopA, dAugL, dCut, dIsi, dLc_eq, dLc2_eq, dFor, dWhile, fAdd, fSub, fLt, fLe, fGt, fGe, fI2_eq, fNeg_eq, fTuple_nis, fTuple_l, fList_l, fList_tN, fCat_eq, unD_nil, unD_d, startR, List.map_cons, List.map_nil, List.length_cons, List.length_nil, List.replicate, List.cons_append, List.nil_append, Nat.zero_add, Nat.reduceAdd, Nat.reduceSub, List.append_nil, List.getElem?_cons_zero, List.getElem?_cons_succ, List.set_cons_zero, List.set_cons_succ, Option.some.injEq, Prod.mk.injEq, Option.map_some, Option.map_none, W.d.injEq, W.l.injEq, PyData.tuple.injEq, PyData.int.injEq, PyData.bool.injEq, PyData.str.injEq, reduceCtorEq, retOk_d, retOk_1, retOk_2, asgOk_d, asgOk_2, and_assoc, exists_and_left, exists_eq_left', exists_eq_left, true_and, and_true, ex_gD, ex_tN, fLen_gD, fLen_tN, fLen_l, len100, Int.toNat_natCast, Nat.reduceLeDiff, isT_ii, isT_ib, isT_tt, isT_ss, is_integer_eq, is_in_eq, is_list_eq, is_list_tN, is_list_gD, if_true, eq_self, Bool.false_eq_true, if_false, ge1, ge2, one_ne, two_ne, true_implies, unD_append, ex_pair, ex_trip, t_row_in])
  refine ⟨fun m ρ' => ∃ (g' : Adj) (row : List Nat) (f : Bool), (m = 15 - cnt n g' ∧ Ok n g' ∧ row.length ≤ cnt n g' ∧ ∀ l, RR n s g' l → RR n s g (row ++ l)) ∧ ρ' = [some (.d (gD n g'), f), some (.d (.str s), false), some (.l (nis row), true)], ⟨_, g, [], false, ⟨rfl, o, Nat.zero_le _, fun l h => h⟩, rfl⟩, ?_⟩
  rintro m _ ⟨g', row, f, ⟨rfl, o', hl, hr⟩, rfl⟩
  (try simp only [dSeq, dNext, dDrop, dAsg, dAsgG, dRet, dIfS, dPar, dVar, dC, dU, dOp, dTst, dAnd, dOr, dNot, dAndV, dNotV, dChain, dIf, dNil, dCons, dStar, dTup, dLst, dCall, dItL, dItT, dRng1, dRng2, dEnum, gdName, gdTup2, gdTup3, dYes, wipeR, dAppend, dExtend, dPopA, dAugL, dCut, dIsi, dLc_eq, dLc2_eq, dFor, dWhile, fAdd, fSub, fLt, fLe, fGt, fGe, fI2_eq, fNeg_eq, fTuple_nis, fTuple_l, fList_l, fList_tN, fCat_eq, unD_nil, unD_d, startR, List.map_cons, List.map_nil, List.length_cons, List.length_nil, List.replicate, List.cons_append, List.nil_append, Nat.zero_add, Nat.reduceAdd, Nat.reduceSub, List.append_nil, List.getElem?_cons_zero, List.getElem?_cons_succ, List.set_cons_zero, List.set_cons_succ, Option.some.injEq, Prod.mk.injEq, Option.map_some, Option.map_none, W.d.injEq, W.l.injEq, PyData.tuple.injEq, PyData.int.injEq, PyData.bool.injEq, PyData.str.injEq, reduceCtorEq, retOk_d, retOk_1, retOk_2, asgOk_d, asgOk_2, and_assoc, exists_and_left, exists_eq_left', exists_eq_left, true_and, and_true, ex_gD, ex_tN, fLen_gD, fLen_tN, fLen_l, len100, Int.toNat_natCast, Nat.reduceLeDiff, isT_ii, isT_ib, isT_tt, isT_ss, is_integer_eq, is_in_eq, is_list_eq, is_list_tN, is_list_gD, if_true, eq_self, Bool.false_eq_true, if_false, ge1, ge2, one_ne, two_ne, true_implies, unD_append, ex_pair, ex_trip])
  refine c_movers_in o' ?_
  rw [fNe_nil]
  (try simp only [dSeq, dNext, dDrop, dAsg, dAsgG, dRet, dIfS, dPar, dVar, dC, dU, dOp, dTst, dAnd, dOr, dNot, dAndV, dNotV, dChain, dIf, dNil, dCons, dStar, dTup, dLst, dCall, dItL, dItT, dRng1, dRng2, dEnum, gdName, gdTup2, gdTup3, dYes, wipeR, dAppend, dExtend, dPopA, dAugL, dCut, dIsi, dLc_eq, dLc2_eq, dFor, dWhile, fAdd, fSub, fLt, fLe, fGt, fGe, fI2_eq, fNeg_eq, fTuple_nis, fTuple_l, fList_l, fList_tN, fCat_eq, unD_nil, unD_d, startR, List.map_cons, List.map_nil, List.length_cons, List.length_nil, List.replicate, List.cons_append, List.nil_append, Nat.zero_add, Nat.reduceAdd, Nat.reduceSub, List.append_nil, List.getElem?_cons_zero, List.getElem?_cons_succ, List.set_cons_zero, List.set_cons_succ, Option.some.injEq, Prod.mk.injEq, Option.map_some, Option.map_none, W.d.injEq, W.l.injEq, PyData.tuple.injEq, PyData.int.injEq, PyData.bool.injEq, PyData.str.injEq, reduceCtorEq, retOk_d, retOk_1, retOk_2, asgOk_d, asgOk_2, and_assoc, exists_and_left, exists_eq_left', exists_eq_left, true_and, and_true, ex_gD, ex_tN, fLen_gD, fLen_tN, fLen_l, len100, Int.toNat_natCast, Nat.reduceLeDiff, isT_ii, isT_ib, isT_tt, isT_ss, is_integer_eq, is_in_eq, is_list_eq, is_list_tN, is_list_gD, if_true, eq_self, Bool.false_eq_true, if_false, ge1, ge2, one_ne, two_ne, true_implies, unD_append, ex_pair, ex_trip])
  by_cases h : movs n g' = []
  · (try simp only [dSeq, dNext, dDrop, dAsg, dAsgG, dRet, dIfS, dPar, dVar, dC, dU, dOp, dTst, dAnd, dOr, dNot, dAndV, dNotV, dChain, dIf, dNil, dCons, dStar, dTup, dLst, dCall, dItL, dItT, dRng1, dRng2, dEnum, gdName, gdTup2, gdTup3, dYes, wipeR, dAppend, dExtend, dPopA, dAugL, dCut, dIsi, dLc_eq, dLc2_eq, dFor, dWhile, fAdd, fSub, fLt, fLe, fGt, fGe, fI2_eq, fNeg_eq, fTuple_nis, fTuple_l, fList_l, fList_tN, fCat_eq, unD_nil, unD_d, startR, List.map_cons, List.map_nil, List.length_cons, List.length_nil, List.replicate, List.cons_append, List.nil_append, Nat.zero_add, Nat.reduceAdd, Nat.reduceSub, List.append_nil, List.getElem?_cons_zero, List.getElem?_cons_succ, List.set_cons_zero, List.set_cons_succ, Option.some.injEq, Prod.mk.injEq, Option.map_some, Option.map_none, W.d.injEq, W.l.injEq, PyData.tuple.injEq, PyData.int.injEq, PyData.bool.injEq, PyData.str.injEq, reduceCtorEq, retOk_d, retOk_1, retOk_2, asgOk_d, asgOk_2, and_assoc, exists_and_left, exists_eq_left', exists_eq_left, true_and, and_true, ex_gD, ex_tN, fLen_gD, fLen_tN, fLen_l, len100, Int.toNat_natCast, Nat.reduceLeDiff, isT_ii, isT_ib, isT_tt, isT_ss, is_integer_eq, is_in_eq, is_list_eq, is_list_tN, is_list_gD, if_true, eq_self, Bool.false_eq_true, if_false, ge1, ge2, one_ne, two_ne, true_implies, unD_append, ex_pair, ex_trip, h, decide_true, Bool.not_true])
    have := hr [] (.done fun q hq m => by
      have := mem_movs.mpr ⟨hq, m⟩
      rw [h] at this
      cases this)
    rw [List.append_nil] at this
    exact r row this
  · (try simp only [dSeq, dNext, dDrop, dAsg, dAsgG, dRet, dIfS, dPar, dVar, dC, dU, dOp, dTst, dAnd, dOr, dNot, dAndV, dNotV, dChain, dIf, dNil, dCons, dStar, dTup, dLst, dCall, dItL, dItT, dRng1, dRng2, dEnum, gdName, gdTup2, gdTup3, dYes, wipeR, dAppend, dExtend, dPopA, dAugL, dCut, dIsi, dLc_eq, dLc2_eq, dFor, dWhile, fAdd, fSub, fLt, fLe, fGt, fGe, fI2_eq, fNeg_eq, fTuple_nis, fTuple_l, fList_l, fList_tN, fCat_eq, unD_nil, unD_d, startR, List.map_cons, List.map_nil, List.length_cons, List.length_nil, List.replicate, List.cons_append, List.nil_append, Nat.zero_add, Nat.reduceAdd, Nat.reduceSub, List.append_nil, List.getElem?_cons_zero, List.getElem?_cons_succ, List.set_cons_zero, List.set_cons_succ, Option.some.injEq, Prod.mk.injEq, Option.map_some, Option.map_none, W.d.injEq, W.l.injEq, PyData.tuple.injEq, PyData.int.injEq, PyData.bool.injEq, PyData.str.injEq, reduceCtorEq, retOk_d, retOk_1, retOk_2, asgOk_d, asgOk_2, and_assoc, exists_and_left, exists_eq_left', exists_eq_left, true_and, and_true, ex_gD, ex_tN, fLen_gD, fLen_tN, fLen_l, len100, Int.toNat_natCast, Nat.reduceLeDiff, isT_ii, isT_ib, isT_tt, isT_ss, is_integer_eq, is_in_eq, is_list_eq, is_list_tN, is_list_gD, if_true, eq_self, Bool.false_eq_true, if_false, ge1, ge2, one_ne, two_ne, true_implies, unD_append, ex_pair, ex_trip, h, decide_false, Bool.not_false])
    refine c_next_in o' hs ?_ fun p hp => ?_
    · cases e : movs n g' with
      | nil => exact absurd e h
      | cons p ms =>
        have : p ∈ movs n g' := by rw [e]; exact List.mem_cons_self ..
        exact ⟨p, mem_movs.mp this⟩
    · (try simp only [dSeq, dNext, dDrop, dAsg, dAsgG, dRet, dIfS, dPar, dVar, dC, dU, dOp, dTst, dAnd, dOr, dNot, dAndV, dNotV, dChain, dIf, dNil, dCons, dStar, dTup, dLst, dCall, dItL, dItT, dRng1, dRng2, dEnum, gdName, gdTup2, gdTup3, dYes, wipeR, dAppend, dExtend, dPopA, dAugL, dCut, dIsi, dLc_eq, dLc2_eq, dFor, dWhile, fAdd, fSub, fLt, fLe, fGt, fGe, fI2_eq, fNeg_eq, fTuple_nis, fTuple_l, fList_l, fList_tN, fCat_eq, unD_nil, unD_d, startR, List.map_cons, List.map_nil, List.length_cons, List.length_nil, List.replicate, List.cons_append, List.nil_append, Nat.zero_add, Nat.reduceAdd, Nat.reduceSub, List.append_nil, List.getElem?_cons_zero, List.getElem?_cons_succ, List.set_cons_zero, List.set_cons_succ, Option.some.injEq, Prod.mk.injEq, Option.map_some, Option.map_none, W.d.injEq, W.l.injEq, PyData.tuple.injEq, PyData.int.injEq, PyData.bool.injEq, PyData.str.injEq, reduceCtorEq, retOk_d, retOk_1, retOk_2, asgOk_d, asgOk_2, and_assoc, exists_and_left, exists_eq_left', exists_eq_left, true_and, and_true, ex_gD, ex_tN, fLen_gD, fLen_tN, fLen_l, len100, Int.toNat_natCast, Nat.reduceLeDiff, isT_ii, isT_ib, isT_tt, isT_ss, is_integer_eq, is_in_eq, is_list_eq, is_list_tN, is_list_gD, if_true, eq_self, Bool.false_eq_true, if_false, ge1, ge2, one_ne, two_ne, true_implies, unD_append, ex_pair, ex_trip])
      have le := cnt_le g' hn
      have up := mv_lt o' hp.mv
      have le2 := cnt_le (callG g' p) hn
      refine ⟨by rw [nis_len]; omega, ?_⟩
      refine fIxL_last ?_
      refine c_call_in o' hp.lt ?_
      (try simp only [dSeq, dNext, dDrop, dAsg, dAsgG, dRet, dIfS, dPar, dVar, dC, dU, dOp, dTst, dAnd, dOr, dNot, dAndV, dNotV, dChain, dIf, dNil, dCons, dStar, dTup, dLst, dCall, dItL, dItT, dRng1, dRng2, dEnum, gdName, gdTup2, gdTup3, dYes, wipeR, dAppend, dExtend, dPopA, dAugL, dCut, dIsi, dLc_eq, dLc2_eq, dFor, dWhile, fAdd, fSub, fLt, fLe, fGt, fGe, fI2_eq, fNeg_eq, fTuple_nis, fTuple_l, fList_l, fList_tN, fCat_eq, unD_nil, unD_d, startR, List.map_cons, List.map_nil, List.length_cons, List.length_nil, List.replicate, List.cons_append, List.nil_append, Nat.zero_add, Nat.reduceAdd, Nat.reduceSub, List.append_nil, List.getElem?_cons_zero, List.getElem?_cons_succ, List.set_cons_zero, List.set_cons_succ, Option.some.injEq, Prod.mk.injEq, Option.map_some, Option.map_none, W.d.injEq, W.l.injEq, PyData.tuple.injEq, PyData.int.injEq, PyData.bool.injEq, PyData.str.injEq, reduceCtorEq, retOk_d, retOk_1, retOk_2, asgOk_d, asgOk_2, and_assoc, exists_and_left, exists_eq_left', exists_eq_left, true_and, and_true, ex_gD, ex_tN, fLen_gD, fLen_tN, fLen_l, len100, Int.toNat_natCast, Nat.reduceLeDiff, isT_ii, isT_ib, isT_tt, isT_ss, is_integer_eq, is_in_eq, is_list_eq, is_list_tN, is_list_gD, if_true, eq_self, Bool.false_eq_true, if_false, ge1, ge2, one_ne, two_ne, true_implies, unD_append, ex_pair, ex_trip])
      rw [nis_app]
      refine ⟨15 - cnt n (callG g' p), by omega, callG g' p, rfl, o'.call p, row ++ [p], by rw [List.length_append, List.length_singleton]; omega, fun l hl => ?_, _, rfl⟩
      rw [List.append_assoc]
      exact hr (p :: l) (.step hp hl)
end Wk

/-! part SemJ -/
set_option Elab.async false
set_option linter.all false
set_option maxRecDepth 100000
set_option maxHeartbeats 4000000
namespace Wk
open PySem PySem.Spec PyProof.Rows L2 Dw Gg
theorem sorted_rules {k : W → Prop} (h : ∀ rs : List Str, rs.Perm rulesL → k (.l (rs.map PyData.str))) : fSorted (.d rulesD) k := by
  refine ⟨rulesL.map .str, .inr rfl, fun d hd d' hd' => ?_, .inl (.inr fun d hd => ?_), fun d hd => ?_, ?_⟩
  · obtain ⟨i, _, rfl⟩ := List.mem_map.mp hd
    obtain ⟨j, _, rfl⟩ := List.mem_map.mp hd'
    simp [PySem.W.alike]
  · obtain ⟨i, _, rfl⟩ := List.mem_map.mp hd
    exact ⟨fun e => (nomatch e), fun xs e => nomatch e⟩
  · obtain ⟨i, _, rfl⟩ := List.mem_map.mp hd
    simp [PyData.depth]
  · obtain ⟨rs, hp, e⟩ := sort_map PyData.str rulesL
    rw [e]
    exact h rs hp
open Classical in
noncomputable def lenR (n : Nat) (g : Adj) (r : Str) : Nat := if h : ∃ l, RR n r g l then h.choose.length else 0
theorem lenR_eq {n : Nat} {g : Adj} {r : Str} {l : List Nat} (o : Ok n g) (hr : r ∈ rulesL) (h : RR n r g l) : lenR n g r = l.length := by
  have q : ∃ l, RR n r g l := ⟨l, h⟩
  unfold lenR
  rw [dif_pos q, rr_one hr o q.choose_spec h]
theorem sem_rule_lengths : ∀ ws R, sp_rule_lengths ws R → t_rule_lengths { nx := fun _ => R (.d .none), rt := R } (startR ["web", "rule"] ws) := by
  rintro _ R ⟨n, g, rfl, o, r⟩
  have hn := o.le
  (try simp only [dSeq, dNext, dDrop, dAsg, dAsgG, dRet, dIfS, dPar, dVar, dC, dU, dOp, dTst, dAnd, dOr, dNot, dAndV, dNotV, dChain, dIf, dNil, dCons, dStar, dTup, dLst, dCall, dItL, dItT, dRng1, dRng2, dEnum, gdName, gdTup2, gdTup3, dYes, wipeR, dAppend, dExtend, dPopA, dAugL, dCut, dIsi, dLc_eq, dLc2_eq, dFor, dWhile, fAdd, fSub, fLt, fLe, fGt, fGe, fI2_eq, fNeg_eq, fTuple_nis, fTuple_l, fList_l, fList_tN, fCat_eq, unD_nil, unD_d, startR, List.map_cons, List.map_nil, List.length_cons, List.length_nil, List.replicate, List.cons_append, List.nil_append, Nat.zero_add, Nat.reduceAdd, Nat.reduceSub, List.append_nil, List.getElem?_cons_zero, List.getElem?_cons_succ, List.set_cons_zero, List.set_cons_succ, Option.some.injEq, Prod.mk.injEq, Option.map_some, Option.map_none, W.d.injEq, W.l.injEq, PyData.tuple.injEq, PyData.int.injEq, PyData.bool.injEq, PyData.str.injEq, reduceCtorEq, retOk_d, retOk_1, retOk_2, asgOk_d, asgOk_2, and_assoc, exists_and_left, exists_eq_left', exists_eq_left, true_and, and_true, ex_gD, ex_tN, fLen_gD, fLen_tN, fLen_l, len100, Int.toNat_natCast, Nat.reduceLeDiff, isT_ii, isT_ib, isT_tt, isT_ss, is_integer_eq, is_in_eq, is_list_eq, is_list_tN, is_list_gD, if_true, eq_self, Bool.false_eq_true, if_false, ge1, ge2, one_ne, two_ne, true_implies, unD_append, ex_pair, ex_trip, t_rule_lengths])
  refine c_need_web o ?_
  refine sorted_rules fun rs hp => ?_
  have l6 : rs.length = 6 := hp.length_eq
  (try simp only [dSeq, dNext, dDrop, dAsg, dAsgG, dRet, dIfS, dPar, dVar, dC, dU, dOp, dTst, dAnd, dOr, dNot, dAndV, dNotV, dChain, dIf, dNil, dCons, dStar, dTup, dLst, dCall, dItL, dItT, dRng1, dRng2, dEnum, gdName, gdTup2, gdTup3, dYes, wipeR, dAppend, dExtend, dPopA, dAugL, dCut, dIsi, dLc_eq, dLc2_eq, dFor, dWhile, fAdd, fSub, fLt, fLe, fGt, fGe, fI2_eq, fNeg_eq, fTuple_nis, fTuple_l, fList_l, fList_tN, fCat_eq, unD_nil, unD_d, startR, List.map_cons, List.map_nil, List.length_cons, List.length_nil, List.replicate, List.cons_append, List.nil_append, Nat.zero_add, Nat.reduceAdd, Nat.reduceSub, List.append_nil, List.getElem?_cons_zero, List.getElem?_cons_succ, List.set_cons_zero, List.set_cons_succ, Option.some.injEq, Prod.mk.injEq, Option.map_some, Option.map_none, W.d.injEq, W.l.injEq, PyData.tuple.injEq, PyData.int.injEq, PyData.bool.injEq, PyData.str.injEq, reduceCtorEq, retOk_d, retOk_1, retOk_2, asgOk_d, asgOk_2, and_assoc, exists_and_left, exists_eq_left', exists_eq_left, true_and, and_true, ex_gD, ex_tN, fLen_gD, fLen_tN, fLen_l, len100, Int.toNat_natCast, Nat.reduceLeDiff, isT_ii, isT_ib, isT_tt, isT_ss, is_integer_eq, is_in_eq, is_list_eq, is_list_tN, is_list_gD, if_true, eq_self, Bool.false_eq_true, if_false, ge1, ge2, one_ne, two_ne, true_implies, unD_append, ex_pair, ex_trip])
  refine ⟨by rw [List.length_map]; omega, ?_⟩
  refine lcT (fun s => .tuple [.str s, nI (lenR n g s)]) (fun a _ b _ => str_inj) (fun s hs => ?_) ?_
  · have hs := hp.mem_iff.mp hs
    (try simp only [dSeq, dNext, dDrop, dAsg, dAsgG, dRet, dIfS, dPar, dVar, dC, dU, dOp, dTst, dAnd, dOr, dNot, dAndV, dNotV, dChain, dIf, dNil, dCons, dStar, dTup, dLst, dCall, dItL, dItT, dRng1, dRng2, dEnum, gdName, gdTup2, gdTup3, dYes, wipeR, dAppend, dExtend, dPopA, dAugL, dCut, dIsi, dLc_eq, dLc2_eq, dFor, dWhile, fAdd, fSub, fLt, fLe, fGt, fGe, fI2_eq, fNeg_eq, fTuple_nis, fTuple_l, fList_l, fList_tN, fCat_eq, unD_nil, unD_d, startR, List.map_cons, List.map_nil, List.length_cons, List.length_nil, List.replicate, List.cons_append, List.nil_append, Nat.zero_add, Nat.reduceAdd, Nat.reduceSub, List.append_nil, List.getElem?_cons_zero, List.getElem?_cons_succ, List.set_cons_zero, List.set_cons_succ, Option.some.injEq, Prod.mk.injEq, Option.map_some, Option.map_none, W.d.injEq, W.l.injEq, PyData.tuple.injEq, PyData.int.injEq, PyData.bool.injEq, PyData.str.injEq, reduceCtorEq, retOk_d, retOk_1, retOk_2, asgOk_d, asgOk_2, and_assoc, exists_and_left, exists_eq_left', exists_eq_left, true_and, and_true, ex_gD, ex_tN, fLen_gD, fLen_tN, fLen_l, len100, Int.toNat_natCast, Nat.reduceLeDiff, isT_ii, isT_ib, isT_tt, isT_ss, is_integer_eq, is_in_eq, is_list_eq, is_list_tN, is_list_gD, if_true, eq_self, Bool.false_eq_true, if_false, ge1, ge2, one_ne, two_ne, true_implies, unD_append, ex_pair, ex_trip])
    refine c_row_in o hs fun l hl => ?_
    (try simp only [dSeq, dNext, dDrop, dAsg, dAsgG, dRet, dIfS, dPar, dVar, dC, dU, dOp, dTst, dAnd, dOr, dNot, dAndV, dNotV, dChain, dIf, dNil, dCons, dStar, dTup, dLst, dCall, dItL, dItT, dRng1, dRng2, dEnum, gdName, gdTup2, gdTup3, dYes, wipeR, dAppend, dExtend, dPopA, dAugL, dCut, dIsi, dLc_eq, dLc2_eq, dFor, dWhile, fAdd, fSub, fLt, fLe, fGt, fGe, fI2_eq, fNeg_eq, fTuple_nis, fTuple_l, fList_l, fList_tN, fCat_eq, unD_nil, unD_d, startR, List.map_cons, List.map_nil, List.length_cons, List.length_nil, List.replicate, List.cons_append, List.nil_append, Nat.zero_add, Nat.reduceAdd, Nat.reduceSub, List.append_nil, List.getElem?_cons_zero, List.getElem?_cons_succ, List.set_cons_zero, List.set_cons_succ, Option.some.injEq, Prod.mk.injEq, Option.map_some, Option.map_none, W.d.injEq, W.l.injEq, PyData.tuple.injEq, PyData.int.injEq, PyData.bool.injEq, PyData.str.injEq, reduceCtorEq, retOk_d, retOk_1, retOk_2, asgOk_d, asgOk_2, and_assoc, exists_and_left, exists_eq_left', exists_eq_left, true_and, and_true, ex_gD, ex_tN, fLen_gD, fLen_tN, fLen_l, len100, Int.toNat_natCast, Nat.reduceLeDiff, isT_ii, isT_ib, isT_tt, isT_ss, is_integer_eq, is_in_eq, is_list_eq, is_list_tN, is_list_gD, if_true, eq_self, Bool.false_eq_true, if_false, ge1, ge2, one_ne, two_ne, true_implies, unD_append, ex_pair, ex_trip])
    rw [nis_len, lenR_eq o hs hl]
  · (try simp only [dSeq, dNext, dDrop, dAsg, dAsgG, dRet, dIfS, dPar, dVar, dC, dU, dOp, dTst, dAnd, dOr, dNot, dAndV, dNotV, dChain, dIf, dNil, dCons, dStar, dTup, dLst, dCall, dItL, dItT, dRng1, dRng2, dEnum, gdName, gdTup2, gdTup3, dYes, wipeR, dAppend, dExtend, dPopA, dAugL, dCut, dIsi, dLc_eq, dLc2_eq, dFor, dWhile, fAdd, fSub, fLt, fLe, fGt, fGe, fI2_eq, fNeg_eq, fTuple_nis, fTuple_l, fList_l, fList_tN, fCat_eq, unD_nil, unD_d, startR, List.map_cons, List.map_nil, List.length_cons, List.length_nil, List.replicate, List.cons_append, List.nil_append, Nat.zero_add, Nat.reduceAdd, Nat.reduceSub, List.append_nil, List.getElem?_cons_zero, List.getElem?_cons_succ, List.set_cons_zero, List.set_cons_succ, Option.some.injEq, Prod.mk.injEq, Option.map_some, Option.map_none, W.d.injEq, W.l.injEq, PyData.tuple.injEq, PyData.int.injEq, PyData.bool.injEq, PyData.str.injEq, reduceCtorEq, retOk_d, retOk_1, retOk_2, asgOk_d, asgOk_2, and_assoc, exists_and_left, exists_eq_left', exists_eq_left, true_and, and_true, ex_gD, ex_tN, fLen_gD, fLen_tN, fLen_l, len100, Int.toNat_natCast, Nat.reduceLeDiff, isT_ii, isT_ib, isT_tt, isT_ss, is_integer_eq, is_in_eq, is_list_eq, is_list_tN, is_list_gD, if_true, eq_self, Bool.false_eq_true, if_false, ge1, ge2, one_ne, two_ne, true_implies, unD_append, ex_pair, ex_trip])
    refine r rs (lenR n g) l6 (hp.mem_iff.mpr (by decide +kernel)) (fun s hs => hp.mem_iff.mp hs) fun s hs => ?_
    have hs := hp.mem_iff.mp hs
    obtain ⟨l, hl⟩ := rr_ex hs _ o rfl
    exact ⟨l, hl, lenR_eq o hs hl⟩
theorem sem_best_rule : ∀ ws R, sp_best_rule ws R → t_best_rule { nx := fun _ => R (.d .none), rt := R } (startR ["web", "rule"] ws) := by
  rintro _ R ⟨n, g, rfl, o, r⟩
  have hn := o.le
  (try simp only [dSeq, dNext, dDrop, dAsg, dAsgG, dRet, dIfS, dPar, dVar, dC, dU, dOp, dTst, dAnd, dOr, dNot, dAndV, dNotV, dChain, dIf, dNil, dCons, dStar, dTup, dLst, dCall, dItL, dItT, dRng1, dRng2, dEnum, gdName, gdTup2, gdTup3, dYes, wipeR, dAppend, dExtend, dPopA, dAugL, dCut, dIsi, dLc_eq, dLc2_eq, dFor, dWhile, fAdd, fSub, fLt, fLe, fGt, fGe, fI2_eq, fNeg_eq, fTuple_nis, fTuple_l, fList_l, fList_tN, fCat_eq, unD_nil, unD_d, startR, List.map_cons, List.map_nil, List.length_cons, List.length_nil, List.replicate, List.cons_append, List.nil_append, Nat.zero_add, Nat.reduceAdd, Nat.reduceSub, List.append_nil, List.getElem?_cons_zero, List.getElem?_cons_succ, List.set_cons_zero, List.set_cons_succ, Option.some.injEq, Prod.mk.injEq, Option.map_some, Option.map_none, W.d.injEq, W.l.injEq, PyData.tuple.injEq, PyData.int.injEq, PyData.bool.injEq, PyData.str.injEq, reduceCtorEq, retOk_d, retOk_1, retOk_2, asgOk_d, asgOk_2, and_assoc, exists_and_left, exists_eq_left', exists_eq_left, true_and, and_true, ex_gD, ex_tN, fLen_gD, fLen_tN, fLen_l, len100, Int.toNat_natCast, Nat.reduceLeDiff, isT_ii, isT_ib, isT_tt, isT_ss, is_integer_eq, is_in_eq, is_list_eq, is_list_tN, is_list_gD, if_true, eq_self, Bool.false_eq_true, if_false, ge1, ge2, one_ne, two_ne, true_implies, unD_append, ex_pair, ex_trip, t_best_rule])
  refine c_need_web o ?_
  refine sorted_rules fun rs hp => ?_
  have l6 : rs.length = 6 := hp.length_eq
  (try simp only [dSeq, dNext, dDrop, dAsg, dAsgG, dRet, dIfS, dPar, dVar, dC, dU, dOp, dTst, dAnd, dOr, dNot, dAndV, dNotV, dChain, dIf, dNil, dCons, dStar, dTup, dLst, dCall, dItL, dItT, dRng1, dRng2, dEnum, gdName, gdTup2, gdTup3, dYes, wipeR, dAppend, dExtend, dPopA, dAugL, dCut, dIsi, dLc_eq, dLc2_eq, dFor, dWhile, fAdd, fSub, fLt, fLe, fGt, fGe, fI2_eq, fNeg_eq, fTuple_nis, fTuple_l, fList_l, fList_tN, fCat_eq, unD_nil, unD_d, startR, List.map_cons, List.map_nil, List.length_cons, List.length_nil, List.replicate, List.cons_append, List.nil_append, Nat.zero_add, Nat.reduceAdd, Nat.reduceSub, List.append_nil, List.getElem?_cons_zero, List.getElem?_cons_succ, List.set_cons_zero, List.set_cons_succ, Option.some.injEq, Prod.mk.injEq, Option.map_some, Option.map_none, W.d.injEq, W.l.injEq, PyData.tuple.injEq, PyData.int.injEq, PyData.bool.injEq, PyData.str.injEq, reduceCtorEq, retOk_d, retOk_1, retOk_2, asgOk_d, asgOk_2, and_assoc, exists_and_left, exists_eq_left', exists_eq_left, true_and, and_true, ex_gD, ex_tN, fLen_gD, fLen_tN, fLen_l, len100, Int.toNat_natCast, Nat.reduceLeDiff, isT_ii, isT_ib, isT_tt, isT_ss, is_integer_eq, is_in_eq, is_list_eq, is_list_tN, is_list_gD, if_true, eq_self, Bool.false_eq_true, if_false, ge1, ge2, one_ne, two_ne, true_implies, unD_append, ex_pair, ex_trip])
  refine ⟨by rw [List.length_map]; omega, ?_⟩
  refine lcT (fun s => .tuple [nI (lenR n g s), .str s]) (fun a _ b _ => str_inj) (fun s hs => ?_) ?_
  · have hs := hp.mem_iff.mp hs
    (try simp only [dSeq, dNext, dDrop, dAsg, dAsgG, dRet, dIfS, dPar, dVar, dC, dU, dOp, dTst, dAnd, dOr, dNot, dAndV, dNotV, dChain, dIf, dNil, dCons, dStar, dTup, dLst, dCall, dItL, dItT, dRng1, dRng2, dEnum, gdName, gdTup2, gdTup3, dYes, wipeR, dAppend, dExtend, dPopA, dAugL, dCut, dIsi, dLc_eq, dLc2_eq, dFor, dWhile, fAdd, fSub, fLt, fLe, fGt, fGe, fI2_eq, fNeg_eq, fTuple_nis, fTuple_l, fList_l, fList_tN, fCat_eq, unD_nil, unD_d, startR, List.map_cons, List.map_nil, List.length_cons, List.length_nil, List.replicate, List.cons_append, List.nil_append, Nat.zero_add, Nat.reduceAdd, Nat.reduceSub, List.append_nil, List.getElem?_cons_zero, List.getElem?_cons_succ, List.set_cons_zero, List.set_cons_succ, Option.some.injEq, Prod.mk.injEq, Option.map_some, Option.map_none, W.d.injEq, W.l.injEq, PyData.tuple.injEq, PyData.int.injEq, PyData.bool.injEq, PyData.str.injEq, reduceCtorEq, retOk_d, retOk_1, retOk_2, asgOk_d, asgOk_2, and_assoc, exists_and_left, exists_eq_left', exists_eq_left, true_and, and_true, ex_gD, ex_tN, fLen_gD, fLen_tN, fLen_l, len100, Int.toNat_natCast, Nat.reduceLeDiff, isT_ii, isT_ib, isT_tt, isT_ss, is_integer_eq, is_in_eq, is_list_eq, is_list_tN, is_list_gD, if_true, eq_self, Bool.false_eq_true, if_false, ge1, ge2, one_ne, two_ne, true_implies, unD_append, ex_pair, ex_trip])
    refine c_row_in o hs fun l hl => ?_
    (try simp only [dSeq, dNext, dDrop, dAsg, dAsgG, dRet, dIfS, dPar, dVar, dC, dU, dOp, dTst, dAnd, dOr, dNot, dAndV, dNotV, dChain, dIf, dNil, dCons, dStar, dTup, dLst, dCall, dItL, dItT, dRng1, dRng2, dEnum, gdName, gdTup2, gdTup3, dYes, wipeR, dAppend, dExtend, dPopA, dAugL, dCut, dIsi, dLc_eq, dLc2_eq, dFor, dWhile, fAdd, fSub, fLt, fLe, fGt, fGe, fI2_eq, fNeg_eq, fTuple_nis, fTuple_l, fList_l, fList_tN, fCat_eq, unD_nil, unD_d, startR, List.map_cons, List.map_nil, List.length_cons, List.length_nil, List.replicate, List.cons_append, List.nil_append, Nat.zero_add, Nat.reduceAdd, Nat.reduceSub, List.append_nil, List.getElem?_cons_zero, List.getElem?_cons_succ, List.set_cons_zero, List.set_cons_succ, Option.some.injEq, Prod.mk.injEq, Option.map_some, Option.map_none, W.d.injEq, W.l.injEq, PyData.tuple.injEq, PyData.int.injEq, PyData.bool.injEq, PyData.str.injEq, reduceCtorEq, retOk_d, retOk_1, retOk_2, asgOk_d, asgOk_2, and_assoc, exists_and_left, exists_eq_left', exists_eq_left, true_and, and_true, ex_gD, ex_tN, fLen_gD, fLen_tN, fLen_l, len100, Int.toNat_natCast, Nat.reduceLeDiff, isT_ii, isT_ib, isT_tt, isT_ss, is_integer_eq, is_in_eq, is_list_eq, is_list_tN, is_list_gD, if_true, eq_self, Bool.false_eq_true, if_false, ge1, ge2, one_ne, two_ne, true_implies, unD_append, ex_pair, ex_trip])
    rw [nis_len, lenR_eq o hs hl]
  · have mr : sMany ∈ rs := hp.mem_iff.mpr (by decide +kernel)
    refine min_pairs (fun e => by rw [e] at l6; cases l6) (fun a _ b _ => by simp [PySem.W.alike, PySem.W.alikeAll]) (fun a _ => ⟨_, _, rfl⟩) (fun a ha => ?_) fun s hs hm => ?_
    · have h1 := (sh_rule (hp.mem_iff.mp ha))
      have h2 : Sh 1 (.tuple [nI (lenR n g a), .str a]) := .tup fun x hx => by
        rcases List.mem_cons.mp hx with rfl | hx
        · exact .int _
        · rw [List.mem_singleton.mp hx]
          exact h1
      exact ⟨h2.lay, by have := h2.dep; omega⟩
    · (try simp only [dSeq, dNext, dDrop, dAsg, dAsgG, dRet, dIfS, dPar, dVar, dC, dU, dOp, dTst, dAnd, dOr, dNot, dAndV, dNotV, dChain, dIf, dNil, dCons, dStar, dTup, dLst, dCall, dItL, dItT, dRng1, dRng2, dEnum, gdName, gdTup2, gdTup3, dYes, wipeR, dAppend, dExtend, dPopA, dAugL, dCut, dIsi, dLc_eq, dLc2_eq, dFor, dWhile, fAdd, fSub, fLt, fLe, fGt, fGe, fI2_eq, fNeg_eq, fTuple_nis, fTuple_l, fList_l, fList_tN, fCat_eq, unD_nil, unD_d, startR, List.map_cons, List.map_nil, List.length_cons, List.length_nil, List.replicate, List.cons_append, List.nil_append, Nat.zero_add, Nat.reduceAdd, Nat.reduceSub, List.append_nil, List.getElem?_cons_zero, List.getElem?_cons_succ, List.set_cons_zero, List.set_cons_succ, Option.some.injEq, Prod.mk.injEq, Option.map_some, Option.map_none, W.d.injEq, W.l.injEq, PyData.tuple.injEq, PyData.int.injEq, PyData.bool.injEq, PyData.str.injEq, reduceCtorEq, retOk_d, retOk_1, retOk_2, asgOk_d, asgOk_2, and_assoc, exists_and_left, exists_eq_left', exists_eq_left, true_and, and_true, ex_gD, ex_tN, fLen_gD, fLen_tN, fLen_l, len100, Int.toNat_natCast, Nat.reduceLeDiff, isT_ii, isT_ib, isT_tt, isT_ss, is_integer_eq, is_in_eq, is_list_eq, is_list_tN, is_list_gD, if_true, eq_self, Bool.false_eq_true, if_false, ge1, ge2, one_ne, two_ne, true_implies, unD_append, ex_pair, ex_trip])
      have hs' := hp.mem_iff.mp hs
      obtain ⟨l, hl⟩ := rr_ex hs' _ o rfl
      obtain ⟨l2, hl2⟩ := rr_ex (r := sMany) (by decide +kernel) _ o rfl
      have := hm sMany mr
      simp only [fstI] at this
      refine r (lenR n g s) s ⟨l, hl, lenR_eq o hs' hl⟩ ⟨l2, hl2, ?_⟩
      rw [← lenR_eq o (by decide +kernel) hl2]
      omega
theorem sem_most_pairs_by : ∀ ws R, sp_most_pairs_by ws R → t_most_pairs_by { nx := fun _ => R (.d .none), rt := R } (startR ["web", "many", "some", "pairs", "called"] ws) := by
  rintro _ R ⟨n, g, m, rfl, o, h0, h100, r⟩
  have hn := o.le
  have hc := chs_len n hn
  have e1 : (decide ((0 : Int) ≤ m) && decide (m ≤ 100)) = true := by
    rw [decide_eq_true h0, decide_eq_true h100]
    rfl
  (try simp only [dSeq, dNext, dDrop, dAsg, dAsgG, dRet, dIfS, dPar, dVar, dC, dU, dOp, dTst, dAnd, dOr, dNot, dAndV, dNotV, dChain, dIf, dNil, dCons, dStar, dTup, dLst, dCall, dItL, dItT, dRng1, dRng2, dEnum, gdName, gdTup2, gdTup3, dYes, wipeR, dAppend, dExtend, dPopA, dAugL, dCut, dIsi, dLc_eq, dLc2_eq, dFor, dWhile, fAdd, fSub, fLt, fLe, fGt, fGe, fI2_eq, fNeg_eq, fTuple_nis, fTuple_l, fList_l, fList_tN, fCat_eq, unD_nil, unD_d, startR, List.map_cons, List.map_nil, List.length_cons, List.length_nil, List.replicate, List.cons_append, List.nil_append, Nat.zero_add, Nat.reduceAdd, Nat.reduceSub, List.append_nil, List.getElem?_cons_zero, List.getElem?_cons_succ, List.set_cons_zero, List.set_cons_succ, Option.some.injEq, Prod.mk.injEq, Option.map_some, Option.map_none, W.d.injEq, W.l.injEq, PyData.tuple.injEq, PyData.int.injEq, PyData.bool.injEq, PyData.str.injEq, reduceCtorEq, retOk_d, retOk_1, retOk_2, asgOk_d, asgOk_2, and_assoc, exists_and_left, exists_eq_left', exists_eq_left, true_and, and_true, ex_gD, ex_tN, fLen_gD, fLen_tN, fLen_l, len100, Int.toNat_natCast, Nat.reduceLeDiff, isT_ii, isT_ib, isT_tt, isT_ss, is_integer_eq, is_in_eq, is_list_eq, is_list_tN, is_list_gD, if_true, eq_self, Bool.false_eq_true, if_false, ge1, ge2, one_ne, two_ne, true_implies, unD_append, ex_pair, ex_trip, t_most_pairs_by, dNever])
  refine c_need_web o ?_
  (try simp only [dSeq, dNext, dDrop, dAsg, dAsgG, dRet, dIfS, dPar, dVar, dC, dU, dOp, dTst, dAnd, dOr, dNot, dAndV, dNotV, dChain, dIf, dNil, dCons, dStar, dTup, dLst, dCall, dItL, dItT, dRng1, dRng2, dEnum, gdName, gdTup2, gdTup3, dYes, wipeR, dAppend, dExtend, dPopA, dAugL, dCut, dIsi, dLc_eq, dLc2_eq, dFor, dWhile, fAdd, fSub, fLt, fLe, fGt, fGe, fI2_eq, fNeg_eq, fTuple_nis, fTuple_l, fList_l, fList_tN, fCat_eq, unD_nil, unD_d, startR, List.map_cons, List.map_nil, List.length_cons, List.length_nil, List.replicate, List.cons_append, List.nil_append, Nat.zero_add, Nat.reduceAdd, Nat.reduceSub, List.append_nil, List.getElem?_cons_zero, List.getElem?_cons_succ, List.set_cons_zero, List.set_cons_succ, Option.some.injEq, Prod.mk.injEq, Option.map_some, Option.map_none, W.d.injEq, W.l.injEq, PyData.tuple.injEq, PyData.int.injEq, PyData.bool.injEq, PyData.str.injEq, reduceCtorEq, retOk_d, retOk_1, retOk_2, asgOk_d, asgOk_2, and_assoc, exists_and_left, exists_eq_left', exists_eq_left, true_and, and_true, ex_gD, ex_tN, fLen_gD, fLen_tN, fLen_l, len100, Int.toNat_natCast, Nat.reduceLeDiff, isT_ii, isT_ib, isT_tt, isT_ss, is_integer_eq, is_in_eq, is_list_eq, is_list_tN, is_list_gD, if_true, eq_self, Bool.false_eq_true, if_false, ge1, ge2, one_ne, two_ne, true_implies, unD_append, ex_pair, ex_trip, e1, Bool.not_true])
  refine c_choices hn ?_
  (try simp only [dSeq, dNext, dDrop, dAsg, dAsgG, dRet, dIfS, dPar, dVar, dC, dU, dOp, dTst, dAnd, dOr, dNot, dAndV, dNotV, dChain, dIf, dNil, dCons, dStar, dTup, dLst, dCall, dItL, dItT, dRng1, dRng2, dEnum, gdName, gdTup2, gdTup3, dYes, wipeR, dAppend, dExtend, dPopA, dAugL, dCut, dIsi, dLc_eq, dLc2_eq, dFor, dWhile, fAdd, fSub, fLt, fLe, fGt, fGe, fI2_eq, fNeg_eq, fTuple_nis, fTuple_l, fList_l, fList_tN, fCat_eq, unD_nil, unD_d, startR, List.map_cons, List.map_nil, List.length_cons, List.length_nil, List.replicate, List.cons_append, List.nil_append, Nat.zero_add, Nat.reduceAdd, Nat.reduceSub, List.append_nil, List.getElem?_cons_zero, List.getElem?_cons_succ, List.set_cons_zero, List.set_cons_succ, Option.some.injEq, Prod.mk.injEq, Option.map_some, Option.map_none, W.d.injEq, W.l.injEq, PyData.tuple.injEq, PyData.int.injEq, PyData.bool.injEq, PyData.str.injEq, reduceCtorEq, retOk_d, retOk_1, retOk_2, asgOk_d, asgOk_2, and_assoc, exists_and_left, exists_eq_left', exists_eq_left, true_and, and_true, ex_gD, ex_tN, fLen_gD, fLen_tN, fLen_l, len100, Int.toNat_natCast, Nat.reduceLeDiff, isT_ii, isT_ib, isT_tt, isT_ss, is_integer_eq, is_in_eq, is_list_eq, is_list_tN, is_list_gD, if_true, eq_self, Bool.false_eq_true, if_false, ge1, ge2, one_ne, two_ne, true_implies, unD_append, ex_pair, ex_trip])
  refine ⟨by rw [List.length_map]; omega, ?_⟩
  refine lcM (fun S => decide ((S.length : Int) ≤ m)) tN (fun a _ b _ => tN_inj) (fun S hS => ?_) ?_
  · (try simp only [dSeq, dNext, dDrop, dAsg, dAsgG, dRet, dIfS, dPar, dVar, dC, dU, dOp, dTst, dAnd, dOr, dNot, dAndV, dNotV, dChain, dIf, dNil, dCons, dStar, dTup, dLst, dCall, dItL, dItT, dRng1, dRng2, dEnum, gdName, gdTup2, gdTup3, dYes, wipeR, dAppend, dExtend, dPopA, dAugL, dCut, dIsi, dLc_eq, dLc2_eq, dFor, dWhile, fAdd, fSub, fLt, fLe, fGt, fGe, fI2_eq, fNeg_eq, fTuple_nis, fTuple_l, fList_l, fList_tN, fCat_eq, unD_nil, unD_d, startR, List.map_cons, List.map_nil, List.length_cons, List.length_nil, List.replicate, List.cons_append, List.nil_append, Nat.zero_add, Nat.reduceAdd, Nat.reduceSub, List.append_nil, List.getElem?_cons_zero, List.getElem?_cons_succ, List.set_cons_zero, List.set_cons_succ, Option.some.injEq, Prod.mk.injEq, Option.map_some, Option.map_none, W.d.injEq, W.l.injEq, PyData.tuple.injEq, PyData.int.injEq, PyData.bool.injEq, PyData.str.injEq, reduceCtorEq, retOk_d, retOk_1, retOk_2, asgOk_d, asgOk_2, and_assoc, exists_and_left, exists_eq_left', exists_eq_left, true_and, and_true, ex_gD, ex_tN, fLen_gD, fLen_tN, fLen_l, len100, Int.toNat_natCast, Nat.reduceLeDiff, isT_ii, isT_ib, isT_tt, isT_ss, is_integer_eq, is_in_eq, is_list_eq, is_list_tN, is_list_gD, if_true, eq_self, Bool.false_eq_true, if_false, ge1, ge2, one_ne, two_ne, true_implies, unD_append, ex_pair, ex_trip])
    intro _
    trivial
  · (try simp only [dSeq, dNext, dDrop, dAsg, dAsgG, dRet, dIfS, dPar, dVar, dC, dU, dOp, dTst, dAnd, dOr, dNot, dAndV, dNotV, dChain, dIf, dNil, dCons, dStar, dTup, dLst, dCall, dItL, dItT, dRng1, dRng2, dEnum, gdName, gdTup2, gdTup3, dYes, wipeR, dAppend, dExtend, dPopA, dAugL, dCut, dIsi, dLc_eq, dLc2_eq, dFor, dWhile, fAdd, fSub, fLt, fLe, fGt, fGe, fI2_eq, fNeg_eq, fTuple_nis, fTuple_l, fList_l, fList_tN, fCat_eq, unD_nil, unD_d, startR, List.map_cons, List.map_nil, List.length_cons, List.length_nil, List.replicate, List.cons_append, List.nil_append, Nat.zero_add, Nat.reduceAdd, Nat.reduceSub, List.append_nil, List.getElem?_cons_zero, List.getElem?_cons_succ, List.set_cons_zero, List.set_cons_succ, Option.some.injEq, Prod.mk.injEq, Option.map_some, Option.map_none, W.d.injEq, W.l.injEq, PyData.tuple.injEq, PyData.int.injEq, PyData.bool.injEq, PyData.str.injEq, reduceCtorEq, retOk_d, retOk_1, retOk_2, asgOk_d, asgOk_2, and_assoc, exists_and_left, exists_eq_left', exists_eq_left, true_and, and_true, ex_gD, ex_tN, fLen_gD, fLen_tN, fLen_l, len100, Int.toNat_natCast, Nat.reduceLeDiff, isT_ii, isT_ib, isT_tt, isT_ss, is_integer_eq, is_in_eq, is_list_eq, is_list_tN, is_list_gD, if_true, eq_self, Bool.false_eq_true, if_false, ge1, ge2, one_ne, two_ne, true_implies, unD_append, ex_pair, ex_trip])
    have hl := List.length_filter_le (fun S : List Nat => decide ((S.length : Int) ≤ m)) (chs n)
    refine ⟨by rw [List.length_map]; omega, ?_⟩
    refine lcT (fun S => .tuple [.int (-(cnt n (toldG n g S) : Int)), tN S]) (fun a _ b _ => tN_inj) (fun S hS => ?_) ?_
    · (try simp only [dSeq, dNext, dDrop, dAsg, dAsgG, dRet, dIfS, dPar, dVar, dC, dU, dOp, dTst, dAnd, dOr, dNot, dAndV, dNotV, dChain, dIf, dNil, dCons, dStar, dTup, dLst, dCall, dItL, dItT, dRng1, dRng2, dEnum, gdName, gdTup2, gdTup3, dYes, wipeR, dAppend, dExtend, dPopA, dAugL, dCut, dIsi, dLc_eq, dLc2_eq, dFor, dWhile, fAdd, fSub, fLt, fLe, fGt, fGe, fI2_eq, fNeg_eq, fTuple_nis, fTuple_l, fList_l, fList_tN, fCat_eq, unD_nil, unD_d, startR, List.map_cons, List.map_nil, List.length_cons, List.length_nil, List.replicate, List.cons_append, List.nil_append, Nat.zero_add, Nat.reduceAdd, Nat.reduceSub, List.append_nil, List.getElem?_cons_zero, List.getElem?_cons_succ, List.set_cons_zero, List.set_cons_succ, Option.some.injEq, Prod.mk.injEq, Option.map_some, Option.map_none, W.d.injEq, W.l.injEq, PyData.tuple.injEq, PyData.int.injEq, PyData.bool.injEq, PyData.str.injEq, reduceCtorEq, retOk_d, retOk_1, retOk_2, asgOk_d, asgOk_2, and_assoc, exists_and_left, exists_eq_left', exists_eq_left, true_and, and_true, ex_gD, ex_tN, fLen_gD, fLen_tN, fLen_l, len100, Int.toNat_natCast, Nat.reduceLeDiff, isT_ii, isT_ib, isT_tt, isT_ss, is_integer_eq, is_in_eq, is_list_eq, is_list_tN, is_list_gD, if_true, eq_self, Bool.false_eq_true, if_false, ge1, ge2, one_ne, two_ne, true_implies, unD_append, ex_pair, ex_trip])
      refine c_told_in o ?_
      refine c_pairs_in (o.told S) ?_
      (try simp only [dSeq, dNext, dDrop, dAsg, dAsgG, dRet, dIfS, dPar, dVar, dC, dU, dOp, dTst, dAnd, dOr, dNot, dAndV, dNotV, dChain, dIf, dNil, dCons, dStar, dTup, dLst, dCall, dItL, dItT, dRng1, dRng2, dEnum, gdName, gdTup2, gdTup3, dYes, wipeR, dAppend, dExtend, dPopA, dAugL, dCut, dIsi, dLc_eq, dLc2_eq, dFor, dWhile, fAdd, fSub, fLt, fLe, fGt, fGe, fI2_eq, fNeg_eq, fTuple_nis, fTuple_l, fList_l, fList_tN, fCat_eq, unD_nil, unD_d, startR, List.map_cons, List.map_nil, List.length_cons, List.length_nil, List.replicate, List.cons_append, List.nil_append, Nat.zero_add, Nat.reduceAdd, Nat.reduceSub, List.append_nil, List.getElem?_cons_zero, List.getElem?_cons_succ, List.set_cons_zero, List.set_cons_succ, Option.some.injEq, Prod.mk.injEq, Option.map_some, Option.map_none, W.d.injEq, W.l.injEq, PyData.tuple.injEq, PyData.int.injEq, PyData.bool.injEq, PyData.str.injEq, reduceCtorEq, retOk_d, retOk_1, retOk_2, asgOk_d, asgOk_2, and_assoc, exists_and_left, exists_eq_left', exists_eq_left, true_and, and_true, ex_gD, ex_tN, fLen_gD, fLen_tN, fLen_l, len100, Int.toNat_natCast, Nat.reduceLeDiff, isT_ii, isT_ib, isT_tt, isT_ss, is_integer_eq, is_in_eq, is_list_eq, is_list_tN, is_list_gD, if_true, eq_self, Bool.false_eq_true, if_false, ge1, ge2, one_ne, two_ne, true_implies, unD_append, ex_pair, ex_trip, List.length_map])
      rfl
    · refine min_pairs (fun e => ?_) (fun a _ b _ => ?_) (fun a _ => ⟨_, _, rfl⟩) (fun a ha => ?_) fun S hS hm => ?_
      · have : ([] : List Nat) ∈ (chs n).filter fun S => decide ((S.length : Int) ≤ m) := List.mem_filter.mpr ⟨mem_chs.mpr ⟨.nil, fun x hx => by cases hx⟩, decide_eq_true h0⟩
        rw [e] at this
        cases this
      · have := alike_tI (up a) (up b)
        rw [← tN_up, ← tN_up] at this
        simp [PySem.W.alike, PySem.W.alikeAll, this]
      · have h2 : Sh 2 (.tuple [.int (-(cnt n (toldG n g a) : Int)), tN a]) := .tup fun x hx => by
          rcases List.mem_cons.mp hx with rfl | hx
          · exact ⟨(Sh.int _).lay, by have := (Sh.int (-(cnt n (toldG n g a) : Int))).dep; omega⟩
          · rw [List.mem_singleton.mp hx]
            exact sh_tN a
        exact ⟨h2.lay, by have := h2.dep; omega⟩
      · (try simp only [dSeq, dNext, dDrop, dAsg, dAsgG, dRet, dIfS, dPar, dVar, dC, dU, dOp, dTst, dAnd, dOr, dNot, dAndV, dNotV, dChain, dIf, dNil, dCons, dStar, dTup, dLst, dCall, dItL, dItT, dRng1, dRng2, dEnum, gdName, gdTup2, gdTup3, dYes, wipeR, dAppend, dExtend, dPopA, dAugL, dCut, dIsi, dLc_eq, dLc2_eq, dFor, dWhile, fAdd, fSub, fLt, fLe, fGt, fGe, fI2_eq, fNeg_eq, fTuple_nis, fTuple_l, fList_l, fList_tN, fCat_eq, unD_nil, unD_d, startR, List.map_cons, List.map_nil, List.length_cons, List.length_nil, List.replicate, List.cons_append, List.nil_append, Nat.zero_add, Nat.reduceAdd, Nat.reduceSub, List.append_nil, List.getElem?_cons_zero, List.getElem?_cons_succ, List.set_cons_zero, List.set_cons_succ, Option.some.injEq, Prod.mk.injEq, Option.map_some, Option.map_none, W.d.injEq, W.l.injEq, PyData.tuple.injEq, PyData.int.injEq, PyData.bool.injEq, PyData.str.injEq, reduceCtorEq, retOk_d, retOk_1, retOk_2, asgOk_d, asgOk_2, and_assoc, exists_and_left, exists_eq_left', exists_eq_left, true_and, and_true, ex_gD, ex_tN, fLen_gD, fLen_tN, fLen_l, len100, Int.toNat_natCast, Nat.reduceLeDiff, isT_ii, isT_ib, isT_tt, isT_ss, is_integer_eq, is_in_eq, is_list_eq, is_list_tN, is_list_gD, if_true, eq_self, Bool.false_eq_true, if_false, ge1, ge2, one_ne, two_ne, true_implies, unD_append, ex_pair, ex_trip, Int.neg_neg])
        obtain ⟨h1, h2⟩ := List.mem_filter.mp hS
        refine r S h1 (of_decide_eq_true h2) fun S' h1' h2' => ?_
        have := hm S' (List.mem_filter.mpr ⟨h1', decide_eq_true h2'⟩)
        simp only [fstI] at this
        omega
end Wk

/-! part SemL -/
set_option Elab.async false
set_option linter.all false
set_option maxRecDepth 100000
set_option maxHeartbeats 4000000
namespace Wk
open PySem PySem.Spec PyProof.Rows L2 Dw Gg
/-- what each call of the row adds -/
def gns (n : Nat) (g : Adj) (l : List Nat) : List Int := (List.range l.length).map fun i => (cnt n (aft g (l.take (i + 1))) : Int) - (cnt n (aft g (l.take i)) : Int)
theorem fNe_tt {a b : List Nat} {k : W → Prop} : fNe (.d (tN a)) (.d (tN b)) k = k (.d (.bool (!decide (a = b)))) := by
  show (SeqAt.shaped (tN a) = true ∧ SeqAt.shaped (tN b) = true ∧ k (.d (.bool (!PyData.eqv (tN a) (tN b))))) = _
  rw [(sh_tN a).ok, (sh_tN b).ok, eqv_tN]
  simp
theorem fNe_int {a b : Int} {k : W → Prop} : fNe (.d (.int a)) (.d (.int b)) k = k (.d (.bool (!decide (a = b)))) := by
  show (SeqAt.shaped (.int a) = true ∧ SeqAt.shaped (.int b) = true ∧ k (.d (.bool (!PyData.eqv (.int a) (.int b))))) = _
  rw [shaped_int, shaped_int, eqv_int]
  simp
theorem fNe_gD {n : Nat} {g : Adj} (o : Ok n g) {k : W → Prop} (r : k (.d (.bool false))) : fNe (.d (gD n g)) (.d (gD n g)) k := by
  refine ⟨(sh_gD n g).ok, (sh_gD n g).ok, ?_⟩
  show k (.d (.bool (!PyData.eqv (gD n g) (gD n g))))
  rw [(eqv_gD o o).mpr rfl]
  exact r
theorem fLenSet_tN {l : List Nat} (nd : l.Nodup) (h : l.length ≤ 60) {k : W → Prop} (r : k (.d (nI l.length))) : fLenSet (.d (tN l)) k := by
  refine ⟨up l, .inr (congrArg W.d (tN_up l)), by rw [List.length_map]; exact h, ?_, by rw [List.length_map]; exact r⟩
  rw [List.nodup_iff_pairwise_ne, List.pairwise_map]
  exact nd.imp fun h e => h (by omega)
theorem fMin_t {xs : List PyData} {k : W → Prop} (h : fMin (.l xs) k) : fMin (.d (.tuple xs)) k := by
  obtain ⟨x, ys, e | e, h1, h2, h3⟩ := h
  · injection e with e
    subst e
    exact ⟨x, ys, .inr rfl, h1, h2, h3⟩
  · cases e
section
variable {n : Nat} {g : Adj} {l : List Nat} {m : Nat} {E : DE}
/-- the row and the least number -/
structure Cx2 (n : Nat) (g : Adj) (l : List Nat) (m : Nat) : Prop where
  o : Ok n g
  gr : GR n g l
  few : IsFew n g m
theorem Cx2.rr (c : Cx2 n g l m) : RR n sMany g l := gr_rr c.o c.gr
theorem Cx2.lt (c : Cx2 n g l m) : ∀ p ∈ l, p < n := (rr_rest c.rr).2
theorem Cx2.nd (c : Cx2 n g l m) : l.Nodup := rr_nodup c.o c.rr
theorem Cx2.len (c : Cx2 n g l m) : l.length ≤ 6 := Nat.le_trans (len_le c.nd c.lt) c.o.le
theorem Cx2.rest (c : Cx2 n g l m) : aft g l = restG n g := aft_rest c.o (rr_rest c.rr).1
theorem Cx2.fl (c : Cx2 n g l m) : m ≤ l.length := few_le c.o c.rr c.few
theorem many_in : sMany ∈ rulesL := by decide +kernel
theorem l_0 (o : Ok n g) (h : ∀ l m, Cx2 n g l m → E.nx [none, none, some (W.d (gD n g), true), some (W.d (tN l), true), some (W.d (nI m), true), none, none, none, none, none, none]) : sl_0 E [none, none, some (W.d (gD n g), true), none, none, none, none, none, none, none, none] := by
  (try simp only [dSeq, dNext, dDrop, dAsg, dAsgG, dRet, dIfS, dPar, dVar, dC, dU, dOp, dTst, dAnd, dOr, dNot, dAndV, dNotV, dChain, dIf, dNil, dCons, dStar, dTup, dLst, dCall, dItL, dItT, dRng1, dRng2, dEnum, gdName, gdTup2, gdTup3, dYes, wipeR, dAppend, dExtend, dPopA, dAugL, dCut, dIsi, dLc_eq, dLc2_eq, dFor, dWhile, fAdd, fSub, fLt, fLe, fGt, fGe, fI2_eq, fNeg_eq, fTuple_nis, fTuple_l, fList_l, fList_tN, fCat_eq, unD_nil, unD_d, startR, List.map_cons, List.map_nil, List.length_cons, List.length_nil, List.replicate, List.cons_append, List.nil_append, Nat.zero_add, Nat.reduceAdd, Nat.reduceSub, List.append_nil, List.getElem?_cons_zero, List.getElem?_cons_succ, List.set_cons_zero, List.set_cons_succ, Option.some.injEq, Prod.mk.injEq, Option.map_some, Option.map_none, W.d.injEq, W.l.injEq, PyData.tuple.injEq, PyData.int.injEq, PyData.bool.injEq, PyData.str.injEq, reduceCtorEq, retOk_d, retOk_1, retOk_2, asgOk_d, asgOk_2, and_assoc, exists_and_left, exists_eq_left', exists_eq_left, true_and, and_true, ex_gD, ex_tN, fLen_gD, fLen_tN, fLen_l, len100, Int.toNat_natCast, Nat.reduceLeDiff, isT_ii, isT_ib, isT_tt, isT_ss, is_integer_eq, is_in_eq, is_list_eq, is_list_tN, is_list_gD, if_true, eq_self, Bool.false_eq_true, if_false, ge1, ge2, one_ne, two_ne, true_implies, unD_append, ex_pair, ex_trip, sl_0])
  refine ⟨n, g, rfl, o, fun l hG => ?_⟩
  (try simp only [dSeq, dNext, dDrop, dAsg, dAsgG, dRet, dIfS, dPar, dVar, dC, dU, dOp, dTst, dAnd, dOr, dNot, dAndV, dNotV, dChain, dIf, dNil, dCons, dStar, dTup, dLst, dCall, dItL, dItT, dRng1, dRng2, dEnum, gdName, gdTup2, gdTup3, dYes, wipeR, dAppend, dExtend, dPopA, dAugL, dCut, dIsi, dLc_eq, dLc2_eq, dFor, dWhile, fAdd, fSub, fLt, fLe, fGt, fGe, fI2_eq, fNeg_eq, fTuple_nis, fTuple_l, fList_l, fList_tN, fCat_eq, unD_nil, unD_d, startR, List.map_cons, List.map_nil, List.length_cons, List.length_nil, List.replicate, List.cons_append, List.nil_append, Nat.zero_add, Nat.reduceAdd, Nat.reduceSub, List.append_nil, List.getElem?_cons_zero, List.getElem?_cons_succ, List.set_cons_zero, List.set_cons_succ, Option.some.injEq, Prod.mk.injEq, Option.map_some, Option.map_none, W.d.injEq, W.l.injEq, PyData.tuple.injEq, PyData.int.injEq, PyData.bool.injEq, PyData.str.injEq, reduceCtorEq, retOk_d, retOk_1, retOk_2, asgOk_d, asgOk_2, and_assoc, exists_and_left, exists_eq_left', exists_eq_left, true_and, and_true, ex_gD, ex_tN, fLen_gD, fLen_tN, fLen_l, len100, Int.toNat_natCast, Nat.reduceLeDiff, isT_ii, isT_ib, isT_tt, isT_ss, is_integer_eq, is_in_eq, is_list_eq, is_list_tN, is_list_gD, if_true, eq_self, Bool.false_eq_true, if_false, ge1, ge2, one_ne, two_ne, true_implies, unD_append, ex_pair, ex_trip])
  refine ⟨n, g, rfl, o, ⟨_, row_joins o (gr_rr o hG)⟩, fun m hF => ?_⟩
  (try simp only [dSeq, dNext, dDrop, dAsg, dAsgG, dRet, dIfS, dPar, dVar, dC, dU, dOp, dTst, dAnd, dOr, dNot, dAndV, dNotV, dChain, dIf, dNil, dCons, dStar, dTup, dLst, dCall, dItL, dItT, dRng1, dRng2, dEnum, gdName, gdTup2, gdTup3, dYes, wipeR, dAppend, dExtend, dPopA, dAugL, dCut, dIsi, dLc_eq, dLc2_eq, dFor, dWhile, fAdd, fSub, fLt, fLe, fGt, fGe, fI2_eq, fNeg_eq, fTuple_nis, fTuple_l, fList_l, fList_tN, fCat_eq, unD_nil, unD_d, startR, List.map_cons, List.map_nil, List.length_cons, List.length_nil, List.replicate, List.cons_append, List.nil_append, Nat.zero_add, Nat.reduceAdd, Nat.reduceSub, List.append_nil, List.getElem?_cons_zero, List.getElem?_cons_succ, List.set_cons_zero, List.set_cons_succ, Option.some.injEq, Prod.mk.injEq, Option.map_some, Option.map_none, W.d.injEq, W.l.injEq, PyData.tuple.injEq, PyData.int.injEq, PyData.bool.injEq, PyData.str.injEq, reduceCtorEq, retOk_d, retOk_1, retOk_2, asgOk_d, asgOk_2, and_assoc, exists_and_left, exists_eq_left', exists_eq_left, true_and, and_true, ex_gD, ex_tN, fLen_gD, fLen_tN, fLen_l, len100, Int.toNat_natCast, Nat.reduceLeDiff, isT_ii, isT_ib, isT_tt, isT_ss, is_integer_eq, is_in_eq, is_list_eq, is_list_tN, is_list_gD, if_true, eq_self, Bool.false_eq_true, if_false, ge1, ge2, one_ne, two_ne, true_implies, unD_append, ex_pair, ex_trip])
  exact h l m ⟨o, hG, hF⟩
theorem l_1 (c : Cx2 n g l m) (h : E.nx [none, none, some (W.d (gD n g), true), some (W.d (tN l), true), some (W.d (nI m), true), none, none, none, none, none, none]) : sl_1 E [none, none, some (W.d (gD n g), true), some (W.d (tN l), true), some (W.d (nI m), true), none, none, none, none, none, none] := by
  (try simp only [dSeq, dNext, dDrop, dAsg, dAsgG, dRet, dIfS, dPar, dVar, dC, dU, dOp, dTst, dAnd, dOr, dNot, dAndV, dNotV, dChain, dIf, dNil, dCons, dStar, dTup, dLst, dCall, dItL, dItT, dRng1, dRng2, dEnum, gdName, gdTup2, gdTup3, dYes, wipeR, dAppend, dExtend, dPopA, dAugL, dCut, dIsi, dLc_eq, dLc2_eq, dFor, dWhile, fAdd, fSub, fLt, fLe, fGt, fGe, fI2_eq, fNeg_eq, fTuple_nis, fTuple_l, fList_l, fList_tN, fCat_eq, unD_nil, unD_d, startR, List.map_cons, List.map_nil, List.length_cons, List.length_nil, List.replicate, List.cons_append, List.nil_append, Nat.zero_add, Nat.reduceAdd, Nat.reduceSub, List.append_nil, List.getElem?_cons_zero, List.getElem?_cons_succ, List.set_cons_zero, List.set_cons_succ, Option.some.injEq, Prod.mk.injEq, Option.map_some, Option.map_none, W.d.injEq, W.l.injEq, PyData.tuple.injEq, PyData.int.injEq, PyData.bool.injEq, PyData.str.injEq, reduceCtorEq, retOk_d, retOk_1, retOk_2, asgOk_d, asgOk_2, and_assoc, exists_and_left, exists_eq_left', exists_eq_left, true_and, and_true, ex_gD, ex_tN, fLen_gD, fLen_tN, fLen_l, len100, Int.toNat_natCast, Nat.reduceLeDiff, isT_ii, isT_ib, isT_tt, isT_ss, is_integer_eq, is_in_eq, is_list_eq, is_list_tN, is_list_gD, if_true, eq_self, Bool.false_eq_true, if_false, ge1, ge2, one_ne, two_ne, true_implies, unD_append, ex_pair, ex_trip, sl_1])
  refine ⟨n, g, sMany, rfl, c.o, many_in, fun l' hr => ?_⟩
  have e : l' = l := rr_one many_in c.o hr c.rr
  subst e
  (try simp only [dSeq, dNext, dDrop, dAsg, dAsgG, dRet, dIfS, dPar, dVar, dC, dU, dOp, dTst, dAnd, dOr, dNot, dAndV, dNotV, dChain, dIf, dNil, dCons, dStar, dTup, dLst, dCall, dItL, dItT, dRng1, dRng2, dEnum, gdName, gdTup2, gdTup3, dYes, wipeR, dAppend, dExtend, dPopA, dAugL, dCut, dIsi, dLc_eq, dLc2_eq, dFor, dWhile, fAdd, fSub, fLt, fLe, fGt, fGe, fI2_eq, fNeg_eq, fTuple_nis, fTuple_l, fList_l, fList_tN, fCat_eq, unD_nil, unD_d, startR, List.map_cons, List.map_nil, List.length_cons, List.length_nil, List.replicate, List.cons_append, List.nil_append, Nat.zero_add, Nat.reduceAdd, Nat.reduceSub, List.append_nil, List.getElem?_cons_zero, List.getElem?_cons_succ, List.set_cons_zero, List.set_cons_succ, Option.some.injEq, Prod.mk.injEq, Option.map_some, Option.map_none, W.d.injEq, W.l.injEq, PyData.tuple.injEq, PyData.int.injEq, PyData.bool.injEq, PyData.str.injEq, reduceCtorEq, retOk_d, retOk_1, retOk_2, asgOk_d, asgOk_2, and_assoc, exists_and_left, exists_eq_left', exists_eq_left, true_and, and_true, ex_gD, ex_tN, fLen_gD, fLen_tN, fLen_l, len100, Int.toNat_natCast, Nat.reduceLeDiff, isT_ii, isT_ib, isT_tt, isT_ss, is_integer_eq, is_in_eq, is_list_eq, is_list_tN, is_list_gD, if_true, eq_self, Bool.false_eq_true, if_false, ge1, ge2, one_ne, two_ne, true_implies, unD_append, ex_pair, ex_trip, fNe_tt, decide_true, Bool.not_true])
  refine ⟨n, g, l', rfl, c.o, Nat.le_trans c.len (by decide), c.lt, ?_⟩
  (try simp only [dSeq, dNext, dDrop, dAsg, dAsgG, dRet, dIfS, dPar, dVar, dC, dU, dOp, dTst, dAnd, dOr, dNot, dAndV, dNotV, dChain, dIf, dNil, dCons, dStar, dTup, dLst, dCall, dItL, dItT, dRng1, dRng2, dEnum, gdName, gdTup2, gdTup3, dYes, wipeR, dAppend, dExtend, dPopA, dAugL, dCut, dIsi, dLc_eq, dLc2_eq, dFor, dWhile, fAdd, fSub, fLt, fLe, fGt, fGe, fI2_eq, fNeg_eq, fTuple_nis, fTuple_l, fList_l, fList_tN, fCat_eq, unD_nil, unD_d, startR, List.map_cons, List.map_nil, List.length_cons, List.length_nil, List.replicate, List.cons_append, List.nil_append, Nat.zero_add, Nat.reduceAdd, Nat.reduceSub, List.append_nil, List.getElem?_cons_zero, List.getElem?_cons_succ, List.set_cons_zero, List.set_cons_succ, Option.some.injEq, Prod.mk.injEq, Option.map_some, Option.map_none, W.d.injEq, W.l.injEq, PyData.tuple.injEq, PyData.int.injEq, PyData.bool.injEq, PyData.str.injEq, reduceCtorEq, retOk_d, retOk_1, retOk_2, asgOk_d, asgOk_2, and_assoc, exists_and_left, exists_eq_left', exists_eq_left, true_and, and_true, ex_gD, ex_tN, fLen_gD, fLen_tN, fLen_l, len100, Int.toNat_natCast, Nat.reduceLeDiff, isT_ii, isT_ib, isT_tt, isT_ss, is_integer_eq, is_in_eq, is_list_eq, is_list_tN, is_list_gD, if_true, eq_self, Bool.false_eq_true, if_false, ge1, ge2, one_ne, two_ne, true_implies, unD_append, ex_pair, ex_trip])
  refine ⟨n, g, rfl, c.o, ?_⟩
  (try simp only [dSeq, dNext, dDrop, dAsg, dAsgG, dRet, dIfS, dPar, dVar, dC, dU, dOp, dTst, dAnd, dOr, dNot, dAndV, dNotV, dChain, dIf, dNil, dCons, dStar, dTup, dLst, dCall, dItL, dItT, dRng1, dRng2, dEnum, gdName, gdTup2, gdTup3, dYes, wipeR, dAppend, dExtend, dPopA, dAugL, dCut, dIsi, dLc_eq, dLc2_eq, dFor, dWhile, fAdd, fSub, fLt, fLe, fGt, fGe, fI2_eq, fNeg_eq, fTuple_nis, fTuple_l, fList_l, fList_tN, fCat_eq, unD_nil, unD_d, startR, List.map_cons, List.map_nil, List.length_cons, List.length_nil, List.replicate, List.cons_append, List.nil_append, Nat.zero_add, Nat.reduceAdd, Nat.reduceSub, List.append_nil, List.getElem?_cons_zero, List.getElem?_cons_succ, List.set_cons_zero, List.set_cons_succ, Option.some.injEq, Prod.mk.injEq, Option.map_some, Option.map_none, W.d.injEq, W.l.injEq, PyData.tuple.injEq, PyData.int.injEq, PyData.bool.injEq, PyData.str.injEq, reduceCtorEq, retOk_d, retOk_1, retOk_2, asgOk_d, asgOk_2, and_assoc, exists_and_left, exists_eq_left', exists_eq_left, true_and, and_true, ex_gD, ex_tN, fLen_gD, fLen_tN, fLen_l, len100, Int.toNat_natCast, Nat.reduceLeDiff, isT_ii, isT_ib, isT_tt, isT_ss, is_integer_eq, is_in_eq, is_list_eq, is_list_tN, is_list_gD, if_true, eq_self, Bool.false_eq_true, if_false, ge1, ge2, one_ne, two_ne, true_implies, unD_append, ex_pair, ex_trip])
  rw [c.rest]
  refine fNe_gD c.o.rest ?_
  (try simp only [dSeq, dNext, dDrop, dAsg, dAsgG, dRet, dIfS, dPar, dVar, dC, dU, dOp, dTst, dAnd, dOr, dNot, dAndV, dNotV, dChain, dIf, dNil, dCons, dStar, dTup, dLst, dCall, dItL, dItT, dRng1, dRng2, dEnum, gdName, gdTup2, gdTup3, dYes, wipeR, dAppend, dExtend, dPopA, dAugL, dCut, dIsi, dLc_eq, dLc2_eq, dFor, dWhile, fAdd, fSub, fLt, fLe, fGt, fGe, fI2_eq, fNeg_eq, fTuple_nis, fTuple_l, fList_l, fList_tN, fCat_eq, unD_nil, unD_d, startR, List.map_cons, List.map_nil, List.length_cons, List.length_nil, List.replicate, List.cons_append, List.nil_append, Nat.zero_add, Nat.reduceAdd, Nat.reduceSub, List.append_nil, List.getElem?_cons_zero, List.getElem?_cons_succ, List.set_cons_zero, List.set_cons_succ, Option.some.injEq, Prod.mk.injEq, Option.map_some, Option.map_none, W.d.injEq, W.l.injEq, PyData.tuple.injEq, PyData.int.injEq, PyData.bool.injEq, PyData.str.injEq, reduceCtorEq, retOk_d, retOk_1, retOk_2, asgOk_d, asgOk_2, and_assoc, exists_and_left, exists_eq_left', exists_eq_left, true_and, and_true, ex_gD, ex_tN, fLen_gD, fLen_tN, fLen_l, len100, Int.toNat_natCast, Nat.reduceLeDiff, isT_ii, isT_ib, isT_tt, isT_ss, is_integer_eq, is_in_eq, is_list_eq, is_list_tN, is_list_gD, if_true, eq_self, Bool.false_eq_true, if_false, ge1, ge2, one_ne, two_ne, true_implies, unD_append, ex_pair, ex_trip])
  exact h
theorem l_2 (c : Cx2 n g l m) (h : E.nx [none, none, some (W.d (gD n g), true), some (W.d (tN l), true), some (W.d (nI m), true), none, none, none, none, none, none]) : sl_2 E [none, none, some (W.d (gD n g), true), some (W.d (tN l), true), some (W.d (nI m), true), none, none, none, none, none, none] := by
  have e1 : decide ((l.length : Int) < (m : Int)) = false := decide_eq_false (by have := c.fl; omega)
  (try simp only [dSeq, dNext, dDrop, dAsg, dAsgG, dRet, dIfS, dPar, dVar, dC, dU, dOp, dTst, dAnd, dOr, dNot, dAndV, dNotV, dChain, dIf, dNil, dCons, dStar, dTup, dLst, dCall, dItL, dItT, dRng1, dRng2, dEnum, gdName, gdTup2, gdTup3, dYes, wipeR, dAppend, dExtend, dPopA, dAugL, dCut, dIsi, dLc_eq, dLc2_eq, dFor, dWhile, fAdd, fSub, fLt, fLe, fGt, fGe, fI2_eq, fNeg_eq, fTuple_nis, fTuple_l, fList_l, fList_tN, fCat_eq, unD_nil, unD_d, startR, List.map_cons, List.map_nil, List.length_cons, List.length_nil, List.replicate, List.cons_append, List.nil_append, Nat.zero_add, Nat.reduceAdd, Nat.reduceSub, List.append_nil, List.getElem?_cons_zero, List.getElem?_cons_succ, List.set_cons_zero, List.set_cons_succ, Option.some.injEq, Prod.mk.injEq, Option.map_some, Option.map_none, W.d.injEq, W.l.injEq, PyData.tuple.injEq, PyData.int.injEq, PyData.bool.injEq, PyData.str.injEq, reduceCtorEq, retOk_d, retOk_1, retOk_2, asgOk_d, asgOk_2, and_assoc, exists_and_left, exists_eq_left', exists_eq_left, true_and, and_true, ex_gD, ex_tN, fLen_gD, fLen_tN, fLen_l, len100, Int.toNat_natCast, Nat.reduceLeDiff, isT_ii, isT_ib, isT_tt, isT_ss, is_integer_eq, is_in_eq, is_list_eq, is_list_tN, is_list_gD, if_true, eq_self, Bool.false_eq_true, if_false, ge1, ge2, one_ne, two_ne, true_implies, unD_append, ex_pair, ex_trip, sl_2, e1])
  refine fLenSet_tN c.nd (Nat.le_trans c.len (by decide)) ?_
  (try simp only [dSeq, dNext, dDrop, dAsg, dAsgG, dRet, dIfS, dPar, dVar, dC, dU, dOp, dTst, dAnd, dOr, dNot, dAndV, dNotV, dChain, dIf, dNil, dCons, dStar, dTup, dLst, dCall, dItL, dItT, dRng1, dRng2, dEnum, gdName, gdTup2, gdTup3, dYes, wipeR, dAppend, dExtend, dPopA, dAugL, dCut, dIsi, dLc_eq, dLc2_eq, dFor, dWhile, fAdd, fSub, fLt, fLe, fGt, fGe, fI2_eq, fNeg_eq, fTuple_nis, fTuple_l, fList_l, fList_tN, fCat_eq, unD_nil, unD_d, startR, List.map_cons, List.map_nil, List.length_cons, List.length_nil, List.replicate, List.cons_append, List.nil_append, Nat.zero_add, Nat.reduceAdd, Nat.reduceSub, List.append_nil, List.getElem?_cons_zero, List.getElem?_cons_succ, List.set_cons_zero, List.set_cons_succ, Option.some.injEq, Prod.mk.injEq, Option.map_some, Option.map_none, W.d.injEq, W.l.injEq, PyData.tuple.injEq, PyData.int.injEq, PyData.bool.injEq, PyData.str.injEq, reduceCtorEq, retOk_d, retOk_1, retOk_2, asgOk_d, asgOk_2, and_assoc, exists_and_left, exists_eq_left', exists_eq_left, true_and, and_true, ex_gD, ex_tN, fLen_gD, fLen_tN, fLen_l, len100, Int.toNat_natCast, Nat.reduceLeDiff, isT_ii, isT_ib, isT_tt, isT_ss, is_integer_eq, is_in_eq, is_list_eq, is_list_tN, is_list_gD, if_true, eq_self, Bool.false_eq_true, if_false, ge1, ge2, one_ne, two_ne, true_implies, unD_append, ex_pair, ex_trip, fNe_int, decide_true, Bool.not_true])
  exact h
theorem nis_len' (l : List Nat) : (nis l).length = l.length := List.length_map ..
theorem l_3 (c : Cx2 n g l m) (h : E.nx [none, none, some (W.d (gD n g), true), some (W.d (tN l), true), some (W.d (nI m), true), none, none, none, none, none, none]) : sl_3 E [none, none, some (W.d (gD n g), true), some (W.d (tN l), true), some (W.d (nI m), true), none, none, none, none, none, none] := by
  (try simp only [dSeq, dNext, dDrop, dAsg, dAsgG, dRet, dIfS, dPar, dVar, dC, dU, dOp, dTst, dAnd, dOr, dNot, dAndV, dNotV, dChain, dIf, dNil, dCons, dStar, dTup, dLst, dCall, dItL, dItT, dRng1, dRng2, dEnum, gdName, gdTup2, gdTup3, dYes, wipeR, dAppend, dExtend, dPopA, dAugL, dCut, dIsi, dLc_eq, dLc2_eq, dFor, dWhile, fAdd, fSub, fLt, fLe, fGt, fGe, fI2_eq, fNeg_eq, fTuple_nis, fTuple_l, fList_l, fList_tN, fCat_eq, unD_nil, unD_d, startR, List.map_cons, List.map_nil, List.length_cons, List.length_nil, List.replicate, List.cons_append, List.nil_append, Nat.zero_add, Nat.reduceAdd, Nat.reduceSub, List.append_nil, List.getElem?_cons_zero, List.getElem?_cons_succ, List.set_cons_zero, List.set_cons_succ, Option.some.injEq, Prod.mk.injEq, Option.map_some, Option.map_none, W.d.injEq, W.l.injEq, PyData.tuple.injEq, PyData.int.injEq, PyData.bool.injEq, PyData.str.injEq, reduceCtorEq, retOk_d, retOk_1, retOk_2, asgOk_d, asgOk_2, and_assoc, exists_and_left, exists_eq_left', exists_eq_left, true_and, and_true, ex_gD, ex_tN, fLen_gD, fLen_tN, fLen_l, len100, Int.toNat_natCast, Nat.reduceLeDiff, isT_ii, isT_ib, isT_tt, isT_ss, is_integer_eq, is_in_eq, is_list_eq, is_list_tN, is_list_gD, if_true, eq_self, Bool.false_eq_true, if_false, ge1, ge2, one_ne, two_ne, true_implies, unD_append, ex_pair, ex_trip, sl_3])
  refine ⟨n, g, rfl, c.o, fun ms hl hc => ?_⟩
  (try simp only [dSeq, dNext, dDrop, dAsg, dAsgG, dRet, dIfS, dPar, dVar, dC, dU, dOp, dTst, dAnd, dOr, dNot, dAndV, dNotV, dChain, dIf, dNil, dCons, dStar, dTup, dLst, dCall, dItL, dItT, dRng1, dRng2, dEnum, gdName, gdTup2, gdTup3, dYes, wipeR, dAppend, dExtend, dPopA, dAugL, dCut, dIsi, dLc_eq, dLc2_eq, dFor, dWhile, fAdd, fSub, fLt, fLe, fGt, fGe, fI2_eq, fNeg_eq, fTuple_nis, fTuple_l, fList_l, fList_tN, fCat_eq, unD_nil, unD_d, startR, List.map_cons, List.map_nil, List.length_cons, List.length_nil, List.replicate, List.cons_append, List.nil_append, Nat.zero_add, Nat.reduceAdd, Nat.reduceSub, List.append_nil, List.getElem?_cons_zero, List.getElem?_cons_succ, List.set_cons_zero, List.set_cons_succ, Option.some.injEq, Prod.mk.injEq, Option.map_some, Option.map_none, W.d.injEq, W.l.injEq, PyData.tuple.injEq, PyData.int.injEq, PyData.bool.injEq, PyData.str.injEq, reduceCtorEq, retOk_d, retOk_1, retOk_2, asgOk_d, asgOk_2, and_assoc, exists_and_left, exists_eq_left', exists_eq_left, true_and, and_true, ex_gD, ex_tN, fLen_gD, fLen_tN, fLen_l, len100, Int.toNat_natCast, Nat.reduceLeDiff, isT_ii, isT_ib, isT_tt, isT_ss, is_integer_eq, is_in_eq, is_list_eq, is_list_tN, is_list_gD, if_true, eq_self, Bool.false_eq_true, if_false, ge1, ge2, one_ne, two_ne, true_implies, unD_append, ex_pair, ex_trip])
  have hn := c.o.le
  refine ⟨by rw [nis_len']; omega, ?_⟩
  refine lcM (enc := nI) (fun p => !decide (p ∈ l)) nI (fun a _ b _ => nI_inj) (fun p hp => ?_) ?_
  · (try simp only [dSeq, dNext, dDrop, dAsg, dAsgG, dRet, dIfS, dPar, dVar, dC, dU, dOp, dTst, dAnd, dOr, dNot, dAndV, dNotV, dChain, dIf, dNil, dCons, dStar, dTup, dLst, dCall, dItL, dItT, dRng1, dRng2, dEnum, gdName, gdTup2, gdTup3, dYes, wipeR, dAppend, dExtend, dPopA, dAugL, dCut, dIsi, dLc_eq, dLc2_eq, dFor, dWhile, fAdd, fSub, fLt, fLe, fGt, fGe, fI2_eq, fNeg_eq, fTuple_nis, fTuple_l, fList_l, fList_tN, fCat_eq, unD_nil, unD_d, startR, List.map_cons, List.map_nil, List.length_cons, List.length_nil, List.replicate, List.cons_append, List.nil_append, Nat.zero_add, Nat.reduceAdd, Nat.reduceSub, List.append_nil, List.getElem?_cons_zero, List.getElem?_cons_succ, List.set_cons_zero, List.set_cons_succ, Option.some.injEq, Prod.mk.injEq, Option.map_some, Option.map_none, W.d.injEq, W.l.injEq, PyData.tuple.injEq, PyData.int.injEq, PyData.bool.injEq, PyData.str.injEq, reduceCtorEq, retOk_d, retOk_1, retOk_2, asgOk_d, asgOk_2, and_assoc, exists_and_left, exists_eq_left', exists_eq_left, true_and, and_true, ex_gD, ex_tN, fLen_gD, fLen_tN, fLen_l, len100, Int.toNat_natCast, Nat.reduceLeDiff, isT_ii, isT_ib, isT_tt, isT_ss, is_integer_eq, is_in_eq, is_list_eq, is_list_tN, is_list_gD, if_true, eq_self, Bool.false_eq_true, if_false, ge1, ge2, one_ne, two_ne, true_implies, unD_append, ex_pair, ex_trip, fIn_t])
    exact fun _ => trivial
  · have e : ms.filter (fun p => !decide (p ∈ l)) = [] := List.filter_eq_nil_iff.mpr fun p hp => by simp [cut_in_row c.o c.rest (hc p hp)]
    rw [e]
    show fNe (.l (nis [])) (.l []) _
    rw [fNe_nil]
    (try simp only [dSeq, dNext, dDrop, dAsg, dAsgG, dRet, dIfS, dPar, dVar, dC, dU, dOp, dTst, dAnd, dOr, dNot, dAndV, dNotV, dChain, dIf, dNil, dCons, dStar, dTup, dLst, dCall, dItL, dItT, dRng1, dRng2, dEnum, gdName, gdTup2, gdTup3, dYes, wipeR, dAppend, dExtend, dPopA, dAugL, dCut, dIsi, dLc_eq, dLc2_eq, dFor, dWhile, fAdd, fSub, fLt, fLe, fGt, fGe, fI2_eq, fNeg_eq, fTuple_nis, fTuple_l, fList_l, fList_tN, fCat_eq, unD_nil, unD_d, startR, List.map_cons, List.map_nil, List.length_cons, List.length_nil, List.replicate, List.cons_append, List.nil_append, Nat.zero_add, Nat.reduceAdd, Nat.reduceSub, List.append_nil, List.getElem?_cons_zero, List.getElem?_cons_succ, List.set_cons_zero, List.set_cons_succ, Option.some.injEq, Prod.mk.injEq, Option.map_some, Option.map_none, W.d.injEq, W.l.injEq, PyData.tuple.injEq, PyData.int.injEq, PyData.bool.injEq, PyData.str.injEq, reduceCtorEq, retOk_d, retOk_1, retOk_2, asgOk_d, asgOk_2, and_assoc, exists_and_left, exists_eq_left', exists_eq_left, true_and, and_true, ex_gD, ex_tN, fLen_gD, fLen_tN, fLen_l, len100, Int.toNat_natCast, Nat.reduceLeDiff, isT_ii, isT_ib, isT_tt, isT_ss, is_integer_eq, is_in_eq, is_list_eq, is_list_tN, is_list_gD, if_true, eq_self, Bool.false_eq_true, if_false, ge1, ge2, one_ne, two_ne, true_implies, unD_append, ex_pair, ex_trip, decide_true, Bool.not_true])
    exact h
theorem l_4 (c : Cx2 n g l m) (h : E.nx [none, none, some (W.d (gD n g), true), some (W.d (tN l), true), some (W.d (nI m), true), none, none, none, none, none, none]) : sl_4 E [none, none, some (W.d (gD n g), true), some (W.d (tN l), true), some (W.d (nI m), true), none, none, none, none, none, none] := by
  (try simp only [dSeq, dNext, dDrop, dAsg, dAsgG, dRet, dIfS, dPar, dVar, dC, dU, dOp, dTst, dAnd, dOr, dNot, dAndV, dNotV, dChain, dIf, dNil, dCons, dStar, dTup, dLst, dCall, dItL, dItT, dRng1, dRng2, dEnum, gdName, gdTup2, gdTup3, dYes, wipeR, dAppend, dExtend, dPopA, dAugL, dCut, dIsi, dLc_eq, dLc2_eq, dFor, dWhile, fAdd, fSub, fLt, fLe, fGt, fGe, fI2_eq, fNeg_eq, fTuple_nis, fTuple_l, fList_l, fList_tN, fCat_eq, unD_nil, unD_d, startR, List.map_cons, List.map_nil, List.length_cons, List.length_nil, List.replicate, List.cons_append, List.nil_append, Nat.zero_add, Nat.reduceAdd, Nat.reduceSub, List.append_nil, List.getElem?_cons_zero, List.getElem?_cons_succ, List.set_cons_zero, List.set_cons_succ, Option.some.injEq, Prod.mk.injEq, Option.map_some, Option.map_none, W.d.injEq, W.l.injEq, PyData.tuple.injEq, PyData.int.injEq, PyData.bool.injEq, PyData.str.injEq, reduceCtorEq, retOk_d, retOk_1, retOk_2, asgOk_d, asgOk_2, and_assoc, exists_and_left, exists_eq_left', exists_eq_left, true_and, and_true, ex_gD, ex_tN, fLen_gD, fLen_tN, fLen_l, len100, Int.toNat_natCast, Nat.reduceLeDiff, isT_ii, isT_ib, isT_tt, isT_ss, is_integer_eq, is_in_eq, is_list_eq, is_list_tN, is_list_gD, if_true, eq_self, Bool.false_eq_true, if_false, ge1, ge2, one_ne, two_ne, true_implies, unD_append, ex_pair, ex_trip, sl_4])
  refine sorted_int c.nd (.inr rfl) fun S hS hm => ?_
  (try simp only [dSeq, dNext, dDrop, dAsg, dAsgG, dRet, dIfS, dPar, dVar, dC, dU, dOp, dTst, dAnd, dOr, dNot, dAndV, dNotV, dChain, dIf, dNil, dCons, dStar, dTup, dLst, dCall, dItL, dItT, dRng1, dRng2, dEnum, gdName, gdTup2, gdTup3, dYes, wipeR, dAppend, dExtend, dPopA, dAugL, dCut, dIsi, dLc_eq, dLc2_eq, dFor, dWhile, fAdd, fSub, fLt, fLe, fGt, fGe, fI2_eq, fNeg_eq, fTuple_nis, fTuple_l, fList_l, fList_tN, fCat_eq, unD_nil, unD_d, startR, List.map_cons, List.map_nil, List.length_cons, List.length_nil, List.replicate, List.cons_append, List.nil_append, Nat.zero_add, Nat.reduceAdd, Nat.reduceSub, List.append_nil, List.getElem?_cons_zero, List.getElem?_cons_succ, List.set_cons_zero, List.set_cons_succ, Option.some.injEq, Prod.mk.injEq, Option.map_some, Option.map_none, W.d.injEq, W.l.injEq, PyData.tuple.injEq, PyData.int.injEq, PyData.bool.injEq, PyData.str.injEq, reduceCtorEq, retOk_d, retOk_1, retOk_2, asgOk_d, asgOk_2, and_assoc, exists_and_left, exists_eq_left', exists_eq_left, true_and, and_true, ex_gD, ex_tN, fLen_gD, fLen_tN, fLen_l, len100, Int.toNat_natCast, Nat.reduceLeDiff, isT_ii, isT_ib, isT_tt, isT_ss, is_integer_eq, is_in_eq, is_list_eq, is_list_tN, is_list_gD, if_true, eq_self, Bool.false_eq_true, if_false, ge1, ge2, one_ne, two_ne, true_implies, unD_append, ex_pair, ex_trip])
  refine ⟨n, g, S, rfl, c.o, hS, fun p hp => c.lt p ((hm p).mp hp), fun b hb => ?_⟩
  have e : b = true := hb.mpr (told_rest c.o c.rest fun x hx => (hm x).mpr hx)
  subst e
  (try simp only [dSeq, dNext, dDrop, dAsg, dAsgG, dRet, dIfS, dPar, dVar, dC, dU, dOp, dTst, dAnd, dOr, dNot, dAndV, dNotV, dChain, dIf, dNil, dCons, dStar, dTup, dLst, dCall, dItL, dItT, dRng1, dRng2, dEnum, gdName, gdTup2, gdTup3, dYes, wipeR, dAppend, dExtend, dPopA, dAugL, dCut, dIsi, dLc_eq, dLc2_eq, dFor, dWhile, fAdd, fSub, fLt, fLe, fGt, fGe, fI2_eq, fNeg_eq, fTuple_nis, fTuple_l, fList_l, fList_tN, fCat_eq, unD_nil, unD_d, startR, List.map_cons, List.map_nil, List.length_cons, List.length_nil, List.replicate, List.cons_append, List.nil_append, Nat.zero_add, Nat.reduceAdd, Nat.reduceSub, List.append_nil, List.getElem?_cons_zero, List.getElem?_cons_succ, List.set_cons_zero, List.set_cons_succ, Option.some.injEq, Prod.mk.injEq, Option.map_some, Option.map_none, W.d.injEq, W.l.injEq, PyData.tuple.injEq, PyData.int.injEq, PyData.bool.injEq, PyData.str.injEq, reduceCtorEq, retOk_d, retOk_1, retOk_2, asgOk_d, asgOk_2, and_assoc, exists_and_left, exists_eq_left', exists_eq_left, true_and, and_true, ex_gD, ex_tN, fLen_gD, fLen_tN, fLen_l, len100, Int.toNat_natCast, Nat.reduceLeDiff, isT_ii, isT_ib, isT_tt, isT_ss, is_integer_eq, is_in_eq, is_list_eq, is_list_tN, is_list_gD, if_true, eq_self, Bool.false_eq_true, if_false, ge1, ge2, one_ne, two_ne, true_implies, unD_append, ex_pair, ex_trip, Bool.not_true])
  exact h
theorem l_5 (c : Cx2 n g l m) (h : E.nx [none, none, some (W.d (gD n g), true), some (W.d (tN l), true), some (W.d (nI m), true), some (W.d (tI (gns n g l)), true), none, none, none, none, none]) : sl_5 E [none, none, some (W.d (gD n g), true), some (W.d (tN l), true), some (W.d (nI m), true), none, none, none, none, none, none] := by
  (try simp only [dSeq, dNext, dDrop, dAsg, dAsgG, dRet, dIfS, dPar, dVar, dC, dU, dOp, dTst, dAnd, dOr, dNot, dAndV, dNotV, dChain, dIf, dNil, dCons, dStar, dTup, dLst, dCall, dItL, dItT, dRng1, dRng2, dEnum, gdName, gdTup2, gdTup3, dYes, wipeR, dAppend, dExtend, dPopA, dAugL, dCut, dIsi, dLc_eq, dLc2_eq, dFor, dWhile, fAdd, fSub, fLt, fLe, fGt, fGe, fI2_eq, fNeg_eq, fTuple_nis, fTuple_l, fList_l, fList_tN, fCat_eq, unD_nil, unD_d, startR, List.map_cons, List.map_nil, List.length_cons, List.length_nil, List.replicate, List.cons_append, List.nil_append, Nat.zero_add, Nat.reduceAdd, Nat.reduceSub, List.append_nil, List.getElem?_cons_zero, List.getElem?_cons_succ, List.set_cons_zero, List.set_cons_succ, Option.some.injEq, Prod.mk.injEq, Option.map_some, Option.map_none, W.d.injEq, W.l.injEq, PyData.tuple.injEq, PyData.int.injEq, PyData.bool.injEq, PyData.str.injEq, reduceCtorEq, retOk_d, retOk_1, retOk_2, asgOk_d, asgOk_2, and_assoc, exists_and_left, exists_eq_left', exists_eq_left, true_and, and_true, ex_gD, ex_tN, fLen_gD, fLen_tN, fLen_l, len100, Int.toNat_natCast, Nat.reduceLeDiff, isT_ii, isT_ib, isT_tt, isT_ss, is_integer_eq, is_in_eq, is_list_eq, is_list_tN, is_list_gD, if_true, eq_self, Bool.false_eq_true, if_false, ge1, ge2, one_ne, two_ne, true_implies, unD_append, ex_pair, ex_trip, sl_5])
  refine ⟨n, g, l, rfl, c.o, Nat.le_trans c.len (by decide), c.lt, ?_⟩
  (try simp only [dSeq, dNext, dDrop, dAsg, dAsgG, dRet, dIfS, dPar, dVar, dC, dU, dOp, dTst, dAnd, dOr, dNot, dAndV, dNotV, dChain, dIf, dNil, dCons, dStar, dTup, dLst, dCall, dItL, dItT, dRng1, dRng2, dEnum, gdName, gdTup2, gdTup3, dYes, wipeR, dAppend, dExtend, dPopA, dAugL, dCut, dIsi, dLc_eq, dLc2_eq, dFor, dWhile, fAdd, fSub, fLt, fLe, fGt, fGe, fI2_eq, fNeg_eq, fTuple_nis, fTuple_l, fList_l, fList_tN, fCat_eq, unD_nil, unD_d, startR, List.map_cons, List.map_nil, List.length_cons, List.length_nil, List.replicate, List.cons_append, List.nil_append, Nat.zero_add, Nat.reduceAdd, Nat.reduceSub, List.append_nil, List.getElem?_cons_zero, List.getElem?_cons_succ, List.set_cons_zero, List.set_cons_succ, Option.some.injEq, Prod.mk.injEq, Option.map_some, Option.map_none, W.d.injEq, W.l.injEq, PyData.tuple.injEq, PyData.int.injEq, PyData.bool.injEq, PyData.str.injEq, reduceCtorEq, retOk_d, retOk_1, retOk_2, asgOk_d, asgOk_2, and_assoc, exists_and_left, exists_eq_left', exists_eq_left, true_and, and_true, ex_gD, ex_tN, fLen_gD, fLen_tN, fLen_l, len100, Int.toNat_natCast, Nat.reduceLeDiff, isT_ii, isT_ib, isT_tt, isT_ss, is_integer_eq, is_in_eq, is_list_eq, is_list_tN, is_list_gD, if_true, eq_self, Bool.false_eq_true, if_false, ge1, ge2, one_ne, two_ne, true_implies, unD_append, ex_pair, ex_trip])
  exact h
theorem gns_cons (p : Nat) : ∃ rs, gns n g (p :: l) = ((cnt n (callG g p) : Int) - (cnt n g : Int)) :: rs := ⟨_, by
  unfold gns
  rw [List.length_cons, List.range_succ_eq_map, List.map_cons]
  rfl⟩
theorem fIx_gns {p : Nat} {k : W → Prop} (r : k (.d (.int ((cnt n (callG g p) : Int) - (cnt n g : Int))))) : fIxT (.d (tI (gns n g (p :: l)))) (.d (.int 0)) k := by
  obtain ⟨rs, e⟩ := gns_cons (n := n) (g := g) (l := l) p
  rw [e]
  exact fIxT_0 r
theorem fIx_tN {p : Nat} {k : W → Prop} (r : k (.d (nI p))) : fIxT (.d (tN (p :: l))) (.d (.int 0)) k := fIxT_0 (a := nI p) (xs := nis l) r
theorem fMin_gns {k : W → Prop} (hl : l ≠ []) (h : ∀ i, i < l.length → k (.d (.int ((cnt n (aft g (l.take (i + 1))) : Int) - (cnt n (aft g (l.take i)) : Int))))) : fMin (.d (tI (gns n g l))) k := by
  have e : tI (gns n g l) = .tuple ((List.range l.length).map fun i => PyData.int ((cnt n (aft g (l.take (i + 1))) : Int) - (cnt n (aft g (l.take i)) : Int))) := by
    unfold gns
    show PyData.tuple (List.map _ (List.map _ _)) = _
    rw [List.map_map]
    rfl
  rw [e]
  refine fMin_t (min_int (l := List.range l.length) (f := fun i => (cnt n (aft g (l.take (i + 1))) : Int) - (cnt n (aft g (l.take i)) : Int)) (fun z => hl ?_) fun i hi _ => h i (List.mem_range.mp hi))
  exact List.eq_nil_of_length_eq_zero (List.range_eq_nil.mp z)
theorem gr_best {p : Nat} (h : GR n g (p :: l)) : BestP n g p ∧ cnt n g < cnt n (callG g p) := by
  cases h with
  | step a b _ => exact ⟨a, b⟩
theorem l_6 (c : Cx2 n g l m) (h : E.nx [none, none, some (W.d (gD n g), true), some (W.d (tN l), true), some (W.d (nI m), true), some (W.d (tI (gns n g l)), true), none, none, none, none, none]) : sl_6 E [none, none, some (W.d (gD n g), true), some (W.d (tN l), true), some (W.d (nI m), true), some (W.d (tI (gns n g l)), true), none, none, none, none, none] := by
  cases l with
  | nil =>
    (try simp only [dSeq, dNext, dDrop, dAsg, dAsgG, dRet, dIfS, dPar, dVar, dC, dU, dOp, dTst, dAnd, dOr, dNot, dAndV, dNotV, dChain, dIf, dNil, dCons, dStar, dTup, dLst, dCall, dItL, dItT, dRng1, dRng2, dEnum, gdName, gdTup2, gdTup3, dYes, wipeR, dAppend, dExtend, dPopA, dAugL, dCut, dIsi, dLc_eq, dLc2_eq, dFor, dWhile, fAdd, fSub, fLt, fLe, fGt, fGe, fI2_eq, fNeg_eq, fTuple_nis, fTuple_l, fList_l, fList_tN, fCat_eq, unD_nil, unD_d, startR, List.map_cons, List.map_nil, List.length_cons, List.length_nil, List.replicate, List.cons_append, List.nil_append, Nat.zero_add, Nat.reduceAdd, Nat.reduceSub, List.append_nil, List.getElem?_cons_zero, List.getElem?_cons_succ, List.set_cons_zero, List.set_cons_succ, Option.some.injEq, Prod.mk.injEq, Option.map_some, Option.map_none, W.d.injEq, W.l.injEq, PyData.tuple.injEq, PyData.int.injEq, PyData.bool.injEq, PyData.str.injEq, reduceCtorEq, retOk_d, retOk_1, retOk_2, asgOk_d, asgOk_2, and_assoc, exists_and_left, exists_eq_left', exists_eq_left, true_and, and_true, ex_gD, ex_tN, fLen_gD, fLen_tN, fLen_l, len100, Int.toNat_natCast, Nat.reduceLeDiff, isT_ii, isT_ib, isT_tt, isT_ss, is_integer_eq, is_in_eq, is_list_eq, is_list_tN, is_list_gD, if_true, eq_self, Bool.false_eq_true, if_false, ge1, ge2, one_ne, two_ne, true_implies, unD_append, ex_pair, ex_trip, sl_6, fNe_t, decide_true, Bool.not_true])
    exact h
  | cons p l =>
    have e1 : decide (p :: l = []) = false := decide_eq_false (by simp)
    have hb := (gr_best c.gr).1
    (try simp only [dSeq, dNext, dDrop, dAsg, dAsgG, dRet, dIfS, dPar, dVar, dC, dU, dOp, dTst, dAnd, dOr, dNot, dAndV, dNotV, dChain, dIf, dNil, dCons, dStar, dTup, dLst, dCall, dItL, dItT, dRng1, dRng2, dEnum, gdName, gdTup2, gdTup3, dYes, wipeR, dAppend, dExtend, dPopA, dAugL, dCut, dIsi, dLc_eq, dLc2_eq, dFor, dWhile, fAdd, fSub, fLt, fLe, fGt, fGe, fI2_eq, fNeg_eq, fTuple_nis, fTuple_l, fList_l, fList_tN, fCat_eq, unD_nil, unD_d, startR, List.map_cons, List.map_nil, List.length_cons, List.length_nil, List.replicate, List.cons_append, List.nil_append, Nat.zero_add, Nat.reduceAdd, Nat.reduceSub, List.append_nil, List.getElem?_cons_zero, List.getElem?_cons_succ, List.set_cons_zero, List.set_cons_succ, Option.some.injEq, Prod.mk.injEq, Option.map_some, Option.map_none, W.d.injEq, W.l.injEq, PyData.tuple.injEq, PyData.int.injEq, PyData.bool.injEq, PyData.str.injEq, reduceCtorEq, retOk_d, retOk_1, retOk_2, asgOk_d, asgOk_2, and_assoc, exists_and_left, exists_eq_left', exists_eq_left, true_and, and_true, ex_gD, ex_tN, fLen_gD, fLen_tN, fLen_l, len100, Int.toNat_natCast, Nat.reduceLeDiff, isT_ii, isT_ib, isT_tt, isT_ss, is_integer_eq, is_in_eq, is_list_eq, is_list_tN, is_list_gD, if_true, eq_self, Bool.false_eq_true, if_false, ge1, ge2, one_ne, two_ne, true_implies, unD_append, ex_pair, ex_trip, sl_6, fNe_t, e1, decide_false, Bool.not_false])
    refine fIx_gns ?_
    refine ⟨n, g, rfl, c.o, fun q hq => ?_⟩
    have e := best_one hq hb
    subst e
    (try simp only [dSeq, dNext, dDrop, dAsg, dAsgG, dRet, dIfS, dPar, dVar, dC, dU, dOp, dTst, dAnd, dOr, dNot, dAndV, dNotV, dChain, dIf, dNil, dCons, dStar, dTup, dLst, dCall, dItL, dItT, dRng1, dRng2, dEnum, gdName, gdTup2, gdTup3, dYes, wipeR, dAppend, dExtend, dPopA, dAugL, dCut, dIsi, dLc_eq, dLc2_eq, dFor, dWhile, fAdd, fSub, fLt, fLe, fGt, fGe, fI2_eq, fNeg_eq, fTuple_nis, fTuple_l, fList_l, fList_tN, fCat_eq, unD_nil, unD_d, startR, List.map_cons, List.map_nil, List.length_cons, List.length_nil, List.replicate, List.cons_append, List.nil_append, Nat.zero_add, Nat.reduceAdd, Nat.reduceSub, List.append_nil, List.getElem?_cons_zero, List.getElem?_cons_succ, List.set_cons_zero, List.set_cons_succ, Option.some.injEq, Prod.mk.injEq, Option.map_some, Option.map_none, W.d.injEq, W.l.injEq, PyData.tuple.injEq, PyData.int.injEq, PyData.bool.injEq, PyData.str.injEq, reduceCtorEq, retOk_d, retOk_1, retOk_2, asgOk_d, asgOk_2, and_assoc, exists_and_left, exists_eq_left', exists_eq_left, true_and, and_true, ex_gD, ex_tN, fLen_gD, fLen_tN, fLen_l, len100, Int.toNat_natCast, Nat.reduceLeDiff, isT_ii, isT_ib, isT_tt, isT_ss, is_integer_eq, is_in_eq, is_list_eq, is_list_tN, is_list_gD, if_true, eq_self, Bool.false_eq_true, if_false, ge1, ge2, one_ne, two_ne, true_implies, unD_append, ex_pair, ex_trip])
    refine fIxT_0 ?_
    (try simp only [dSeq, dNext, dDrop, dAsg, dAsgG, dRet, dIfS, dPar, dVar, dC, dU, dOp, dTst, dAnd, dOr, dNot, dAndV, dNotV, dChain, dIf, dNil, dCons, dStar, dTup, dLst, dCall, dItL, dItT, dRng1, dRng2, dEnum, gdName, gdTup2, gdTup3, dYes, wipeR, dAppend, dExtend, dPopA, dAugL, dCut, dIsi, dLc_eq, dLc2_eq, dFor, dWhile, fAdd, fSub, fLt, fLe, fGt, fGe, fI2_eq, fNeg_eq, fTuple_nis, fTuple_l, fList_l, fList_tN, fCat_eq, unD_nil, unD_d, startR, List.map_cons, List.map_nil, List.length_cons, List.length_nil, List.replicate, List.cons_append, List.nil_append, Nat.zero_add, Nat.reduceAdd, Nat.reduceSub, List.append_nil, List.getElem?_cons_zero, List.getElem?_cons_succ, List.set_cons_zero, List.set_cons_succ, Option.some.injEq, Prod.mk.injEq, Option.map_some, Option.map_none, W.d.injEq, W.l.injEq, PyData.tuple.injEq, PyData.int.injEq, PyData.bool.injEq, PyData.str.injEq, reduceCtorEq, retOk_d, retOk_1, retOk_2, asgOk_d, asgOk_2, and_assoc, exists_and_left, exists_eq_left', exists_eq_left, true_and, and_true, ex_gD, ex_tN, fLen_gD, fLen_tN, fLen_l, len100, Int.toNat_natCast, Nat.reduceLeDiff, isT_ii, isT_ib, isT_tt, isT_ss, is_integer_eq, is_in_eq, is_list_eq, is_list_tN, is_list_gD, if_true, eq_self, Bool.false_eq_true, if_false, ge1, ge2, one_ne, two_ne, true_implies, unD_append, ex_pair, ex_trip, fNe_int, decide_true, Bool.not_true])
    refine fIx_tN ?_
    refine ⟨n, g, rfl, c.o, fun q' hq' => ?_⟩
    have e := best_one hq' hb
    subst e
    (try simp only [dSeq, dNext, dDrop, dAsg, dAsgG, dRet, dIfS, dPar, dVar, dC, dU, dOp, dTst, dAnd, dOr, dNot, dAndV, dNotV, dChain, dIf, dNil, dCons, dStar, dTup, dLst, dCall, dItL, dItT, dRng1, dRng2, dEnum, gdName, gdTup2, gdTup3, dYes, wipeR, dAppend, dExtend, dPopA, dAugL, dCut, dIsi, dLc_eq, dLc2_eq, dFor, dWhile, fAdd, fSub, fLt, fLe, fGt, fGe, fI2_eq, fNeg_eq, fTuple_nis, fTuple_l, fList_l, fList_tN, fCat_eq, unD_nil, unD_d, startR, List.map_cons, List.map_nil, List.length_cons, List.length_nil, List.replicate, List.cons_append, List.nil_append, Nat.zero_add, Nat.reduceAdd, Nat.reduceSub, List.append_nil, List.getElem?_cons_zero, List.getElem?_cons_succ, List.set_cons_zero, List.set_cons_succ, Option.some.injEq, Prod.mk.injEq, Option.map_some, Option.map_none, W.d.injEq, W.l.injEq, PyData.tuple.injEq, PyData.int.injEq, PyData.bool.injEq, PyData.str.injEq, reduceCtorEq, retOk_d, retOk_1, retOk_2, asgOk_d, asgOk_2, and_assoc, exists_and_left, exists_eq_left', exists_eq_left, true_and, and_true, ex_gD, ex_tN, fLen_gD, fLen_tN, fLen_l, len100, Int.toNat_natCast, Nat.reduceLeDiff, isT_ii, isT_ib, isT_tt, isT_ss, is_integer_eq, is_in_eq, is_list_eq, is_list_tN, is_list_gD, if_true, eq_self, Bool.false_eq_true, if_false, ge1, ge2, one_ne, two_ne, true_implies, unD_append, ex_pair, ex_trip])
    refine fIxT_1 ?_
    (try simp only [dSeq, dNext, dDrop, dAsg, dAsgG, dRet, dIfS, dPar, dVar, dC, dU, dOp, dTst, dAnd, dOr, dNot, dAndV, dNotV, dChain, dIf, dNil, dCons, dStar, dTup, dLst, dCall, dItL, dItT, dRng1, dRng2, dEnum, gdName, gdTup2, gdTup3, dYes, wipeR, dAppend, dExtend, dPopA, dAugL, dCut, dIsi, dLc_eq, dLc2_eq, dFor, dWhile, fAdd, fSub, fLt, fLe, fGt, fGe, fI2_eq, fNeg_eq, fTuple_nis, fTuple_l, fList_l, fList_tN, fCat_eq, unD_nil, unD_d, startR, List.map_cons, List.map_nil, List.length_cons, List.length_nil, List.replicate, List.cons_append, List.nil_append, Nat.zero_add, Nat.reduceAdd, Nat.reduceSub, List.append_nil, List.getElem?_cons_zero, List.getElem?_cons_succ, List.set_cons_zero, List.set_cons_succ, Option.some.injEq, Prod.mk.injEq, Option.map_some, Option.map_none, W.d.injEq, W.l.injEq, PyData.tuple.injEq, PyData.int.injEq, PyData.bool.injEq, PyData.str.injEq, reduceCtorEq, retOk_d, retOk_1, retOk_2, asgOk_d, asgOk_2, and_assoc, exists_and_left, exists_eq_left', exists_eq_left, true_and, and_true, ex_gD, ex_tN, fLen_gD, fLen_tN, fLen_l, len100, Int.toNat_natCast, Nat.reduceLeDiff, isT_ii, isT_ib, isT_tt, isT_ss, is_integer_eq, is_in_eq, is_list_eq, is_list_tN, is_list_gD, if_true, eq_self, Bool.false_eq_true, if_false, ge1, ge2, one_ne, two_ne, true_implies, unD_append, ex_pair, ex_trip, fNe_int, decide_true, Bool.not_true])
    refine fMin_gns (by simp) fun i hi => ?_
    have e2 : decide ((cnt n (aft g ((q' :: l).take (i + 1))) : Int) - (cnt n (aft g ((q' :: l).take i)) : Int) < 1) = false := decide_eq_false (by have := gr_up c.gr i hi; omega)
    (try simp only [dSeq, dNext, dDrop, dAsg, dAsgG, dRet, dIfS, dPar, dVar, dC, dU, dOp, dTst, dAnd, dOr, dNot, dAndV, dNotV, dChain, dIf, dNil, dCons, dStar, dTup, dLst, dCall, dItL, dItT, dRng1, dRng2, dEnum, gdName, gdTup2, gdTup3, dYes, wipeR, dAppend, dExtend, dPopA, dAugL, dCut, dIsi, dLc_eq, dLc2_eq, dFor, dWhile, fAdd, fSub, fLt, fLe, fGt, fGe, fI2_eq, fNeg_eq, fTuple_nis, fTuple_l, fList_l, fList_tN, fCat_eq, unD_nil, unD_d, startR, List.map_cons, List.map_nil, List.length_cons, List.length_nil, List.replicate, List.cons_append, List.nil_append, Nat.zero_add, Nat.reduceAdd, Nat.reduceSub, List.append_nil, List.getElem?_cons_zero, List.getElem?_cons_succ, List.set_cons_zero, List.set_cons_succ, Option.some.injEq, Prod.mk.injEq, Option.map_some, Option.map_none, W.d.injEq, W.l.injEq, PyData.tuple.injEq, PyData.int.injEq, PyData.bool.injEq, PyData.str.injEq, reduceCtorEq, retOk_d, retOk_1, retOk_2, asgOk_d, asgOk_2, and_assoc, exists_and_left, exists_eq_left', exists_eq_left, true_and, and_true, ex_gD, ex_tN, fLen_gD, fLen_tN, fLen_l, len100, Int.toNat_natCast, Nat.reduceLeDiff, isT_ii, isT_ib, isT_tt, isT_ss, is_integer_eq, is_in_eq, is_list_eq, is_list_tN, is_list_gD, if_true, eq_self, Bool.false_eq_true, if_false, ge1, ge2, one_ne, two_ne, true_implies, unD_append, ex_pair, ex_trip, e2])
    exact h
theorem sum_cast (F : Nat → Nat) : ∀ xs : List Nat, (xs.map fun i => (F i : Int)).sum = ((xs.map F).sum : Int)
  | [] => rfl
  | x :: xs => by
    simp only [List.map_cons, List.sum_cons, sum_cast F xs]
    omega
theorem sum_gns : (gns n g l).sum = ((madeD n g l).length : Int) := by
  let F : Nat → Nat := fun i => ((prs n (aft g (l.take (i + 1)))).filter fun p => !(aft g (l.take i) p.1 p.2)).length
  have e1 : gns n g l = (List.range l.length).map fun i => (F i : Int) := List.map_congr_left fun i hi => by
    have hi := List.mem_range.mp hi
    have := cnt_diff (n := n) (aft_take_le g l i hi)
    show _ = ((((prs n (aft g (l.take (i + 1)))).filter fun p => !(aft g (l.take i) p.1 p.2)).length : Nat) : Int)
    omega
  have e2 : (madeD n g l).length = ((List.range l.length).map F).sum := by
    unfold madeD
    rw [List.length_flatMap]
    have e3 : (l.zipIdx.map fun q : Nat × Nat => (((prs n (aft g (l.take (q.2 + 1)))).filter fun p => !(aft g (l.take q.2) p.1 p.2)).map fun p => PyData.tuple [nI q.2, nI q.1, pD p]).length) = (l.zipIdx.map Prod.snd).map F := by
      rw [List.map_map]
      exact List.map_congr_left fun q _ => List.length_map ..
    rw [e3, List.zipIdx_map_snd, List.range_eq_range']
  rw [e1, e2, sum_cast]
theorem l_7 (c : Cx2 n g l m) (h : E.nx [none, none, some (W.d (gD n g), true), some (W.d (tN l), true), some (W.d (nI m), true), some (W.d (tI (gns n g l)), true), none, none, none, none, none]) : sl_7 E [none, none, some (W.d (gD n g), true), some (W.d (tN l), true), some (W.d (nI m), true), some (W.d (tI (gns n g l)), true), none, none, none, none, none] := by
  (try simp only [dSeq, dNext, dDrop, dAsg, dAsgG, dRet, dIfS, dPar, dVar, dC, dU, dOp, dTst, dAnd, dOr, dNot, dAndV, dNotV, dChain, dIf, dNil, dCons, dStar, dTup, dLst, dCall, dItL, dItT, dRng1, dRng2, dEnum, gdName, gdTup2, gdTup3, dYes, wipeR, dAppend, dExtend, dPopA, dAugL, dCut, dIsi, dLc_eq, dLc2_eq, dFor, dWhile, fAdd, fSub, fLt, fLe, fGt, fGe, fI2_eq, fNeg_eq, fTuple_nis, fTuple_l, fList_l, fList_tN, fCat_eq, unD_nil, unD_d, startR, List.map_cons, List.map_nil, List.length_cons, List.length_nil, List.replicate, List.cons_append, List.nil_append, Nat.zero_add, Nat.reduceAdd, Nat.reduceSub, List.append_nil, List.getElem?_cons_zero, List.getElem?_cons_succ, List.set_cons_zero, List.set_cons_succ, Option.some.injEq, Prod.mk.injEq, Option.map_some, Option.map_none, W.d.injEq, W.l.injEq, PyData.tuple.injEq, PyData.int.injEq, PyData.bool.injEq, PyData.str.injEq, reduceCtorEq, retOk_d, retOk_1, retOk_2, asgOk_d, asgOk_2, and_assoc, exists_and_left, exists_eq_left', exists_eq_left, true_and, and_true, ex_gD, ex_tN, fLen_gD, fLen_tN, fLen_l, len100, Int.toNat_natCast, Nat.reduceLeDiff, isT_ii, isT_ib, isT_tt, isT_ss, is_integer_eq, is_in_eq, is_list_eq, is_list_tN, is_list_gD, if_true, eq_self, Bool.false_eq_true, if_false, ge1, ge2, one_ne, two_ne, true_implies, unD_append, ex_pair, ex_trip, sl_7])
  refine ⟨gns n g l, rfl, ?_⟩
  (try simp only [dSeq, dNext, dDrop, dAsg, dAsgG, dRet, dIfS, dPar, dVar, dC, dU, dOp, dTst, dAnd, dOr, dNot, dAndV, dNotV, dChain, dIf, dNil, dCons, dStar, dTup, dLst, dCall, dItL, dItT, dRng1, dRng2, dEnum, gdName, gdTup2, gdTup3, dYes, wipeR, dAppend, dExtend, dPopA, dAugL, dCut, dIsi, dLc_eq, dLc2_eq, dFor, dWhile, fAdd, fSub, fLt, fLe, fGt, fGe, fI2_eq, fNeg_eq, fTuple_nis, fTuple_l, fList_l, fList_tN, fCat_eq, unD_nil, unD_d, startR, List.map_cons, List.map_nil, List.length_cons, List.length_nil, List.replicate, List.cons_append, List.nil_append, Nat.zero_add, Nat.reduceAdd, Nat.reduceSub, List.append_nil, List.getElem?_cons_zero, List.getElem?_cons_succ, List.set_cons_zero, List.set_cons_succ, Option.some.injEq, Prod.mk.injEq, Option.map_some, Option.map_none, W.d.injEq, W.l.injEq, PyData.tuple.injEq, PyData.int.injEq, PyData.bool.injEq, PyData.str.injEq, reduceCtorEq, retOk_d, retOk_1, retOk_2, asgOk_d, asgOk_2, and_assoc, exists_and_left, exists_eq_left', exists_eq_left, true_and, and_true, ex_gD, ex_tN, fLen_gD, fLen_tN, fLen_l, len100, Int.toNat_natCast, Nat.reduceLeDiff, isT_ii, isT_ib, isT_tt, isT_ss, is_integer_eq, is_in_eq, is_list_eq, is_list_tN, is_list_gD, if_true, eq_self, Bool.false_eq_true, if_false, ge1, ge2, one_ne, two_ne, true_implies, unD_append, ex_pair, ex_trip])
  refine ⟨n, g, l, rfl, c.o, Nat.le_trans c.len (by decide), c.lt, fun cs hcs => ?_⟩
  (try simp only [dSeq, dNext, dDrop, dAsg, dAsgG, dRet, dIfS, dPar, dVar, dC, dU, dOp, dTst, dAnd, dOr, dNot, dAndV, dNotV, dChain, dIf, dNil, dCons, dStar, dTup, dLst, dCall, dItL, dItT, dRng1, dRng2, dEnum, gdName, gdTup2, gdTup3, dYes, wipeR, dAppend, dExtend, dPopA, dAugL, dCut, dIsi, dLc_eq, dLc2_eq, dFor, dWhile, fAdd, fSub, fLt, fLe, fGt, fGe, fI2_eq, fNeg_eq, fTuple_nis, fTuple_l, fList_l, fList_tN, fCat_eq, unD_nil, unD_d, startR, List.map_cons, List.map_nil, List.length_cons, List.length_nil, List.replicate, List.cons_append, List.nil_append, Nat.zero_add, Nat.reduceAdd, Nat.reduceSub, List.append_nil, List.getElem?_cons_zero, List.getElem?_cons_succ, List.set_cons_zero, List.set_cons_succ, Option.some.injEq, Prod.mk.injEq, Option.map_some, Option.map_none, W.d.injEq, W.l.injEq, PyData.tuple.injEq, PyData.int.injEq, PyData.bool.injEq, PyData.str.injEq, reduceCtorEq, retOk_d, retOk_1, retOk_2, asgOk_d, asgOk_2, and_assoc, exists_and_left, exists_eq_left', exists_eq_left, true_and, and_true, ex_gD, ex_tN, fLen_gD, fLen_tN, fLen_l, len100, Int.toNat_natCast, Nat.reduceLeDiff, isT_ii, isT_ib, isT_tt, isT_ss, is_integer_eq, is_in_eq, is_list_eq, is_list_tN, is_list_gD, if_true, eq_self, Bool.false_eq_true, if_false, ge1, ge2, one_ne, two_ne, true_implies, unD_append, ex_pair, ex_trip])
  refine ⟨cs, rfl, ?_⟩
  rw [hcs, sum_gns]
  (try simp only [dSeq, dNext, dDrop, dAsg, dAsgG, dRet, dIfS, dPar, dVar, dC, dU, dOp, dTst, dAnd, dOr, dNot, dAndV, dNotV, dChain, dIf, dNil, dCons, dStar, dTup, dLst, dCall, dItL, dItT, dRng1, dRng2, dEnum, gdName, gdTup2, gdTup3, dYes, wipeR, dAppend, dExtend, dPopA, dAugL, dCut, dIsi, dLc_eq, dLc2_eq, dFor, dWhile, fAdd, fSub, fLt, fLe, fGt, fGe, fI2_eq, fNeg_eq, fTuple_nis, fTuple_l, fList_l, fList_tN, fCat_eq, unD_nil, unD_d, startR, List.map_cons, List.map_nil, List.length_cons, List.length_nil, List.replicate, List.cons_append, List.nil_append, Nat.zero_add, Nat.reduceAdd, Nat.reduceSub, List.append_nil, List.getElem?_cons_zero, List.getElem?_cons_succ, List.set_cons_zero, List.set_cons_succ, Option.some.injEq, Prod.mk.injEq, Option.map_some, Option.map_none, W.d.injEq, W.l.injEq, PyData.tuple.injEq, PyData.int.injEq, PyData.bool.injEq, PyData.str.injEq, reduceCtorEq, retOk_d, retOk_1, retOk_2, asgOk_d, asgOk_2, and_assoc, exists_and_left, exists_eq_left', exists_eq_left, true_and, and_true, ex_gD, ex_tN, fLen_gD, fLen_tN, fLen_l, len100, Int.toNat_natCast, Nat.reduceLeDiff, isT_ii, isT_ib, isT_tt, isT_ss, is_integer_eq, is_in_eq, is_list_eq, is_list_tN, is_list_gD, if_true, eq_self, Bool.false_eq_true, if_false, ge1, ge2, one_ne, two_ne, true_implies, unD_append, ex_pair, ex_trip, fNe_int, decide_true, Bool.not_true])
  exact h
theorem l_8 (c : Cx2 n g l m) (h : E.nx [none, none, some (W.d (gD n g), true), some (W.d (tN l), true), some (W.d (nI m), true), some (W.d (tI (gns n g l)), true), none, none, none, none, none]) : sl_8 E [none, none, some (W.d (gD n g), true), some (W.d (tN l), true), some (W.d (nI m), true), some (W.d (tI (gns n g l)), true), none, none, none, none, none] := by
  cases l with
  | nil =>
    (try simp only [dSeq, dNext, dDrop, dAsg, dAsgG, dRet, dIfS, dPar, dVar, dC, dU, dOp, dTst, dAnd, dOr, dNot, dAndV, dNotV, dChain, dIf, dNil, dCons, dStar, dTup, dLst, dCall, dItL, dItT, dRng1, dRng2, dEnum, gdName, gdTup2, gdTup3, dYes, wipeR, dAppend, dExtend, dPopA, dAugL, dCut, dIsi, dLc_eq, dLc2_eq, dFor, dWhile, fAdd, fSub, fLt, fLe, fGt, fGe, fI2_eq, fNeg_eq, fTuple_nis, fTuple_l, fList_l, fList_tN, fCat_eq, unD_nil, unD_d, startR, List.map_cons, List.map_nil, List.length_cons, List.length_nil, List.replicate, List.cons_append, List.nil_append, Nat.zero_add, Nat.reduceAdd, Nat.reduceSub, List.append_nil, List.getElem?_cons_zero, List.getElem?_cons_succ, List.set_cons_zero, List.set_cons_succ, Option.some.injEq, Prod.mk.injEq, Option.map_some, Option.map_none, W.d.injEq, W.l.injEq, PyData.tuple.injEq, PyData.int.injEq, PyData.bool.injEq, PyData.str.injEq, reduceCtorEq, retOk_d, retOk_1, retOk_2, asgOk_d, asgOk_2, and_assoc, exists_and_left, exists_eq_left', exists_eq_left, true_and, and_true, ex_gD, ex_tN, fLen_gD, fLen_tN, fLen_l, len100, Int.toNat_natCast, Nat.reduceLeDiff, isT_ii, isT_ib, isT_tt, isT_ss, is_integer_eq, is_in_eq, is_list_eq, is_list_tN, is_list_gD, if_true, eq_self, Bool.false_eq_true, if_false, ge1, ge2, one_ne, two_ne, true_implies, unD_append, ex_pair, ex_trip, sl_8, fNe_t, decide_true, Bool.not_true])
    exact h
  | cons p l =>
    have e1 : decide (p :: l = []) = false := decide_eq_false (by simp)
    have hb := (gr_best c.gr).1
    (try simp only [dSeq, dNext, dDrop, dAsg, dAsgG, dRet, dIfS, dPar, dVar, dC, dU, dOp, dTst, dAnd, dOr, dNot, dAndV, dNotV, dChain, dIf, dNil, dCons, dStar, dTup, dLst, dCall, dItL, dItT, dRng1, dRng2, dEnum, gdName, gdTup2, gdTup3, dYes, wipeR, dAppend, dExtend, dPopA, dAugL, dCut, dIsi, dLc_eq, dLc2_eq, dFor, dWhile, fAdd, fSub, fLt, fLe, fGt, fGe, fI2_eq, fNeg_eq, fTuple_nis, fTuple_l, fList_l, fList_tN, fCat_eq, unD_nil, unD_d, startR, List.map_cons, List.map_nil, List.length_cons, List.length_nil, List.replicate, List.cons_append, List.nil_append, Nat.zero_add, Nat.reduceAdd, Nat.reduceSub, List.append_nil, List.getElem?_cons_zero, List.getElem?_cons_succ, List.set_cons_zero, List.set_cons_succ, Option.some.injEq, Prod.mk.injEq, Option.map_some, Option.map_none, W.d.injEq, W.l.injEq, PyData.tuple.injEq, PyData.int.injEq, PyData.bool.injEq, PyData.str.injEq, reduceCtorEq, retOk_d, retOk_1, retOk_2, asgOk_d, asgOk_2, and_assoc, exists_and_left, exists_eq_left', exists_eq_left, true_and, and_true, ex_gD, ex_tN, fLen_gD, fLen_tN, fLen_l, len100, Int.toNat_natCast, Nat.reduceLeDiff, isT_ii, isT_ib, isT_tt, isT_ss, is_integer_eq, is_in_eq, is_list_eq, is_list_tN, is_list_gD, if_true, eq_self, Bool.false_eq_true, if_false, ge1, ge2, one_ne, two_ne, true_implies, unD_append, ex_pair, ex_trip, sl_8, fNe_t, e1, decide_false, Bool.not_false])
    refine fIx_tN ?_
    (try simp only [dSeq, dNext, dDrop, dAsg, dAsgG, dRet, dIfS, dPar, dVar, dC, dU, dOp, dTst, dAnd, dOr, dNot, dAndV, dNotV, dChain, dIf, dNil, dCons, dStar, dTup, dLst, dCall, dItL, dItT, dRng1, dRng2, dEnum, gdName, gdTup2, gdTup3, dYes, wipeR, dAppend, dExtend, dPopA, dAugL, dCut, dIsi, dLc_eq, dLc2_eq, dFor, dWhile, fAdd, fSub, fLt, fLe, fGt, fGe, fI2_eq, fNeg_eq, fTuple_nis, fTuple_l, fList_l, fList_tN, fCat_eq, unD_nil, unD_d, startR, List.map_cons, List.map_nil, List.length_cons, List.length_nil, List.replicate, List.cons_append, List.nil_append, Nat.zero_add, Nat.reduceAdd, Nat.reduceSub, List.append_nil, List.getElem?_cons_zero, List.getElem?_cons_succ, List.set_cons_zero, List.set_cons_succ, Option.some.injEq, Prod.mk.injEq, Option.map_some, Option.map_none, W.d.injEq, W.l.injEq, PyData.tuple.injEq, PyData.int.injEq, PyData.bool.injEq, PyData.str.injEq, reduceCtorEq, retOk_d, retOk_1, retOk_2, asgOk_d, asgOk_2, and_assoc, exists_and_left, exists_eq_left', exists_eq_left, true_and, and_true, ex_gD, ex_tN, fLen_gD, fLen_tN, fLen_l, len100, Int.toNat_natCast, Nat.reduceLeDiff, isT_ii, isT_ib, isT_tt, isT_ss, is_integer_eq, is_in_eq, is_list_eq, is_list_tN, is_list_gD, if_true, eq_self, Bool.false_eq_true, if_false, ge1, ge2, one_ne, two_ne, true_implies, unD_append, ex_pair, ex_trip])
    refine c_call c.o hb.1 ?_
    (try simp only [dSeq, dNext, dDrop, dAsg, dAsgG, dRet, dIfS, dPar, dVar, dC, dU, dOp, dTst, dAnd, dOr, dNot, dAndV, dNotV, dChain, dIf, dNil, dCons, dStar, dTup, dLst, dCall, dItL, dItT, dRng1, dRng2, dEnum, gdName, gdTup2, gdTup3, dYes, wipeR, dAppend, dExtend, dPopA, dAugL, dCut, dIsi, dLc_eq, dLc2_eq, dFor, dWhile, fAdd, fSub, fLt, fLe, fGt, fGe, fI2_eq, fNeg_eq, fTuple_nis, fTuple_l, fList_l, fList_tN, fCat_eq, unD_nil, unD_d, startR, List.map_cons, List.map_nil, List.length_cons, List.length_nil, List.replicate, List.cons_append, List.nil_append, Nat.zero_add, Nat.reduceAdd, Nat.reduceSub, List.append_nil, List.getElem?_cons_zero, List.getElem?_cons_succ, List.set_cons_zero, List.set_cons_succ, Option.some.injEq, Prod.mk.injEq, Option.map_some, Option.map_none, W.d.injEq, W.l.injEq, PyData.tuple.injEq, PyData.int.injEq, PyData.bool.injEq, PyData.str.injEq, reduceCtorEq, retOk_d, retOk_1, retOk_2, asgOk_d, asgOk_2, and_assoc, exists_and_left, exists_eq_left', exists_eq_left, true_and, and_true, ex_gD, ex_tN, fLen_gD, fLen_tN, fLen_l, len100, Int.toNat_natCast, Nat.reduceLeDiff, isT_ii, isT_ib, isT_tt, isT_ss, is_integer_eq, is_in_eq, is_list_eq, is_list_tN, is_list_gD, if_true, eq_self, Bool.false_eq_true, if_false, ge1, ge2, one_ne, two_ne, true_implies, unD_append, ex_pair, ex_trip])
    refine c_count_pairs (c.o.call p) ?_
    (try simp only [dSeq, dNext, dDrop, dAsg, dAsgG, dRet, dIfS, dPar, dVar, dC, dU, dOp, dTst, dAnd, dOr, dNot, dAndV, dNotV, dChain, dIf, dNil, dCons, dStar, dTup, dLst, dCall, dItL, dItT, dRng1, dRng2, dEnum, gdName, gdTup2, gdTup3, dYes, wipeR, dAppend, dExtend, dPopA, dAugL, dCut, dIsi, dLc_eq, dLc2_eq, dFor, dWhile, fAdd, fSub, fLt, fLe, fGt, fGe, fI2_eq, fNeg_eq, fTuple_nis, fTuple_l, fList_l, fList_tN, fCat_eq, unD_nil, unD_d, startR, List.map_cons, List.map_nil, List.length_cons, List.length_nil, List.replicate, List.cons_append, List.nil_append, Nat.zero_add, Nat.reduceAdd, Nat.reduceSub, List.append_nil, List.getElem?_cons_zero, List.getElem?_cons_succ, List.set_cons_zero, List.set_cons_succ, Option.some.injEq, Prod.mk.injEq, Option.map_some, Option.map_none, W.d.injEq, W.l.injEq, PyData.tuple.injEq, PyData.int.injEq, PyData.bool.injEq, PyData.str.injEq, reduceCtorEq, retOk_d, retOk_1, retOk_2, asgOk_d, asgOk_2, and_assoc, exists_and_left, exists_eq_left', exists_eq_left, true_and, and_true, ex_gD, ex_tN, fLen_gD, fLen_tN, fLen_l, len100, Int.toNat_natCast, Nat.reduceLeDiff, isT_ii, isT_ib, isT_tt, isT_ss, is_integer_eq, is_in_eq, is_list_eq, is_list_tN, is_list_gD, if_true, eq_self, Bool.false_eq_true, if_false, ge1, ge2, one_ne, two_ne, true_implies, unD_append, ex_pair, ex_trip])
    refine ⟨n, g, 1, rfl, c.o, by decide, by decide, fun S hS hl hm => ?_⟩
    have e := best_told c.o hb hS (by omega) fun S' h1 h2 => hm S' h1 (by omega)
    (try simp only [dSeq, dNext, dDrop, dAsg, dAsgG, dRet, dIfS, dPar, dVar, dC, dU, dOp, dTst, dAnd, dOr, dNot, dAndV, dNotV, dChain, dIf, dNil, dCons, dStar, dTup, dLst, dCall, dItL, dItT, dRng1, dRng2, dEnum, gdName, gdTup2, gdTup3, dYes, wipeR, dAppend, dExtend, dPopA, dAugL, dCut, dIsi, dLc_eq, dLc2_eq, dFor, dWhile, fAdd, fSub, fLt, fLe, fGt, fGe, fI2_eq, fNeg_eq, fTuple_nis, fTuple_l, fList_l, fList_tN, fCat_eq, unD_nil, unD_d, startR, List.map_cons, List.map_nil, List.length_cons, List.length_nil, List.replicate, List.cons_append, List.nil_append, Nat.zero_add, Nat.reduceAdd, Nat.reduceSub, List.append_nil, List.getElem?_cons_zero, List.getElem?_cons_succ, List.set_cons_zero, List.set_cons_succ, Option.some.injEq, Prod.mk.injEq, Option.map_some, Option.map_none, W.d.injEq, W.l.injEq, PyData.tuple.injEq, PyData.int.injEq, PyData.bool.injEq, PyData.str.injEq, reduceCtorEq, retOk_d, retOk_1, retOk_2, asgOk_d, asgOk_2, and_assoc, exists_and_left, exists_eq_left', exists_eq_left, true_and, and_true, ex_gD, ex_tN, fLen_gD, fLen_tN, fLen_l, len100, Int.toNat_natCast, Nat.reduceLeDiff, isT_ii, isT_ib, isT_tt, isT_ss, is_integer_eq, is_in_eq, is_list_eq, is_list_tN, is_list_gD, if_true, eq_self, Bool.false_eq_true, if_false, ge1, ge2, one_ne, two_ne, true_implies, unD_append, ex_pair, ex_trip])
    refine fIxT_0 ?_
    rw [e]
    (try simp only [dSeq, dNext, dDrop, dAsg, dAsgG, dRet, dIfS, dPar, dVar, dC, dU, dOp, dTst, dAnd, dOr, dNot, dAndV, dNotV, dChain, dIf, dNil, dCons, dStar, dTup, dLst, dCall, dItL, dItT, dRng1, dRng2, dEnum, gdName, gdTup2, gdTup3, dYes, wipeR, dAppend, dExtend, dPopA, dAugL, dCut, dIsi, dLc_eq, dLc2_eq, dFor, dWhile, fAdd, fSub, fLt, fLe, fGt, fGe, fI2_eq, fNeg_eq, fTuple_nis, fTuple_l, fList_l, fList_tN, fCat_eq, unD_nil, unD_d, startR, List.map_cons, List.map_nil, List.length_cons, List.length_nil, List.replicate, List.cons_append, List.nil_append, Nat.zero_add, Nat.reduceAdd, Nat.reduceSub, List.append_nil, List.getElem?_cons_zero, List.getElem?_cons_succ, List.set_cons_zero, List.set_cons_succ, Option.some.injEq, Prod.mk.injEq, Option.map_some, Option.map_none, W.d.injEq, W.l.injEq, PyData.tuple.injEq, PyData.int.injEq, PyData.bool.injEq, PyData.str.injEq, reduceCtorEq, retOk_d, retOk_1, retOk_2, asgOk_d, asgOk_2, and_assoc, exists_and_left, exists_eq_left', exists_eq_left, true_and, and_true, ex_gD, ex_tN, fLen_gD, fLen_tN, fLen_l, len100, Int.toNat_natCast, Nat.reduceLeDiff, isT_ii, isT_ib, isT_tt, isT_ss, is_integer_eq, is_in_eq, is_list_eq, is_list_tN, is_list_gD, if_true, eq_self, Bool.false_eq_true, if_false, ge1, ge2, one_ne, two_ne, true_implies, unD_append, ex_pair, ex_trip, fNe_int, decide_true, Bool.not_true])
    exact h
theorem take_tN (i : Nat) : PyData.tuple ((nis l).take i) = tN (l.take i) := by
  unfold tN nis
  rw [List.map_take]
theorem l_9 (c : Cx2 n g l m) (h : ∀ a b c, E.nx [none, none, some (W.d (gD n g), true), some (W.d (tN l), true), some (W.d (nI m), true), some (W.d (tI (gns n g l)), true), a, b, c, none, none]) : sl_9 E [none, none, some (W.d (gD n g), true), some (W.d (tN l), true), some (W.d (nI m), true), some (W.d (tI (gns n g l)), true), none, none, none, none, none] := by
  have ho := c.o
  have hl6 := c.len
  have hfl := c.fl
  have e0 : ((m : Int) + 1).toNat = m + 1 := by omega
  (try simp only [dSeq, dNext, dDrop, dAsg, dAsgG, dRet, dIfS, dPar, dVar, dC, dU, dOp, dTst, dAnd, dOr, dNot, dAndV, dNotV, dChain, dIf, dNil, dCons, dStar, dTup, dLst, dCall, dItL, dItT, dRng1, dRng2, dEnum, gdName, gdTup2, gdTup3, dYes, wipeR, dAppend, dExtend, dPopA, dAugL, dCut, dIsi, dLc_eq, dLc2_eq, dFor, dWhile, fAdd, fSub, fLt, fLe, fGt, fGe, fI2_eq, fNeg_eq, fTuple_nis, fTuple_l, fList_l, fList_tN, fCat_eq, unD_nil, unD_d, startR, List.map_cons, List.map_nil, List.length_cons, List.length_nil, List.replicate, List.cons_append, List.nil_append, Nat.zero_add, Nat.reduceAdd, Nat.reduceSub, List.append_nil, List.getElem?_cons_zero, List.getElem?_cons_succ, List.set_cons_zero, List.set_cons_succ, Option.some.injEq, Prod.mk.injEq, Option.map_some, Option.map_none, W.d.injEq, W.l.injEq, PyData.tuple.injEq, PyData.int.injEq, PyData.bool.injEq, PyData.str.injEq, reduceCtorEq, retOk_d, retOk_1, retOk_2, asgOk_d, asgOk_2, and_assoc, exists_and_left, exists_eq_left', exists_eq_left, true_and, and_true, ex_gD, ex_tN, fLen_gD, fLen_tN, fLen_l, len100, Int.toNat_natCast, Nat.reduceLeDiff, isT_ii, isT_ib, isT_tt, isT_ss, is_integer_eq, is_in_eq, is_list_eq, is_list_tN, is_list_gD, if_true, eq_self, Bool.false_eq_true, if_false, ge1, ge2, one_ne, two_ne, true_implies, unD_append, ex_pair, ex_trip, sl_9, e0])
  refine ⟨by omega, by omega, fun i ρ' => ∃ a b c, ρ' = [none, none, some (W.d (gD n g), true), some (W.d (tN l), true), some (W.d (nI m), true), some (W.d (tI (gns n g l)), true), a, b, c, none, none], ⟨_, _, _, rfl⟩, ?_, ?_⟩
  · rintro i x _ hx ⟨a, b, c', rfl⟩
    obtain ⟨rfl, hi⟩ := rng_nat hx
    (try simp only [dSeq, dNext, dDrop, dAsg, dAsgG, dRet, dIfS, dPar, dVar, dC, dU, dOp, dTst, dAnd, dOr, dNot, dAndV, dNotV, dChain, dIf, dNil, dCons, dStar, dTup, dLst, dCall, dItL, dItT, dRng1, dRng2, dEnum, gdName, gdTup2, gdTup3, dYes, wipeR, dAppend, dExtend, dPopA, dAugL, dCut, dIsi, dLc_eq, dLc2_eq, dFor, dWhile, fAdd, fSub, fLt, fLe, fGt, fGe, fI2_eq, fNeg_eq, fTuple_nis, fTuple_l, fList_l, fList_tN, fCat_eq, unD_nil, unD_d, startR, List.map_cons, List.map_nil, List.length_cons, List.length_nil, List.replicate, List.cons_append, List.nil_append, Nat.zero_add, Nat.reduceAdd, Nat.reduceSub, List.append_nil, List.getElem?_cons_zero, List.getElem?_cons_succ, List.set_cons_zero, List.set_cons_succ, Option.some.injEq, Prod.mk.injEq, Option.map_some, Option.map_none, W.d.injEq, W.l.injEq, PyData.tuple.injEq, PyData.int.injEq, PyData.bool.injEq, PyData.str.injEq, reduceCtorEq, retOk_d, retOk_1, retOk_2, asgOk_d, asgOk_2, and_assoc, exists_and_left, exists_eq_left', exists_eq_left, true_and, and_true, ex_gD, ex_tN, fLen_gD, fLen_tN, fLen_l, len100, Int.toNat_natCast, Nat.reduceLeDiff, isT_ii, isT_ib, isT_tt, isT_ss, is_integer_eq, is_in_eq, is_list_eq, is_list_tN, is_list_gD, if_true, eq_self, Bool.false_eq_true, if_false, ge1, ge2, one_ne, two_ne, true_implies, unD_append, ex_pair, ex_trip])
    refine ⟨n, g, (i : Int), rfl, ho, by omega, by omega, fun S hS hl hm => ?_⟩
    have hS' := mem_chs.mp hS
    have le1 : cnt n (aft g (l.take i)) ≤ cnt n (toldG n g S) := by
      have hlt : ∀ p ∈ l.take i, p < n := fun p hp => c.lt p (List.mem_of_mem_take hp)
      refine Nat.le_trans (cnt_mono (aft_told ho hlt)) (hm _ srt_chs ?_)
      have h1 := srt_len (n := n) (l := l.take i)
      rw [List.length_take] at h1
      omega
    have le2 := cnt_le (n := n) (toldG n g S) ho.le
    (try simp only [dSeq, dNext, dDrop, dAsg, dAsgG, dRet, dIfS, dPar, dVar, dC, dU, dOp, dTst, dAnd, dOr, dNot, dAndV, dNotV, dChain, dIf, dNil, dCons, dStar, dTup, dLst, dCall, dItL, dItT, dRng1, dRng2, dEnum, gdName, gdTup2, gdTup3, dYes, wipeR, dAppend, dExtend, dPopA, dAugL, dCut, dIsi, dLc_eq, dLc2_eq, dFor, dWhile, fAdd, fSub, fLt, fLe, fGt, fGe, fI2_eq, fNeg_eq, fTuple_nis, fTuple_l, fList_l, fList_tN, fCat_eq, unD_nil, unD_d, startR, List.map_cons, List.map_nil, List.length_cons, List.length_nil, List.replicate, List.cons_append, List.nil_append, Nat.zero_add, Nat.reduceAdd, Nat.reduceSub, List.append_nil, List.getElem?_cons_zero, List.getElem?_cons_succ, List.set_cons_zero, List.set_cons_succ, Option.some.injEq, Prod.mk.injEq, Option.map_some, Option.map_none, W.d.injEq, W.l.injEq, PyData.tuple.injEq, PyData.int.injEq, PyData.bool.injEq, PyData.str.injEq, reduceCtorEq, retOk_d, retOk_1, retOk_2, asgOk_d, asgOk_2, and_assoc, exists_and_left, exists_eq_left', exists_eq_left, true_and, and_true, ex_gD, ex_tN, fLen_gD, fLen_tN, fLen_l, len100, Int.toNat_natCast, Nat.reduceLeDiff, isT_ii, isT_ib, isT_tt, isT_ss, is_integer_eq, is_in_eq, is_list_eq, is_list_tN, is_list_gD, if_true, eq_self, Bool.false_eq_true, if_false, ge1, ge2, one_ne, two_ne, true_implies, unD_append, ex_pair, ex_trip])
    refine ⟨i, rfl, ?_⟩
    rw [take_tN]
    refine c_after ho (by rw [List.length_take]; omega) (fun p hp => c.lt p (List.mem_of_mem_take hp)) ?_
    (try simp only [dSeq, dNext, dDrop, dAsg, dAsgG, dRet, dIfS, dPar, dVar, dC, dU, dOp, dTst, dAnd, dOr, dNot, dAndV, dNotV, dChain, dIf, dNil, dCons, dStar, dTup, dLst, dCall, dItL, dItT, dRng1, dRng2, dEnum, gdName, gdTup2, gdTup3, dYes, wipeR, dAppend, dExtend, dPopA, dAugL, dCut, dIsi, dLc_eq, dLc2_eq, dFor, dWhile, fAdd, fSub, fLt, fLe, fGt, fGe, fI2_eq, fNeg_eq, fTuple_nis, fTuple_l, fList_l, fList_tN, fCat_eq, unD_nil, unD_d, startR, List.map_cons, List.map_nil, List.length_cons, List.length_nil, List.replicate, List.cons_append, List.nil_append, Nat.zero_add, Nat.reduceAdd, Nat.reduceSub, List.append_nil, List.getElem?_cons_zero, List.getElem?_cons_succ, List.set_cons_zero, List.set_cons_succ, Option.some.injEq, Prod.mk.injEq, Option.map_some, Option.map_none, W.d.injEq, W.l.injEq, PyData.tuple.injEq, PyData.int.injEq, PyData.bool.injEq, PyData.str.injEq, reduceCtorEq, retOk_d, retOk_1, retOk_2, asgOk_d, asgOk_2, and_assoc, exists_and_left, exists_eq_left', exists_eq_left, true_and, and_true, ex_gD, ex_tN, fLen_gD, fLen_tN, fLen_l, len100, Int.toNat_natCast, Nat.reduceLeDiff, isT_ii, isT_ib, isT_tt, isT_ss, is_integer_eq, is_in_eq, is_list_eq, is_list_tN, is_list_gD, if_true, eq_self, Bool.false_eq_true, if_false, ge1, ge2, one_ne, two_ne, true_implies, unD_append, ex_pair, ex_trip])
    refine c_count_pairs ho.aft ?_
    have e1 : decide ((cnt n (toldG n g S) : Int) < (cnt n (aft g (l.take i)) : Int)) = false := decide_eq_false (by omega)
    (try simp only [dSeq, dNext, dDrop, dAsg, dAsgG, dRet, dIfS, dPar, dVar, dC, dU, dOp, dTst, dAnd, dOr, dNot, dAndV, dNotV, dChain, dIf, dNil, dCons, dStar, dTup, dLst, dCall, dItL, dItT, dRng1, dRng2, dEnum, gdName, gdTup2, gdTup3, dYes, wipeR, dAppend, dExtend, dPopA, dAugL, dCut, dIsi, dLc_eq, dLc2_eq, dFor, dWhile, fAdd, fSub, fLt, fLe, fGt, fGe, fI2_eq, fNeg_eq, fTuple_nis, fTuple_l, fList_l, fList_tN, fCat_eq, unD_nil, unD_d, startR, List.map_cons, List.map_nil, List.length_cons, List.length_nil, List.replicate, List.cons_append, List.nil_append, Nat.zero_add, Nat.reduceAdd, Nat.reduceSub, List.append_nil, List.getElem?_cons_zero, List.getElem?_cons_succ, List.set_cons_zero, List.set_cons_succ, Option.some.injEq, Prod.mk.injEq, Option.map_some, Option.map_none, W.d.injEq, W.l.injEq, PyData.tuple.injEq, PyData.int.injEq, PyData.bool.injEq, PyData.str.injEq, reduceCtorEq, retOk_d, retOk_1, retOk_2, asgOk_d, asgOk_2, and_assoc, exists_and_left, exists_eq_left', exists_eq_left, true_and, and_true, ex_gD, ex_tN, fLen_gD, fLen_tN, fLen_l, len100, Int.toNat_natCast, Nat.reduceLeDiff, isT_ii, isT_ib, isT_tt, isT_ss, is_integer_eq, is_in_eq, is_list_eq, is_list_tN, is_list_gD, if_true, eq_self, Bool.false_eq_true, if_false, ge1, ge2, one_ne, two_ne, true_implies, unD_append, ex_pair, ex_trip, e1])
    refine ⟨n, g, (cnt n (toldG n g S) : Int), rfl, ho, by omega, by omega, ⟨S, hS, Int.le_refl _⟩, fun k hk => ?_⟩
    have hk := hk S ⟨hS, Int.le_refl _⟩
    have e2 : decide ((i : Int) < (k : Int)) = false := decide_eq_false (by omega)
    (try simp only [dSeq, dNext, dDrop, dAsg, dAsgG, dRet, dIfS, dPar, dVar, dC, dU, dOp, dTst, dAnd, dOr, dNot, dAndV, dNotV, dChain, dIf, dNil, dCons, dStar, dTup, dLst, dCall, dItL, dItT, dRng1, dRng2, dEnum, gdName, gdTup2, gdTup3, dYes, wipeR, dAppend, dExtend, dPopA, dAugL, dCut, dIsi, dLc_eq, dLc2_eq, dFor, dWhile, fAdd, fSub, fLt, fLe, fGt, fGe, fI2_eq, fNeg_eq, fTuple_nis, fTuple_l, fList_l, fList_tN, fCat_eq, unD_nil, unD_d, startR, List.map_cons, List.map_nil, List.length_cons, List.length_nil, List.replicate, List.cons_append, List.nil_append, Nat.zero_add, Nat.reduceAdd, Nat.reduceSub, List.append_nil, List.getElem?_cons_zero, List.getElem?_cons_succ, List.set_cons_zero, List.set_cons_succ, Option.some.injEq, Prod.mk.injEq, Option.map_some, Option.map_none, W.d.injEq, W.l.injEq, PyData.tuple.injEq, PyData.int.injEq, PyData.bool.injEq, PyData.str.injEq, reduceCtorEq, retOk_d, retOk_1, retOk_2, asgOk_d, asgOk_2, and_assoc, exists_and_left, exists_eq_left', exists_eq_left, true_and, and_true, ex_gD, ex_tN, fLen_gD, fLen_tN, fLen_l, len100, Int.toNat_natCast, Nat.reduceLeDiff, isT_ii, isT_ib, isT_tt, isT_ss, is_integer_eq, is_in_eq, is_list_eq, is_list_tN, is_list_gD, if_true, eq_self, Bool.false_eq_true, if_false, ge1, ge2, one_ne, two_ne, true_implies, unD_append, ex_pair, ex_trip, e2])
    refine ⟨n, g, S, rfl, ho, hS'.1, hS'.2, ?_⟩
    (try simp only [dSeq, dNext, dDrop, dAsg, dAsgG, dRet, dIfS, dPar, dVar, dC, dU, dOp, dTst, dAnd, dOr, dNot, dAndV, dNotV, dChain, dIf, dNil, dCons, dStar, dTup, dLst, dCall, dItL, dItT, dRng1, dRng2, dEnum, gdName, gdTup2, gdTup3, dYes, wipeR, dAppend, dExtend, dPopA, dAugL, dCut, dIsi, dLc_eq, dLc2_eq, dFor, dWhile, fAdd, fSub, fLt, fLe, fGt, fGe, fI2_eq, fNeg_eq, fTuple_nis, fTuple_l, fList_l, fList_tN, fCat_eq, unD_nil, unD_d, startR, List.map_cons, List.map_nil, List.length_cons, List.length_nil, List.replicate, List.cons_append, List.nil_append, Nat.zero_add, Nat.reduceAdd, Nat.reduceSub, List.append_nil, List.getElem?_cons_zero, List.getElem?_cons_succ, List.set_cons_zero, List.set_cons_succ, Option.some.injEq, Prod.mk.injEq, Option.map_some, Option.map_none, W.d.injEq, W.l.injEq, PyData.tuple.injEq, PyData.int.injEq, PyData.bool.injEq, PyData.str.injEq, reduceCtorEq, retOk_d, retOk_1, retOk_2, asgOk_d, asgOk_2, and_assoc, exists_and_left, exists_eq_left', exists_eq_left, true_and, and_true, ex_gD, ex_tN, fLen_gD, fLen_tN, fLen_l, len100, Int.toNat_natCast, Nat.reduceLeDiff, isT_ii, isT_ib, isT_tt, isT_ss, is_integer_eq, is_in_eq, is_list_eq, is_list_tN, is_list_gD, if_true, eq_self, Bool.false_eq_true, if_false, ge1, ge2, one_ne, two_ne, true_implies, unD_append, ex_pair, ex_trip])
    refine c_count_pairs (ho.told S) ?_
    (try simp only [dSeq, dNext, dDrop, dAsg, dAsgG, dRet, dIfS, dPar, dVar, dC, dU, dOp, dTst, dAnd, dOr, dNot, dAndV, dNotV, dChain, dIf, dNil, dCons, dStar, dTup, dLst, dCall, dItL, dItT, dRng1, dRng2, dEnum, gdName, gdTup2, gdTup3, dYes, wipeR, dAppend, dExtend, dPopA, dAugL, dCut, dIsi, dLc_eq, dLc2_eq, dFor, dWhile, fAdd, fSub, fLt, fLe, fGt, fGe, fI2_eq, fNeg_eq, fTuple_nis, fTuple_l, fList_l, fList_tN, fCat_eq, unD_nil, unD_d, startR, List.map_cons, List.map_nil, List.length_cons, List.length_nil, List.replicate, List.cons_append, List.nil_append, Nat.zero_add, Nat.reduceAdd, Nat.reduceSub, List.append_nil, List.getElem?_cons_zero, List.getElem?_cons_succ, List.set_cons_zero, List.set_cons_succ, Option.some.injEq, Prod.mk.injEq, Option.map_some, Option.map_none, W.d.injEq, W.l.injEq, PyData.tuple.injEq, PyData.int.injEq, PyData.bool.injEq, PyData.str.injEq, reduceCtorEq, retOk_d, retOk_1, retOk_2, asgOk_d, asgOk_2, and_assoc, exists_and_left, exists_eq_left', exists_eq_left, true_and, and_true, ex_gD, ex_tN, fLen_gD, fLen_tN, fLen_l, len100, Int.toNat_natCast, Nat.reduceLeDiff, isT_ii, isT_ib, isT_tt, isT_ss, is_integer_eq, is_in_eq, is_list_eq, is_list_tN, is_list_gD, if_true, eq_self, Bool.false_eq_true, if_false, ge1, ge2, one_ne, two_ne, true_implies, unD_append, ex_pair, ex_trip, fNe_int, decide_true, Bool.not_true])
    exact ⟨_, _, _, rfl⟩
  · rintro _ ⟨a, b, c', rfl⟩
    exact h a b c'
variable {a b c : Option (W × Bool)}
theorem l_10 (x : Cx2 n g l m) (h : E.nx [none, none, some (W.d (gD n g), true), some (W.d (tN l), true), some (W.d (nI m), true), some (W.d (tI (gns n g l)), true), a, b, c, none, none]) : sl_10 E [none, none, some (W.d (gD n g), true), some (W.d (tN l), true), some (W.d (nI m), true), some (W.d (tI (gns n g l)), true), a, b, c, none, none] := by
  (try simp only [dSeq, dNext, dDrop, dAsg, dAsgG, dRet, dIfS, dPar, dVar, dC, dU, dOp, dTst, dAnd, dOr, dNot, dAndV, dNotV, dChain, dIf, dNil, dCons, dStar, dTup, dLst, dCall, dItL, dItT, dRng1, dRng2, dEnum, gdName, gdTup2, gdTup3, dYes, wipeR, dAppend, dExtend, dPopA, dAugL, dCut, dIsi, dLc_eq, dLc2_eq, dFor, dWhile, fAdd, fSub, fLt, fLe, fGt, fGe, fI2_eq, fNeg_eq, fTuple_nis, fTuple_l, fList_l, fList_tN, fCat_eq, unD_nil, unD_d, startR, List.map_cons, List.map_nil, List.length_cons, List.length_nil, List.replicate, List.cons_append, List.nil_append, Nat.zero_add, Nat.reduceAdd, Nat.reduceSub, List.append_nil, List.getElem?_cons_zero, List.getElem?_cons_succ, List.set_cons_zero, List.set_cons_succ, Option.some.injEq, Prod.mk.injEq, Option.map_some, Option.map_none, W.d.injEq, W.l.injEq, PyData.tuple.injEq, PyData.int.injEq, PyData.bool.injEq, PyData.str.injEq, reduceCtorEq, retOk_d, retOk_1, retOk_2, asgOk_d, asgOk_2, and_assoc, exists_and_left, exists_eq_left', exists_eq_left, true_and, and_true, ex_gD, ex_tN, fLen_gD, fLen_tN, fLen_l, len100, Int.toNat_natCast, Nat.reduceLeDiff, isT_ii, isT_ib, isT_tt, isT_ss, is_integer_eq, is_in_eq, is_list_eq, is_list_tN, is_list_gD, if_true, eq_self, Bool.false_eq_true, if_false, ge1, ge2, one_ne, two_ne, true_implies, unD_append, ex_pair, ex_trip, sl_10])
  refine ⟨n, g, rfl, x.o, fun m' r ⟨l1, h1, e1⟩ _ => ?_⟩
  have f1 := few_le x.o h1 x.few
  have e2 : decide ((m' : Int) < (m : Int)) = false := decide_eq_false (by omega)
  (try simp only [dSeq, dNext, dDrop, dAsg, dAsgG, dRet, dIfS, dPar, dVar, dC, dU, dOp, dTst, dAnd, dOr, dNot, dAndV, dNotV, dChain, dIf, dNil, dCons, dStar, dTup, dLst, dCall, dItL, dItT, dRng1, dRng2, dEnum, gdName, gdTup2, gdTup3, dYes, wipeR, dAppend, dExtend, dPopA, dAugL, dCut, dIsi, dLc_eq, dLc2_eq, dFor, dWhile, fAdd, fSub, fLt, fLe, fGt, fGe, fI2_eq, fNeg_eq, fTuple_nis, fTuple_l, fList_l, fList_tN, fCat_eq, unD_nil, unD_d, startR, List.map_cons, List.map_nil, List.length_cons, List.length_nil, List.replicate, List.cons_append, List.nil_append, Nat.zero_add, Nat.reduceAdd, Nat.reduceSub, List.append_nil, List.getElem?_cons_zero, List.getElem?_cons_succ, List.set_cons_zero, List.set_cons_succ, Option.some.injEq, Prod.mk.injEq, Option.map_some, Option.map_none, W.d.injEq, W.l.injEq, PyData.tuple.injEq, PyData.int.injEq, PyData.bool.injEq, PyData.str.injEq, reduceCtorEq, retOk_d, retOk_1, retOk_2, asgOk_d, asgOk_2, and_assoc, exists_and_left, exists_eq_left', exists_eq_left, true_and, and_true, ex_gD, ex_tN, fLen_gD, fLen_tN, fLen_l, len100, Int.toNat_natCast, Nat.reduceLeDiff, isT_ii, isT_ib, isT_tt, isT_ss, is_integer_eq, is_in_eq, is_list_eq, is_list_tN, is_list_gD, if_true, eq_self, Bool.false_eq_true, if_false, ge1, ge2, one_ne, two_ne, true_implies, unD_append, ex_pair, ex_trip])
  refine fIxT_0 ?_
  (try simp only [dSeq, dNext, dDrop, dAsg, dAsgG, dRet, dIfS, dPar, dVar, dC, dU, dOp, dTst, dAnd, dOr, dNot, dAndV, dNotV, dChain, dIf, dNil, dCons, dStar, dTup, dLst, dCall, dItL, dItT, dRng1, dRng2, dEnum, gdName, gdTup2, gdTup3, dYes, wipeR, dAppend, dExtend, dPopA, dAugL, dCut, dIsi, dLc_eq, dLc2_eq, dFor, dWhile, fAdd, fSub, fLt, fLe, fGt, fGe, fI2_eq, fNeg_eq, fTuple_nis, fTuple_l, fList_l, fList_tN, fCat_eq, unD_nil, unD_d, startR, List.map_cons, List.map_nil, List.length_cons, List.length_nil, List.replicate, List.cons_append, List.nil_append, Nat.zero_add, Nat.reduceAdd, Nat.reduceSub, List.append_nil, List.getElem?_cons_zero, List.getElem?_cons_succ, List.set_cons_zero, List.set_cons_succ, Option.some.injEq, Prod.mk.injEq, Option.map_some, Option.map_none, W.d.injEq, W.l.injEq, PyData.tuple.injEq, PyData.int.injEq, PyData.bool.injEq, PyData.str.injEq, reduceCtorEq, retOk_d, retOk_1, retOk_2, asgOk_d, asgOk_2, and_assoc, exists_and_left, exists_eq_left', exists_eq_left, true_and, and_true, ex_gD, ex_tN, fLen_gD, fLen_tN, fLen_l, len100, Int.toNat_natCast, Nat.reduceLeDiff, isT_ii, isT_ib, isT_tt, isT_ss, is_integer_eq, is_in_eq, is_list_eq, is_list_tN, is_list_gD, if_true, eq_self, Bool.false_eq_true, if_false, ge1, ge2, one_ne, two_ne, true_implies, unD_append, ex_pair, ex_trip, e2])
  refine ⟨n, g, rfl, x.o, fun m' r _ ⟨l1, h1, e1⟩ => ?_⟩
  have e : l1 = l := rr_one many_in x.o h1 x.rr
  subst e
  have e2 : decide ((l1.length : Int) < (m' : Int)) = false := decide_eq_false (by omega)
  (try simp only [dSeq, dNext, dDrop, dAsg, dAsgG, dRet, dIfS, dPar, dVar, dC, dU, dOp, dTst, dAnd, dOr, dNot, dAndV, dNotV, dChain, dIf, dNil, dCons, dStar, dTup, dLst, dCall, dItL, dItT, dRng1, dRng2, dEnum, gdName, gdTup2, gdTup3, dYes, wipeR, dAppend, dExtend, dPopA, dAugL, dCut, dIsi, dLc_eq, dLc2_eq, dFor, dWhile, fAdd, fSub, fLt, fLe, fGt, fGe, fI2_eq, fNeg_eq, fTuple_nis, fTuple_l, fList_l, fList_tN, fCat_eq, unD_nil, unD_d, startR, List.map_cons, List.map_nil, List.length_cons, List.length_nil, List.replicate, List.cons_append, List.nil_append, Nat.zero_add, Nat.reduceAdd, Nat.reduceSub, List.append_nil, List.getElem?_cons_zero, List.getElem?_cons_succ, List.set_cons_zero, List.set_cons_succ, Option.some.injEq, Prod.mk.injEq, Option.map_some, Option.map_none, W.d.injEq, W.l.injEq, PyData.tuple.injEq, PyData.int.injEq, PyData.bool.injEq, PyData.str.injEq, reduceCtorEq, retOk_d, retOk_1, retOk_2, asgOk_d, asgOk_2, and_assoc, exists_and_left, exists_eq_left', exists_eq_left, true_and, and_true, ex_gD, ex_tN, fLen_gD, fLen_tN, fLen_l, len100, Int.toNat_natCast, Nat.reduceLeDiff, isT_ii, isT_ib, isT_tt, isT_ss, is_integer_eq, is_in_eq, is_list_eq, is_list_tN, is_list_gD, if_true, eq_self, Bool.false_eq_true, if_false, ge1, ge2, one_ne, two_ne, true_implies, unD_append, ex_pair, ex_trip])
  refine fIxT_0 ?_
  (try simp only [dSeq, dNext, dDrop, dAsg, dAsgG, dRet, dIfS, dPar, dVar, dC, dU, dOp, dTst, dAnd, dOr, dNot, dAndV, dNotV, dChain, dIf, dNil, dCons, dStar, dTup, dLst, dCall, dItL, dItT, dRng1, dRng2, dEnum, gdName, gdTup2, gdTup3, dYes, wipeR, dAppend, dExtend, dPopA, dAugL, dCut, dIsi, dLc_eq, dLc2_eq, dFor, dWhile, fAdd, fSub, fLt, fLe, fGt, fGe, fI2_eq, fNeg_eq, fTuple_nis, fTuple_l, fList_l, fList_tN, fCat_eq, unD_nil, unD_d, startR, List.map_cons, List.map_nil, List.length_cons, List.length_nil, List.replicate, List.cons_append, List.nil_append, Nat.zero_add, Nat.reduceAdd, Nat.reduceSub, List.append_nil, List.getElem?_cons_zero, List.getElem?_cons_succ, List.set_cons_zero, List.set_cons_succ, Option.some.injEq, Prod.mk.injEq, Option.map_some, Option.map_none, W.d.injEq, W.l.injEq, PyData.tuple.injEq, PyData.int.injEq, PyData.bool.injEq, PyData.str.injEq, reduceCtorEq, retOk_d, retOk_1, retOk_2, asgOk_d, asgOk_2, and_assoc, exists_and_left, exists_eq_left', exists_eq_left, true_and, and_true, ex_gD, ex_tN, fLen_gD, fLen_tN, fLen_l, len100, Int.toNat_natCast, Nat.reduceLeDiff, isT_ii, isT_ib, isT_tt, isT_ss, is_integer_eq, is_in_eq, is_list_eq, is_list_tN, is_list_gD, if_true, eq_self, Bool.false_eq_true, if_false, ge1, ge2, one_ne, two_ne, true_implies, unD_append, ex_pair, ex_trip, e2])
  exact h
theorem l_11 (x : Cx2 n g l m) (h : ∀ a, E.nx [none, none, some (W.d (gD n g), true), some (W.d (tN l), true), some (W.d (nI m), true), some (W.d (tI (gns n g l)), true), a, b, c, none, none]) : sl_11 E [none, none, some (W.d (gD n g), true), some (W.d (tN l), true), some (W.d (nI m), true), some (W.d (tI (gns n g l)), true), a, b, c, none, none] := by
  (try simp only [dSeq, dNext, dDrop, dAsg, dAsgG, dRet, dIfS, dPar, dVar, dC, dU, dOp, dTst, dAnd, dOr, dNot, dAndV, dNotV, dChain, dIf, dNil, dCons, dStar, dTup, dLst, dCall, dItL, dItT, dRng1, dRng2, dEnum, gdName, gdTup2, gdTup3, dYes, wipeR, dAppend, dExtend, dPopA, dAugL, dCut, dIsi, dLc_eq, dLc2_eq, dFor, dWhile, fAdd, fSub, fLt, fLe, fGt, fGe, fI2_eq, fNeg_eq, fTuple_nis, fTuple_l, fList_l, fList_tN, fCat_eq, unD_nil, unD_d, startR, List.map_cons, List.map_nil, List.length_cons, List.length_nil, List.replicate, List.cons_append, List.nil_append, Nat.zero_add, Nat.reduceAdd, Nat.reduceSub, List.append_nil, List.getElem?_cons_zero, List.getElem?_cons_succ, List.set_cons_zero, List.set_cons_succ, Option.some.injEq, Prod.mk.injEq, Option.map_some, Option.map_none, W.d.injEq, W.l.injEq, PyData.tuple.injEq, PyData.int.injEq, PyData.bool.injEq, PyData.str.injEq, reduceCtorEq, retOk_d, retOk_1, retOk_2, asgOk_d, asgOk_2, and_assoc, exists_and_left, exists_eq_left', exists_eq_left, true_and, and_true, ex_gD, ex_tN, fLen_gD, fLen_tN, fLen_l, len100, Int.toNat_natCast, Nat.reduceLeDiff, isT_ii, isT_ib, isT_tt, isT_ss, is_integer_eq, is_in_eq, is_list_eq, is_list_tN, is_list_gD, if_true, eq_self, Bool.false_eq_true, if_false, ge1, ge2, one_ne, two_ne, true_implies, unD_append, ex_pair, ex_trip, sl_11])
  refine ⟨n, g, rfl, x.o, fun rs f h6 hm hru hr => ?_⟩
  have lR : ∀ (r : Str) (k : Nat), r ∈ rulesL → Sh 1 (.tuple [nI k, .str r]) := fun r k hr => .tup fun y hy => by
    rcases List.mem_cons.mp hy with rfl | hy
    · exact .int _
    · rw [List.mem_singleton.mp hy]
      have ok : PyData.strOk r = true := (by decide +kernel : ∀ r ∈ rulesL, PyData.strOk r = true) r hr
      exact ⟨by simp [PyData.canLay0, ok], by simp [PyData.depth]⟩
  obtain ⟨l1, h1, e1⟩ := hr _ hm
  have e : l1 = l := rr_one many_in x.o h1 x.rr
  subst e
  (try simp only [dSeq, dNext, dDrop, dAsg, dAsgG, dRet, dIfS, dPar, dVar, dC, dU, dOp, dTst, dAnd, dOr, dNot, dAndV, dNotV, dChain, dIf, dNil, dCons, dStar, dTup, dLst, dCall, dItL, dItT, dRng1, dRng2, dEnum, gdName, gdTup2, gdTup3, dYes, wipeR, dAppend, dExtend, dPopA, dAugL, dCut, dIsi, dLc_eq, dLc2_eq, dFor, dWhile, fAdd, fSub, fLt, fLe, fGt, fGe, fI2_eq, fNeg_eq, fTuple_nis, fTuple_l, fList_l, fList_tN, fCat_eq, unD_nil, unD_d, startR, List.map_cons, List.map_nil, List.length_cons, List.length_nil, List.replicate, List.cons_append, List.nil_append, Nat.zero_add, Nat.reduceAdd, Nat.reduceSub, List.append_nil, List.getElem?_cons_zero, List.getElem?_cons_succ, List.set_cons_zero, List.set_cons_succ, Option.some.injEq, Prod.mk.injEq, Option.map_some, Option.map_none, W.d.injEq, W.l.injEq, PyData.tuple.injEq, PyData.int.injEq, PyData.bool.injEq, PyData.str.injEq, reduceCtorEq, retOk_d, retOk_1, retOk_2, asgOk_d, asgOk_2, and_assoc, exists_and_left, exists_eq_left', exists_eq_left, true_and, and_true, ex_gD, ex_tN, fLen_gD, fLen_tN, fLen_l, len100, Int.toNat_natCast, Nat.reduceLeDiff, isT_ii, isT_ib, isT_tt, isT_ss, is_integer_eq, is_in_eq, is_list_eq, is_list_tN, is_list_gD, if_true, eq_self, Bool.false_eq_true, if_false, ge1, ge2, one_ne, two_ne, true_implies, unD_append, ex_pair, ex_trip])
  refine ⟨by rw [List.length_map]; omega, ?_⟩
  refine lcT (enc := fun r : Str => PyData.tuple [.str r, nI (f r)]) (fun r => PyData.tuple [nI (f r), .str r]) (fun r _ r' _ e => ?_) (fun r hr' => ?_) ?_
  · injection e with e
    injection e with e
    exact str_inj e
  · (try simp only [dSeq, dNext, dDrop, dAsg, dAsgG, dRet, dIfS, dPar, dVar, dC, dU, dOp, dTst, dAnd, dOr, dNot, dAndV, dNotV, dChain, dIf, dNil, dCons, dStar, dTup, dLst, dCall, dItL, dItT, dRng1, dRng2, dEnum, gdName, gdTup2, gdTup3, dYes, wipeR, dAppend, dExtend, dPopA, dAugL, dCut, dIsi, dLc_eq, dLc2_eq, dFor, dWhile, fAdd, fSub, fLt, fLe, fGt, fGe, fI2_eq, fNeg_eq, fTuple_nis, fTuple_l, fList_l, fList_tN, fCat_eq, unD_nil, unD_d, startR, List.map_cons, List.map_nil, List.length_cons, List.length_nil, List.replicate, List.cons_append, List.nil_append, Nat.zero_add, Nat.reduceAdd, Nat.reduceSub, List.append_nil, List.getElem?_cons_zero, List.getElem?_cons_succ, List.set_cons_zero, List.set_cons_succ, Option.some.injEq, Prod.mk.injEq, Option.map_some, Option.map_none, W.d.injEq, W.l.injEq, PyData.tuple.injEq, PyData.int.injEq, PyData.bool.injEq, PyData.str.injEq, reduceCtorEq, retOk_d, retOk_1, retOk_2, asgOk_d, asgOk_2, and_assoc, exists_and_left, exists_eq_left', exists_eq_left, true_and, and_true, ex_gD, ex_tN, fLen_gD, fLen_tN, fLen_l, len100, Int.toNat_natCast, Nat.reduceLeDiff, isT_ii, isT_ib, isT_tt, isT_ss, is_integer_eq, is_in_eq, is_list_eq, is_list_tN, is_list_gD, if_true, eq_self, Bool.false_eq_true, if_false, ge1, ge2, one_ne, two_ne, true_implies, unD_append, ex_pair, ex_trip])
    try trivial
  · refine ⟨(lR sMany l1.length many_in).ok, (Sh.lst (k := 1) (Sh.map fun r hr => lR r (f r) (hru r hr))).ok, ?_⟩
    have e2 : ((rs.map fun r => PyData.tuple [nI (f r), .str r]).any fun z => PyData.eqv z (.tuple [nI l1.length, .str sMany])) = true := List.any_eq_true.mpr ⟨_, List.mem_map.mpr ⟨sMany, hm, rfl⟩, by rw [e1]; simp [PyData.eqv, PyData.eqvAll]⟩
    rw [e2]
    (try simp only [dSeq, dNext, dDrop, dAsg, dAsgG, dRet, dIfS, dPar, dVar, dC, dU, dOp, dTst, dAnd, dOr, dNot, dAndV, dNotV, dChain, dIf, dNil, dCons, dStar, dTup, dLst, dCall, dItL, dItT, dRng1, dRng2, dEnum, gdName, gdTup2, gdTup3, dYes, wipeR, dAppend, dExtend, dPopA, dAugL, dCut, dIsi, dLc_eq, dLc2_eq, dFor, dWhile, fAdd, fSub, fLt, fLe, fGt, fGe, fI2_eq, fNeg_eq, fTuple_nis, fTuple_l, fList_l, fList_tN, fCat_eq, unD_nil, unD_d, startR, List.map_cons, List.map_nil, List.length_cons, List.length_nil, List.replicate, List.cons_append, List.nil_append, Nat.zero_add, Nat.reduceAdd, Nat.reduceSub, List.append_nil, List.getElem?_cons_zero, List.getElem?_cons_succ, List.set_cons_zero, List.set_cons_succ, Option.some.injEq, Prod.mk.injEq, Option.map_some, Option.map_none, W.d.injEq, W.l.injEq, PyData.tuple.injEq, PyData.int.injEq, PyData.bool.injEq, PyData.str.injEq, reduceCtorEq, retOk_d, retOk_1, retOk_2, asgOk_d, asgOk_2, and_assoc, exists_and_left, exists_eq_left', exists_eq_left, true_and, and_true, ex_gD, ex_tN, fLen_gD, fLen_tN, fLen_l, len100, Int.toNat_natCast, Nat.reduceLeDiff, isT_ii, isT_ib, isT_tt, isT_ss, is_integer_eq, is_in_eq, is_list_eq, is_list_tN, is_list_gD, if_true, eq_self, Bool.false_eq_true, if_false, ge1, ge2, one_ne, two_ne, true_implies, unD_append, ex_pair, ex_trip, Bool.not_true])
    exact h _
theorem l_12 (x : Cx2 n g l m) (h : E.nx [none, none, some (W.d (gD n g), true), some (W.d (tN l), true), some (W.d (nI m), true), some (W.d (tI (gns n g l)), true), a, b, c, none, none]) : sl_12 E [none, none, some (W.d (gD n g), true), some (W.d (tN l), true), some (W.d (nI m), true), some (W.d (tI (gns n g l)), true), a, b, c, none, none] := by
  (try simp only [dSeq, dNext, dDrop, dAsg, dAsgG, dRet, dIfS, dPar, dVar, dC, dU, dOp, dTst, dAnd, dOr, dNot, dAndV, dNotV, dChain, dIf, dNil, dCons, dStar, dTup, dLst, dCall, dItL, dItT, dRng1, dRng2, dEnum, gdName, gdTup2, gdTup3, dYes, wipeR, dAppend, dExtend, dPopA, dAugL, dCut, dIsi, dLc_eq, dLc2_eq, dFor, dWhile, fAdd, fSub, fLt, fLe, fGt, fGe, fI2_eq, fNeg_eq, fTuple_nis, fTuple_l, fList_l, fList_tN, fCat_eq, unD_nil, unD_d, startR, List.map_cons, List.map_nil, List.length_cons, List.length_nil, List.replicate, List.cons_append, List.nil_append, Nat.zero_add, Nat.reduceAdd, Nat.reduceSub, List.append_nil, List.getElem?_cons_zero, List.getElem?_cons_succ, List.set_cons_zero, List.set_cons_succ, Option.some.injEq, Prod.mk.injEq, Option.map_some, Option.map_none, W.d.injEq, W.l.injEq, PyData.tuple.injEq, PyData.int.injEq, PyData.bool.injEq, PyData.str.injEq, reduceCtorEq, retOk_d, retOk_1, retOk_2, asgOk_d, asgOk_2, and_assoc, exists_and_left, exists_eq_left', exists_eq_left, true_and, and_true, ex_gD, ex_tN, fLen_gD, fLen_tN, fLen_l, len100, Int.toNat_natCast, Nat.reduceLeDiff, isT_ii, isT_ib, isT_tt, isT_ss, is_integer_eq, is_in_eq, is_list_eq, is_list_tN, is_list_gD, if_true, eq_self, Bool.false_eq_true, if_false, ge1, ge2, one_ne, two_ne, true_implies, unD_append, ex_pair, ex_trip, sl_12])
  refine ⟨n, g, rfl, x.o, ⟨_, row_joins x.o x.rr⟩, fun js h64 hj => ?_⟩
  (try simp only [dSeq, dNext, dDrop, dAsg, dAsgG, dRet, dIfS, dPar, dVar, dC, dU, dOp, dTst, dAnd, dOr, dNot, dAndV, dNotV, dChain, dIf, dNil, dCons, dStar, dTup, dLst, dCall, dItL, dItT, dRng1, dRng2, dEnum, gdName, gdTup2, gdTup3, dYes, wipeR, dAppend, dExtend, dPopA, dAugL, dCut, dIsi, dLc_eq, dLc2_eq, dFor, dWhile, fAdd, fSub, fLt, fLe, fGt, fGe, fI2_eq, fNeg_eq, fTuple_nis, fTuple_l, fList_l, fList_tN, fCat_eq, unD_nil, unD_d, startR, List.map_cons, List.map_nil, List.length_cons, List.length_nil, List.replicate, List.cons_append, List.nil_append, Nat.zero_add, Nat.reduceAdd, Nat.reduceSub, List.append_nil, List.getElem?_cons_zero, List.getElem?_cons_succ, List.set_cons_zero, List.set_cons_succ, Option.some.injEq, Prod.mk.injEq, Option.map_some, Option.map_none, W.d.injEq, W.l.injEq, PyData.tuple.injEq, PyData.int.injEq, PyData.bool.injEq, PyData.str.injEq, reduceCtorEq, retOk_d, retOk_1, retOk_2, asgOk_d, asgOk_2, and_assoc, exists_and_left, exists_eq_left', exists_eq_left, true_and, and_true, ex_gD, ex_tN, fLen_gD, fLen_tN, fLen_l, len100, Int.toNat_natCast, Nat.reduceLeDiff, isT_ii, isT_ib, isT_tt, isT_ss, is_integer_eq, is_in_eq, is_list_eq, is_list_tN, is_list_gD, if_true, eq_self, Bool.false_eq_true, if_false, ge1, ge2, one_ne, two_ne, true_implies, unD_append, ex_pair, ex_trip])
  refine ⟨by rw [List.length_map]; omega, ?_⟩
  refine lcM (enc := tN) (fun S => decide ((l.length : Int) < (S.length : Int))) tN (fun _ _ _ _ => tN_inj) (fun S hS => ?_) ?_
  · (try simp only [dSeq, dNext, dDrop, dAsg, dAsgG, dRet, dIfS, dPar, dVar, dC, dU, dOp, dTst, dAnd, dOr, dNot, dAndV, dNotV, dChain, dIf, dNil, dCons, dStar, dTup, dLst, dCall, dItL, dItT, dRng1, dRng2, dEnum, gdName, gdTup2, gdTup3, dYes, wipeR, dAppend, dExtend, dPopA, dAugL, dCut, dIsi, dLc_eq, dLc2_eq, dFor, dWhile, fAdd, fSub, fLt, fLe, fGt, fGe, fI2_eq, fNeg_eq, fTuple_nis, fTuple_l, fList_l, fList_tN, fCat_eq, unD_nil, unD_d, startR, List.map_cons, List.map_nil, List.length_cons, List.length_nil, List.replicate, List.cons_append, List.nil_append, Nat.zero_add, Nat.reduceAdd, Nat.reduceSub, List.append_nil, List.getElem?_cons_zero, List.getElem?_cons_succ, List.set_cons_zero, List.set_cons_succ, Option.some.injEq, Prod.mk.injEq, Option.map_some, Option.map_none, W.d.injEq, W.l.injEq, PyData.tuple.injEq, PyData.int.injEq, PyData.bool.injEq, PyData.str.injEq, reduceCtorEq, retOk_d, retOk_1, retOk_2, asgOk_d, asgOk_2, and_assoc, exists_and_left, exists_eq_left', exists_eq_left, true_and, and_true, ex_gD, ex_tN, fLen_gD, fLen_tN, fLen_l, len100, Int.toNat_natCast, Nat.reduceLeDiff, isT_ii, isT_ib, isT_tt, isT_ss, is_integer_eq, is_in_eq, is_list_eq, is_list_tN, is_list_gD, if_true, eq_self, Bool.false_eq_true, if_false, ge1, ge2, one_ne, two_ne, true_implies, unD_append, ex_pair, ex_trip])
    exact fun _ => trivial
  · have e : js.filter (fun S => decide ((l.length : Int) < (S.length : Int))) = [] := List.filter_eq_nil_iff.mpr fun S hS => by
      have := few_le x.o x.rr (hj S hS).2
      simp
      omega
    rw [e]
    show fNe (.l (nis [])) (.l []) _
    rw [fNe_nil]
    (try simp only [dSeq, dNext, dDrop, dAsg, dAsgG, dRet, dIfS, dPar, dVar, dC, dU, dOp, dTst, dAnd, dOr, dNot, dAndV, dNotV, dChain, dIf, dNil, dCons, dStar, dTup, dLst, dCall, dItL, dItT, dRng1, dRng2, dEnum, gdName, gdTup2, gdTup3, dYes, wipeR, dAppend, dExtend, dPopA, dAugL, dCut, dIsi, dLc_eq, dLc2_eq, dFor, dWhile, fAdd, fSub, fLt, fLe, fGt, fGe, fI2_eq, fNeg_eq, fTuple_nis, fTuple_l, fList_l, fList_tN, fCat_eq, unD_nil, unD_d, startR, List.map_cons, List.map_nil, List.length_cons, List.length_nil, List.replicate, List.cons_append, List.nil_append, Nat.zero_add, Nat.reduceAdd, Nat.reduceSub, List.append_nil, List.getElem?_cons_zero, List.getElem?_cons_succ, List.set_cons_zero, List.set_cons_succ, Option.some.injEq, Prod.mk.injEq, Option.map_some, Option.map_none, W.d.injEq, W.l.injEq, PyData.tuple.injEq, PyData.int.injEq, PyData.bool.injEq, PyData.str.injEq, reduceCtorEq, retOk_d, retOk_1, retOk_2, asgOk_d, asgOk_2, and_assoc, exists_and_left, exists_eq_left', exists_eq_left, true_and, and_true, ex_gD, ex_tN, fLen_gD, fLen_tN, fLen_l, len100, Int.toNat_natCast, Nat.reduceLeDiff, isT_ii, isT_ib, isT_tt, isT_ss, is_integer_eq, is_in_eq, is_list_eq, is_list_tN, is_list_gD, if_true, eq_self, Bool.false_eq_true, if_false, ge1, ge2, one_ne, two_ne, true_implies, unD_append, ex_pair, ex_trip, decide_true, Bool.not_true])
    exact h
theorem l_13 (x : Cx2 n g l m) (h : E.rt (.d (.bool true))) : sl_13 E [none, none, some (W.d (gD n g), true), some (W.d (tN l), true), some (W.d (nI m), true), some (W.d (tI (gns n g l)), true), a, b, c, none, none] := by
  (try simp only [dSeq, dNext, dDrop, dAsg, dAsgG, dRet, dIfS, dPar, dVar, dC, dU, dOp, dTst, dAnd, dOr, dNot, dAndV, dNotV, dChain, dIf, dNil, dCons, dStar, dTup, dLst, dCall, dItL, dItT, dRng1, dRng2, dEnum, gdName, gdTup2, gdTup3, dYes, wipeR, dAppend, dExtend, dPopA, dAugL, dCut, dIsi, dLc_eq, dLc2_eq, dFor, dWhile, fAdd, fSub, fLt, fLe, fGt, fGe, fI2_eq, fNeg_eq, fTuple_nis, fTuple_l, fList_l, fList_tN, fCat_eq, unD_nil, unD_d, startR, List.map_cons, List.map_nil, List.length_cons, List.length_nil, List.replicate, List.cons_append, List.nil_append, Nat.zero_add, Nat.reduceAdd, Nat.reduceSub, List.append_nil, List.getElem?_cons_zero, List.getElem?_cons_succ, List.set_cons_zero, List.set_cons_succ, Option.some.injEq, Prod.mk.injEq, Option.map_some, Option.map_none, W.d.injEq, W.l.injEq, PyData.tuple.injEq, PyData.int.injEq, PyData.bool.injEq, PyData.str.injEq, reduceCtorEq, retOk_d, retOk_1, retOk_2, asgOk_d, asgOk_2, and_assoc, exists_and_left, exists_eq_left', exists_eq_left, true_and, and_true, ex_gD, ex_tN, fLen_gD, fLen_tN, fLen_l, len100, Int.toNat_natCast, Nat.reduceLeDiff, isT_ii, isT_ib, isT_tt, isT_ss, is_integer_eq, is_in_eq, is_list_eq, is_list_tN, is_list_gD, if_true, eq_self, Bool.false_eq_true, if_false, ge1, ge2, one_ne, two_ne, true_implies, unD_append, ex_pair, ex_trip, sl_13])
  refine c_last_web x.o ?_
  (try simp only [dSeq, dNext, dDrop, dAsg, dAsgG, dRet, dIfS, dPar, dVar, dC, dU, dOp, dTst, dAnd, dOr, dNot, dAndV, dNotV, dChain, dIf, dNil, dCons, dStar, dTup, dLst, dCall, dItL, dItT, dRng1, dRng2, dEnum, gdName, gdTup2, gdTup3, dYes, wipeR, dAppend, dExtend, dPopA, dAugL, dCut, dIsi, dLc_eq, dLc2_eq, dFor, dWhile, fAdd, fSub, fLt, fLe, fGt, fGe, fI2_eq, fNeg_eq, fTuple_nis, fTuple_l, fList_l, fList_tN, fCat_eq, unD_nil, unD_d, startR, List.map_cons, List.map_nil, List.length_cons, List.length_nil, List.replicate, List.cons_append, List.nil_append, Nat.zero_add, Nat.reduceAdd, Nat.reduceSub, List.append_nil, List.getElem?_cons_zero, List.getElem?_cons_succ, List.set_cons_zero, List.set_cons_succ, Option.some.injEq, Prod.mk.injEq, Option.map_some, Option.map_none, W.d.injEq, W.l.injEq, PyData.tuple.injEq, PyData.int.injEq, PyData.bool.injEq, PyData.str.injEq, reduceCtorEq, retOk_d, retOk_1, retOk_2, asgOk_d, asgOk_2, and_assoc, exists_and_left, exists_eq_left', exists_eq_left, true_and, and_true, ex_gD, ex_tN, fLen_gD, fLen_tN, fLen_l, len100, Int.toNat_natCast, Nat.reduceLeDiff, isT_ii, isT_ib, isT_tt, isT_ss, is_integer_eq, is_in_eq, is_list_eq, is_list_tN, is_list_gD, if_true, eq_self, Bool.false_eq_true, if_false, ge1, ge2, one_ne, two_ne, true_implies, unD_append, ex_pair, ex_trip])
  refine ⟨n, restG n g, rfl, x.o.rest, fun l' hl => ?_⟩
  have e := gr_rest_nil x.o hl
  subst e
  refine ⟨(sh_tN []).ok, shaped_tnil, ?_⟩
  have e : PyData.eqv (dat (.d (tN []))) (dat (.d (.tuple []))) = true := by
    show PyData.eqv (tN []) (tN []) = true
    rw [eqv_tN]
    rfl
  rw [e]
  (try simp only [dSeq, dNext, dDrop, dAsg, dAsgG, dRet, dIfS, dPar, dVar, dC, dU, dOp, dTst, dAnd, dOr, dNot, dAndV, dNotV, dChain, dIf, dNil, dCons, dStar, dTup, dLst, dCall, dItL, dItT, dRng1, dRng2, dEnum, gdName, gdTup2, gdTup3, dYes, wipeR, dAppend, dExtend, dPopA, dAugL, dCut, dIsi, dLc_eq, dLc2_eq, dFor, dWhile, fAdd, fSub, fLt, fLe, fGt, fGe, fI2_eq, fNeg_eq, fTuple_nis, fTuple_l, fList_l, fList_tN, fCat_eq, unD_nil, unD_d, startR, List.map_cons, List.map_nil, List.length_cons, List.length_nil, List.replicate, List.cons_append, List.nil_append, Nat.zero_add, Nat.reduceAdd, Nat.reduceSub, List.append_nil, List.getElem?_cons_zero, List.getElem?_cons_succ, List.set_cons_zero, List.set_cons_succ, Option.some.injEq, Prod.mk.injEq, Option.map_some, Option.map_none, W.d.injEq, W.l.injEq, PyData.tuple.injEq, PyData.int.injEq, PyData.bool.injEq, PyData.str.injEq, reduceCtorEq, retOk_d, retOk_1, retOk_2, asgOk_d, asgOk_2, and_assoc, exists_and_left, exists_eq_left', exists_eq_left, true_and, and_true, ex_gD, ex_tN, fLen_gD, fLen_tN, fLen_l, len100, Int.toNat_natCast, Nat.reduceLeDiff, isT_ii, isT_ib, isT_tt, isT_ss, is_integer_eq, is_in_eq, is_list_eq, is_list_tN, is_list_gD, if_true, eq_self, Bool.false_eq_true, if_false, ge1, ge2, one_ne, two_ne, true_implies, unD_append, ex_pair, ex_trip])
  exact h
theorem sem_law (o : Ok n g) (h : E.rt (.d (.bool true))) : t_law E [none, none, some (W.d (gD n g), true), none, none, none, none, none, none, none, none] :=
  l_0 o fun _ _ x => l_1 x (l_2 x (l_3 x (l_4 x (l_5 x (l_6 x (l_7 x (l_8 x (l_9 x fun _ _ _ => l_10 x (l_11 x fun _ => l_12 x (l_13 x h))))))))))
end
end Wk

/-! part DrA -/
set_option Elab.async false
set_option linter.all false
set_option maxRecDepth 100000
set_option maxHeartbeats 4000000
namespace Wk
open PySem PySem.Spec PyProof.Rows L2 Dw Gg Ik
variable {T : List NdefX.NTab} {K : PySem.W.Frag} {P : Program} {w : World} {mg : Str → Option Value} {base : Heap} {f : Addr} {fd : FuncData}
structure Rul (mg : Str → Option Value) (K : PySem.W.Frag) (a : Addr) : Prop where
  m : mg "RULES" = some (.ref a)
  d : ∀ H, Dp K H (.ref a) rulesD
theorem sc_is_integer : FnScope ["value"] ["value"] (defScope (top 1)) := ⟨rfl, rfl, rfl, by decide +kernel, rfl, by decide +kernel, by decide +kernel⟩
theorem ok_is_integer (TX : Txt mg) (F : FunD K "is_integer" "is_integer" (defArgs (top 1)) (defBody (top 1)) (defScope (top 1)) [] [] f fd) (hm : mg "is_integer" = some (.ref f)) 
    (sem : ∀ ws R, sp_is_integer ws R → t_is_integer { nx := fun _ => R (.d .none), rt := R } (startR ["value"] ws)) (hl : ∀ ws R, sp_is_integer ws R → ws.length = 1) : Cal P w K mg base 1 "is_integer" ["value"] (toSp T K sp_is_integer) :=
  d_fn (t := t_is_integer) F hm sc_is_integer (fun _ _ _ _ _ _ us hl => match us, hl with | [_], _ => rfl) hl (fun cdv A outer s H E hr =>
      (s_one (s_ret (x_and (x_isi TX.isinstance TX.int_ (x_var 0)) (x_one (x_not (x_isi TX.isinstance TX.bool_ (x_var 0)))))))) sem
theorem sc_is_list : FnScope ["value", "least", "most"] ["value", "least", "most"] (defScope (top 3)) := ⟨rfl, rfl, rfl, by decide +kernel, rfl, by decide +kernel, by decide +kernel⟩
theorem ok_is_list (TX : Txt mg) (F : FunD K "is_list" "is_list" (defArgs (top 3)) (defBody (top 3)) (defScope (top 3)) [] [] f fd) (hm : mg "is_list" = some (.ref f)) 
    (sem : ∀ ws R, sp_is_list ws R → t_is_list { nx := fun _ => R (.d .none), rt := R } (startR ["value", "least", "most"] ws)) (hl : ∀ ws R, sp_is_list ws R → ws.length = 3) : Cal P w K mg base 1 "is_list" ["value", "least", "most"] (toSp T K sp_is_list) :=
  d_fn (t := t_is_list) F hm sc_is_list (fun _ _ _ _ _ _ us hl => match us, hl with | [_, _, _], _ => rfl) hl (fun cdv A outer s H E hr =>
      (s_one (s_ret (x_and (x_isi TX.isinstance TX.tuple_ (x_var 0)) (x_one (x_chain o_le o_le op_le op_le (x_var 1) (x_cb u_len call_len_seq TX.len_ (x_var 0)) (x_var 2))))))) sem
theorem sc_pairs_in : FnScope ["web", "found", "one", "other"] ["web"] (defScope (top 18)) := ⟨rfl, rfl, rfl, by decide +kernel, rfl, by decide +kernel, by decide +kernel⟩
theorem ok_pairs_in (TX : Txt mg) (F : FunD K "pairs_in" "pairs_in" (defArgs (top 18)) (defBody (top 18)) (defScope (top 18)) [] [] f fd) (hm : mg "pairs_in" = some (.ref f)) 
    (sem : ∀ ws R, sp_pairs_in ws R → t_pairs_in { nx := fun _ => R (.d .none), rt := R } (startR ["web", "found", "one", "other"] ws)) (hl : ∀ ws R, sp_pairs_in ws R → ws.length = 1) : Cal P w K mg base 1 "pairs_in" ["web"] (toSp T K sp_pairs_in) :=
  d_fn (t := t_pairs_in) F hm sc_pairs_in (fun _ _ _ _ _ _ us hl => match us, hl with | [_], _ => rfl) hl (fun cdv A outer s H E hr =>
      (s_cons (s_set 1 sc_pairs_in.nd (x_lst a_nil))
      (s_cons (s_for (g_name 2) (i_rng1 TX.range_ (x_cb u_len call_len_seq TX.len_ (x_var 0))) (pg_name (i := 2) sc_pairs_in.nd rfl (by first | exact .inl rfl | exact .inr rfl)) (s_one (s_for (g_name 3) (i_tup (x_ix o_ixT ix_tup (x_var 0) (x_var 2))) (pg_name (i := 3) sc_pairs_in.nd rfl (by first | exact .inl rfl | exact .inr rfl)) (s_one (s_if (b_cmp o_lt op_lt (x_var 2) (x_var 3)) (s_one (s_append (i := 1) (ps_expr (pe_bm PySem.F.plainAttrs_list PySem.F.slot_list_append PySem.F.type_list_append mt_append (pv 1) (pa_cons (x_tup (a_cons (x_var 2) (a_cons (x_var 3) a_nil))) pa_nil))))) s_nil)))))
      (s_one (s_ret (x_var 1)))))) sem
theorem sc_group_in : FnScope ["web", "person", "found", "last", "here", "other"] ["web", "person"] (defScope (top 21)) := ⟨rfl, rfl, rfl, by decide +kernel, rfl, by decide +kernel, by decide +kernel⟩
theorem ok_group_in (TX : Txt mg) (F : FunD K "group_in" "group_in" (defArgs (top 21)) (defBody (top 21)) (defScope (top 21)) [] [] f fd) (hm : mg "group_in" = some (.ref f)) 
    (sem : ∀ ws R, sp_group_in ws R → t_group_in { nx := fun _ => R (.d .none), rt := R } (startR ["web", "person", "found", "last", "here", "other"] ws)) (hl : ∀ ws R, sp_group_in ws R → ws.length = 2) : Cal P w K mg base 1 "group_in" ["web", "person"] (toSp T K sp_group_in) :=
  d_fn (t := t_group_in) F hm sc_group_in (fun _ _ _ _ _ _ us hl => match us, hl with | [_, _], _ => rfl) hl (fun cdv A outer s H E hr =>
      (s_cons (s_par (i := 2) (j := 3) (ps_par rfl sc_group_in.nd rfl rfl (by decide) rfl rfl (pa_cons (x_lst (a_cons (x_var 1) a_nil)) (pa_cons (x_lst (a_cons (x_var 1) a_nil)) pa_nil)) rfl))
      (s_cons (s_while (b_cmp o_ne (op_neD hr.units) (x_var 3) (x_lst a_nil)) (s_cons (s_pop (i := 4) (j := 3) (ps_set (i := 4) sc_group_in.nd rfl (by first | exact .inl rfl | exact .inr rfl) (pe_bm0 PySem.F.plainAttrs_list PySem.F.slot_list_pop PySem.F.type_list_pop mt_pop (pv 3))))
      (s_one (s_for (g_name 5) (i_tup (x_ix o_ixT ix_tup (x_var 0) (x_var 4))) (pg_name (i := 5) sc_group_in.nd rfl (by first | exact .inl rfl | exact .inr rfl)) (s_one (s_if (b_cmp (o_in true) op_notIn_seq (x_var 5) (x_var 2)) (s_cons (s_append (i := 2) (ps_expr (pe_bm PySem.F.plainAttrs_list PySem.F.slot_list_append PySem.F.type_list_append mt_append (pv 2) (pa_cons (x_var 5) pa_nil))))
      (s_one (s_append (i := 3) (ps_expr (pe_bm PySem.F.plainAttrs_list PySem.F.slot_list_append PySem.F.type_list_append mt_append (pv 3) (pa_cons (x_var 5) pa_nil)))))) s_nil))))))
      (s_one (s_ret (x_ct u_tuple call_tuple_of TX.tuple_ (x_cb u_sorted (cr_sortD hr.units) TX.sorted_ (x_var 2)))))))) sem
theorem sc_is_table : FnScope ["web", "people", "one", "other"] ["web", "people"] (defScope (top 23)) := ⟨rfl, rfl, rfl, by decide +kernel, rfl, by decide +kernel, by decide +kernel⟩
theorem ok_is_table (TX : Txt mg) (F : FunD K "is_table" "is_table" (defArgs (top 23)) (defBody (top 23)) (defScope (top 23)) [] [] f fd) (hm : mg "is_table" = some (.ref f)) 
    (sem : ∀ ws R, sp_is_table ws R → t_is_table { nx := fun _ => R (.d .none), rt := R } (startR ["web", "people", "one", "other"] ws)) (hl : ∀ ws R, sp_is_table ws R → ws.length = 2) : Cal P w K mg base 1 "is_table" ["web", "people"] (toSp T K sp_is_table) :=
  d_fn (t := t_is_table) F hm sc_is_table (fun _ _ _ _ _ _ us hl => match us, hl with | [_, _], _ => rfl) hl (fun cdv A outer s H E hr =>
      (s_one (s_ret (x_cb u_all (cr_all rfl) TX.all_ (x_lc2 (own := [(PySem.Str.ofString "one", 2), (PySem.Str.ofString "other", 3)]) (vs1 := [3]) (g_name 2) (gw_name (by decide : 2 ∈ [2, 3])) (g_name 3) (gw_name (by decide : 3 ∈ [3])) sc_is_table.nd (i_tup (x_var 1)) (blkOk_by (own := [(PySem.Str.ofString "one", 2), (PySem.Str.ofString "other", 3)]) (by kernel_rfl)) (by decide) (fun _ _ _ _ _ => (pg_name (i := 2) sc_is_table.nd rfl (by first | exact .inl rfl | exact .inr rfl))) (fun _ _ _ _ _ => (i_tup (x_var 1))) (fun _ _ _ _ _ => (pg_name (i := 3) sc_is_table.nd rfl (by first | exact .inl rfl | exact .inr rfl))) (fun _ _ _ _ _ => (pts_one (b_cmp o_lt op_lt (x_var 2) (x_var 3)))) (fun _ _ _ _ _ => (x_cmp (o_in false) op_in_seq (x_var 3) (x_ix o_ixT ix_tup (x_var 0) (x_var 2))))))))) sem
theorem sc_choices : FnScope ["many", "found", "person", "row"] ["many"] (defScope (top 41)) := ⟨rfl, rfl, rfl, by decide +kernel, rfl, by decide +kernel, by decide +kernel⟩
theorem ok_choices (TX : Txt mg) (F : FunD K "choices" "choices" (defArgs (top 41)) (defBody (top 41)) (defScope (top 41)) [] [] f fd) (hm : mg "choices" = some (.ref f)) 
    (sem : ∀ ws R, sp_choices ws R → t_choices { nx := fun _ => R (.d .none), rt := R } (startR ["many", "found", "person", "row"] ws)) (hl : ∀ ws R, sp_choices ws R → ws.length = 1) : Cal P w K mg base 1 "choices" ["many"] (toSp T K sp_choices) :=
  d_fn (t := t_choices) F hm sc_choices (fun _ _ _ _ _ _ us hl => match us, hl with | [_], _ => rfl) hl (fun cdv A outer s H E hr =>
      (s_cons (s_set 1 sc_choices.nd (x_lst (a_cons (x_tup a_nil) a_nil)))
      (s_cons (s_for (g_name 2) (i_rng1 TX.range_ (x_var 0)) (pg_name (i := 2) sc_choices.nd rfl (by first | exact .inl rfl | exact .inr rfl)) (s_one (s_extend (i := 1) (ps_expr (pe_bm PySem.F.plainAttrs_list PySem.F.slot_list_extend PySem.F.type_list_extend mt_extend (pv 1) (pa_cons (x_lc (own := [(PySem.Str.ofString "row", 3)]) (g_name 3) (gw_name (by decide : 3 ∈ [3])) sc_choices.nd (i_list (x_var 1)) (blkOk_by (own := [(PySem.Str.ofString "row", 3)]) (by kernel_rfl)) (fun _ _ _ _ _ => (pg_name (i := 3) sc_choices.nd rfl (by first | exact .inl rfl | exact .inr rfl))) (fun _ _ _ _ _ => t_nil) (fun _ _ _ _ _ => (x_tup (a_star (x_var 3) (a_cons (x_var 2) a_nil))))) pa_nil))))))
      (s_one (s_ret (x_var 1)))))) sem
theorem sc_chain_ends : FnScope ["web", "called", "person", "found", "last", "here", "other"] ["web", "called", "person"] (defScope (top 42)) := ⟨rfl, rfl, rfl, by decide +kernel, rfl, by decide +kernel, by decide +kernel⟩
theorem ok_chain_ends (TX : Txt mg) (F : FunD K "chain_ends" "chain_ends" (defArgs (top 42)) (defBody (top 42)) (defScope (top 42)) [] [] f fd) (hm : mg "chain_ends" = some (.ref f)) 
    (sem : ∀ ws R, sp_chain_ends ws R → t_chain_ends { nx := fun _ => R (.d .none), rt := R } (startR ["web", "called", "person", "found", "last", "here", "other"] ws)) (hl : ∀ ws R, sp_chain_ends ws R → ws.length = 3) : Cal P w K mg base 1 "chain_ends" ["web", "called", "person"] (toSp T K sp_chain_ends) :=
  d_fn (t := t_chain_ends) F hm sc_chain_ends (fun _ _ _ _ _ _ us hl => match us, hl with | [_, _, _], _ => rfl) hl (fun cdv A outer s H E hr =>
      (s_cons (s_par (i := 3) (j := 4) (ps_par rfl sc_chain_ends.nd rfl rfl (by decide) rfl rfl (pa_cons (x_lst (a_cons (x_var 2) a_nil)) (pa_cons (x_lst (a_cons (x_var 2) a_nil)) pa_nil)) rfl))
      (s_cons (s_while (b_cmp o_ne (op_neD hr.units) (x_var 4) (x_lst a_nil)) (s_cons (s_pop (i := 5) (j := 4) (ps_set (i := 5) sc_chain_ends.nd rfl (by first | exact .inl rfl | exact .inr rfl) (pe_bm0 PySem.F.plainAttrs_list PySem.F.slot_list_pop PySem.F.type_list_pop mt_pop (pv 4))))
      (s_one (s_for (g_name 6) (i_tup (x_ix o_ixT ix_tup (x_var 0) (x_var 5))) (pg_name (i := 6) sc_chain_ends.nd rfl (by first | exact .inl rfl | exact .inr rfl)) (s_one (s_if (b_cmp (o_in true) op_notIn_seq (x_var 6) (x_var 3)) (s_cons (s_append (i := 3) (ps_expr (pe_bm PySem.F.plainAttrs_list PySem.F.slot_list_append PySem.F.type_list_append mt_append (pv 3) (pa_cons (x_var 6) pa_nil))))
      (s_one (s_if (b_cmp (o_in false) op_in_seq (x_var 6) (x_var 1)) (s_one (s_append (i := 4) (ps_expr (pe_bm PySem.F.plainAttrs_list PySem.F.slot_list_append PySem.F.type_list_append mt_append (pv 4) (pa_cons (x_var 6) pa_nil))))) s_nil))) s_nil))))))
      (s_one (s_ret (x_var 3)))))) sem
theorem sc_need_rule : FnScope ["rule"] ["rule"] (defScope (top 55)) := ⟨rfl, rfl, rfl, by decide +kernel, rfl, by decide +kernel, by decide +kernel⟩
theorem ok_need_rule (TX : Txt mg) (F : FunD K "need_rule" "need_rule" (defArgs (top 55)) (defBody (top 55)) (defScope (top 55)) [] [] f fd) (hm : mg "need_rule" = some (.ref f)) {aR : Addr} (hR : Rul mg K aR) 
    (sem : ∀ ws R, sp_need_rule ws R → t_need_rule { nx := fun _ => R (.d .none), rt := R } (startR ["rule"] ws)) (hl : ∀ ws R, sp_need_rule ws R → ws.length = 1) : Cal P w K mg base 1 "need_rule" ["rule"] (toSp T K sp_need_rule) :=
  d_fn (t := t_need_rule) F hm sc_need_rule (fun _ _ _ _ _ _ us hl => match us, hl with | [_], _ => rfl) hl (fun cdv A outer s H E hr =>
      (s_one (s_if (PW.pt (b_or (b_not (b_val (x_isi TX.isinstance TX.str_ (x_var 0)))) (b_or1 (b_cmp (o_in true) op_notIn_seq (x_var 0) (x_gtup hR.m hR.d rulesD_imm))))) (s_one s_never) s_nil))) sem
theorem sc_is_in : FnScope ["value", "least", "most"] ["value", "least", "most"] (defScope (top 2)) := ⟨rfl, rfl, rfl, by decide +kernel, rfl, by decide +kernel, by decide +kernel⟩
theorem ok_is_in (TX : Txt mg) (F : FunD K "is_in" "is_in" (defArgs (top 2)) (defBody (top 2)) (defScope (top 2)) [] [] f fd) (hm : mg "is_in" = some (.ref f)) (G_is_integer : Cal P w K mg base 1 "is_integer" ["value"] (toSp T K sp_is_integer))
    (sem : ∀ ws R, sp_is_in ws R → t_is_in { nx := fun _ => R (.d .none), rt := R } (startR ["value", "least", "most"] ws)) (hl : ∀ ws R, sp_is_in ws R → ws.length = 3) : Cal P w K mg base 2 "is_in" ["value", "least", "most"] (toSp T K sp_is_in) :=
  d_fn (t := t_is_in) F hm sc_is_in (fun _ _ _ _ _ _ us hl => match us, hl with | [_, _, _], _ => rfl) hl (fun cdv A outer s H E hr =>
      (s_one (s_ret (x_and (x_call G_is_integer hr (a_cons (x_var 0) a_nil)) (x_one (x_chain o_le o_le op_le op_le (x_var 1) (x_var 0) (x_var 2))))))) sem
theorem sc_groups_in : FnScope ["web", "person"] ["web"] (defScope (top 22)) := ⟨rfl, rfl, rfl, by decide +kernel, rfl, by decide +kernel, by decide +kernel⟩
theorem ok_groups_in (TX : Txt mg) (F : FunD K "groups_in" "groups_in" (defArgs (top 22)) (defBody (top 22)) (defScope (top 22)) [] [] f fd) (hm : mg "groups_in" = some (.ref f)) (G_group_in : Cal P w K mg base 1 "group_in" ["web", "person"] (toSp T K sp_group_in))
    (sem : ∀ ws R, sp_groups_in ws R → t_groups_in { nx := fun _ => R (.d .none), rt := R } (startR ["web", "person"] ws)) (hl : ∀ ws R, sp_groups_in ws R → ws.length = 1) : Cal P w K mg base 2 "groups_in" ["web"] (toSp T K sp_groups_in) :=
  d_fn (t := t_groups_in) F hm sc_groups_in (fun _ _ _ _ _ _ us hl => match us, hl with | [_], _ => rfl) hl (fun cdv A outer s H E hr =>
      (s_one (s_ret (x_sortSetT hr.units TX.sorted_ TX.set_ (x_lc (own := [(PySem.Str.ofString "person", 1)]) (g_name 1) (gw_name (by decide : 1 ∈ [1])) sc_groups_in.nd (i_rng1 TX.range_ (x_cb u_len call_len_seq TX.len_ (x_var 0))) (blkOk_by (own := [(PySem.Str.ofString "person", 1)]) (by kernel_rfl)) (fun _ _ _ _ _ => (pg_name (i := 1) sc_groups_in.nd rfl (by first | exact .inl rfl | exact .inr rfl))) (fun _ _ _ _ _ => t_nil) (fun _ _ _ _ _ => (x_call G_group_in hr (a_cons (x_var 0) (a_cons (x_var 1) a_nil))))))))) sem
theorem sc_call_in : FnScope ["web", "person", "some", "one", "other"] ["web", "person"] (defScope (top 29)) := ⟨rfl, rfl, rfl, by decide +kernel, rfl, by decide +kernel, by decide +kernel⟩
theorem ok_call_in (TX : Txt mg) (F : FunD K "call_in" "call_in" (defArgs (top 29)) (defBody (top 29)) (defScope (top 29)) [] [] f fd) (hm : mg "call_in" = some (.ref f)) (G_pairs_in : Cal P w K mg base 1 "pairs_in" ["web"] (toSp T K sp_pairs_in)) (G_web_by : Cal P w K mg base 1 "web_by" ["people", "some"] (toSp T K sp_web_by))
    (sem : ∀ ws R, sp_call_in ws R → t_call_in { nx := fun _ => R (.d .none), rt := R } (startR ["web", "person", "some", "one", "other"] ws)) (hl : ∀ ws R, sp_call_in ws R → ws.length = 2) : Cal P w K mg base 2 "call_in" ["web", "person"] (toSp T K sp_call_in) :=
  d_fn (t := t_call_in) F hm sc_call_in (fun _ _ _ _ _ _ us hl => match us, hl with | [_, _], _ => rfl) hl (fun cdv A outer s H E hr =>
      (s_cons (s_setLc2 (i := 2) (own := [(PySem.Str.ofString "one", 3), (PySem.Str.ofString "other", 4)]) (vs1 := [4]) (g_name 3) (gw_name (by decide : 3 ∈ [3, 4])) (g_name 4) (gw_name (by decide : 4 ∈ [4])) sc_call_in.nd (sw_true rfl rfl rfl (by decide +kernel)) (i_tup (x_ix o_ixT ix_tup (x_var 0) (x_var 1))) (blkOk_by (own := [(PySem.Str.ofString "one", 3), (PySem.Str.ofString "other", 4)]) (by kernel_rfl)) (by decide) (fun _ _ _ _ _ => (pg_name (i := 3) sc_call_in.nd rfl (by first | exact .inl rfl | exact .inr rfl))) (fun _ _ _ _ _ => (i_tup (x_ix o_ixT ix_tup (x_var 0) (x_var 1)))) (fun _ _ _ _ _ => (pg_name (i := 4) sc_call_in.nd rfl (by first | exact .inl rfl | exact .inr rfl))) (fun _ _ _ _ _ => (pts_one (b_cmp o_lt op_lt (x_var 3) (x_var 4)))) (fun _ _ _ _ _ => (x_tup (a_cons (x_var 3) (a_cons (x_var 4) a_nil)))))
      (s_one (s_ret (x_call G_web_by hr (a_cons (x_cb u_len call_len_seq TX.len_ (x_var 0)) (a_cons (x_op o_cat op_cat (x_call G_pairs_in hr (a_cons (x_var 0) a_nil)) (x_var 2)) a_nil))))))) sem
theorem sc_movers_in : FnScope ["web", "found", "person"] ["web"] (defScope (top 31)) := ⟨rfl, rfl, rfl, by decide +kernel, rfl, by decide +kernel, by decide +kernel⟩
theorem ok_movers_in (TX : Txt mg) (F : FunD K "movers_in" "movers_in" (defArgs (top 31)) (defBody (top 31)) (defScope (top 31)) [] [] f fd) (hm : mg "movers_in" = some (.ref f)) (G_is_table : Cal P w K mg base 1 "is_table" ["web", "people"] (toSp T K sp_is_table))
    (sem : ∀ ws R, sp_movers_in ws R → t_movers_in { nx := fun _ => R (.d .none), rt := R } (startR ["web", "found", "person"] ws)) (hl : ∀ ws R, sp_movers_in ws R → ws.length = 1) : Cal P w K mg base 2 "movers_in" ["web"] (toSp T K sp_movers_in) :=
  d_fn (t := t_movers_in) F hm sc_movers_in (fun _ _ _ _ _ _ us hl => match us, hl with | [_], _ => rfl) hl (fun cdv A outer s H E hr =>
      (s_cons (s_set 1 sc_movers_in.nd (x_lst a_nil))
      (s_cons (s_for (g_name 2) (i_rng1 TX.range_ (x_cb u_len call_len_seq TX.len_ (x_var 0))) (pg_name (i := 2) sc_movers_in.nd rfl (by first | exact .inl rfl | exact .inr rfl)) (s_one (s_if (b_not (b_val (x_call G_is_table hr (a_cons (x_var 0) (a_cons (x_ix o_ixT ix_tup (x_var 0) (x_var 2)) a_nil))))) (s_one (s_append (i := 1) (ps_expr (pe_bm PySem.F.plainAttrs_list PySem.F.slot_list_append PySem.F.type_list_append mt_append (pv 1) (pa_cons (x_var 2) pa_nil))))) s_nil)))
      (s_one (s_ret (x_var 1)))))) sem
theorem sc_told_in : FnScope ["web", "called", "found", "person", "other"] ["web", "called"] (defScope (top 43)) := ⟨rfl, rfl, rfl, by decide +kernel, rfl, by decide +kernel, by decide +kernel⟩
theorem ok_told_in (TX : Txt mg) (F : FunD K "told_in" "told_in" (defArgs (top 43)) (defBody (top 43)) (defScope (top 43)) [] [] f fd) (hm : mg "told_in" = some (.ref f)) (G_chain_ends : Cal P w K mg base 1 "chain_ends" ["web", "called", "person"] (toSp T K sp_chain_ends)) (G_web_by : Cal P w K mg base 1 "web_by" ["people", "some"] (toSp T K sp_web_by))
    (sem : ∀ ws R, sp_told_in ws R → t_told_in { nx := fun _ => R (.d .none), rt := R } (startR ["web", "called", "found", "person", "other"] ws)) (hl : ∀ ws R, sp_told_in ws R → ws.length = 2) : Cal P w K mg base 2 "told_in" ["web", "called"] (toSp T K sp_told_in) :=
  d_fn (t := t_told_in) F hm sc_told_in (fun _ _ _ _ _ _ us hl => match us, hl with | [_, _], _ => rfl) hl (fun cdv A outer s H E hr =>
      (s_cons (s_set 2 sc_told_in.nd (x_lst a_nil))
      (s_cons (s_for (g_name 3) (i_rng1 TX.range_ (x_cb u_len call_len_seq TX.len_ (x_var 0))) (pg_name (i := 3) sc_told_in.nd rfl (by first | exact .inl rfl | exact .inr rfl)) (s_one (s_extend (i := 2) (ps_expr (pe_bm PySem.F.plainAttrs_list PySem.F.slot_list_extend PySem.F.type_list_extend mt_extend (pv 2) (pa_cons (x_lc (own := [(PySem.Str.ofString "other", 4)]) (g_name 4) (gw_name (by decide : 4 ∈ [4])) sc_told_in.nd (i_list (x_call G_chain_ends hr (a_cons (x_var 0) (a_cons (x_var 1) (a_cons (x_var 3) a_nil))))) (blkOk_by (own := [(PySem.Str.ofString "other", 4)]) (by kernel_rfl)) (fun _ _ _ _ _ => (pg_name (i := 4) sc_told_in.nd rfl (by first | exact .inl rfl | exact .inr rfl))) (fun _ _ _ _ _ => (pts_one (b_cmp o_lt op_lt (x_var 3) (x_var 4)))) (fun _ _ _ _ _ => (x_tup (a_cons (x_var 3) (a_cons (x_var 4) a_nil))))) pa_nil))))))
      (s_one (s_ret (x_call G_web_by hr (a_cons (x_cb u_len call_len_seq TX.len_ (x_var 0)) (a_cons (x_var 2) a_nil)))))))) sem
theorem sc_without : FnScope ["web", "person", "pair"] ["web", "person"] (defScope (top 50)) := ⟨rfl, rfl, rfl, by decide +kernel, rfl, by decide +kernel, by decide +kernel⟩
theorem ok_without (TX : Txt mg) (F : FunD K "without" "without" (defArgs (top 50)) (defBody (top 50)) (defScope (top 50)) [] [] f fd) (hm : mg "without" = some (.ref f)) (G_pairs_in : Cal P w K mg base 1 "pairs_in" ["web"] (toSp T K sp_pairs_in)) (G_web_by : Cal P w K mg base 1 "web_by" ["people", "some"] (toSp T K sp_web_by))
    (sem : ∀ ws R, sp_without ws R → t_without { nx := fun _ => R (.d .none), rt := R } (startR ["web", "person", "pair"] ws)) (hl : ∀ ws R, sp_without ws R → ws.length = 2) : Cal P w K mg base 2 "without" ["web", "person"] (toSp T K sp_without) :=
  d_fn (t := t_without) F hm sc_without (fun _ _ _ _ _ _ us hl => match us, hl with | [_, _], _ => rfl) hl (fun cdv A outer s H E hr =>
      (s_one (s_ret (x_call G_web_by hr (a_cons (x_cb u_len call_len_seq TX.len_ (x_var 0)) (a_cons (x_lc (own := [(PySem.Str.ofString "pair", 2)]) (g_name 2) (gw_name (by decide : 2 ∈ [2])) sc_without.nd (i_list (x_call G_pairs_in hr (a_cons (x_var 0) a_nil))) (blkOk_by (own := [(PySem.Str.ofString "pair", 2)]) (by kernel_rfl)) (fun _ _ _ _ _ => (pg_name (i := 2) sc_without.nd rfl (by first | exact .inl rfl | exact .inr rfl))) (fun _ _ _ _ _ => (pts_one (b_cmp (o_in true) op_notIn_seq (x_var 1) (x_var 2)))) (fun _ _ _ _ _ => (x_var 2))) a_nil)))))) sem
theorem sc_need_web : FnScope ["web", "people", "index", "friends", "other"] ["web"] (defScope (top 15)) := ⟨rfl, rfl, rfl, by decide +kernel, rfl, by decide +kernel, by decide +kernel⟩
theorem ok_need_web (TX : Txt mg) (F : FunD K "need_web" "need_web" (defArgs (top 15)) (defBody (top 15)) (defScope (top 15)) [] [] f fd) (hm : mg "need_web" = some (.ref f)) (G_is_list : Cal P w K mg base 1 "is_list" ["value", "least", "most"] (toSp T K sp_is_list)) (G_is_in : Cal P w K mg base 2 "is_in" ["value", "least", "most"] (toSp T K sp_is_in))
    (sem : ∀ ws R, sp_need_web ws R → t_need_web { nx := fun _ => R (.d .none), rt := R } (startR ["web", "people", "index", "friends", "other"] ws)) (hl : ∀ ws R, sp_need_web ws R → ws.length = 1) : Cal P w K mg base 3 "need_web" ["web"] (toSp T K sp_need_web) :=
  d_fn (t := t_need_web) F hm sc_need_web (fun _ _ _ _ _ _ us hl => match us, hl with | [_], _ => rfl) hl (fun cdv A outer s H E hr =>
      (s_cons (s_if (b_not (b_val (x_call G_is_list hr (a_cons (x_var 0) (a_cons x_int (a_cons (x_gint TX.mp) a_nil)))))) (s_one s_never) s_nil)
      (s_cons (s_set 1 sc_need_web.nd (x_cb u_len call_len_seq TX.len_ (x_var 0)))
      (s_cons (s_for (g_tup2 2 3) (i_enum TX.enumerate_ (x_var 0)) (pg_tup rfl (pgs_cons (pg_name (i := 2) sc_need_web.nd rfl (by first | exact .inl rfl | exact .inr rfl)) (pgs_cons (pg_name (i := 3) sc_need_web.nd rfl (by first | exact .inl rfl | exact .inr rfl)) pgs_nil))) (s_cons (s_if (PW.pt (b_or (b_not (b_val (x_call G_is_list hr (a_cons (x_var 3) (a_cons x_int (a_cons (x_op o_sub op_sub (x_var 1) x_int) a_nil)))))) (b_or1 (b_not (b_val (x_cb u_all (cr_all rfl) TX.all_ (x_lc (own := [(PySem.Str.ofString "other", 4)]) (g_name 4) (gw_name (by decide : 4 ∈ [4])) sc_need_web.nd (i_tup (x_var 3)) (blkOk_by (own := [(PySem.Str.ofString "other", 4)]) (by kernel_rfl)) (fun _ _ _ _ _ => (pg_name (i := 4) sc_need_web.nd rfl (by first | exact .inl rfl | exact .inr rfl))) (fun _ _ _ _ _ => t_nil) (fun _ _ _ _ _ => (x_call G_is_in hr (a_cons (x_var 4) (a_cons x_int (a_cons (x_op o_sub op_sub (x_var 1) x_int) a_nil)))))))))))) (s_one s_never) s_nil)
      (s_one (s_if (PW.pt (b_or (b_cmp o_ne (op_neD hr.units) (x_ct u_list call_list_of TX.list_ (x_var 3)) (x_sortSet TX.sorted_ TX.set_ (x_var 3))) (b_or1 (b_cmp (o_in false) op_in_seq (x_var 2) (x_var 3))))) (s_one s_never) s_nil))))
      (s_one (s_for (g_tup2 2 3) (i_enum TX.enumerate_ (x_var 0)) (pg_tup rfl (pgs_cons (pg_name (i := 2) sc_need_web.nd rfl (by first | exact .inl rfl | exact .inr rfl)) (pgs_cons (pg_name (i := 3) sc_need_web.nd rfl (by first | exact .inl rfl | exact .inr rfl)) pgs_nil))) (s_one (s_if (b_val (x_cb u_any (cr_any rfl) TX.any_ (x_lc (own := [(PySem.Str.ofString "other", 4)]) (g_name 4) (gw_name (by decide : 4 ∈ [4])) sc_need_web.nd (i_tup (x_var 3)) (blkOk_by (own := [(PySem.Str.ofString "other", 4)]) (by kernel_rfl)) (fun _ _ _ _ _ => (pg_name (i := 4) sc_need_web.nd rfl (by first | exact .inl rfl | exact .inr rfl))) (fun _ _ _ _ _ => t_nil) (fun _ _ _ _ _ => (x_cmp (o_in true) op_notIn_seq (x_var 2) (x_ix o_ixT ix_tup (x_var 0) (x_var 4))))))) (s_one s_never) s_nil)))))))) sem
end Wk

/-! part DrB -/
set_option Elab.async false
set_option linter.all false
set_option maxRecDepth 100000
set_option maxHeartbeats 4000000
namespace Wk
open PySem PySem.Spec PyProof.Rows L2 Dw Gg Ik
variable {T : List NdefX.NTab} {K : PySem.W.Frag} {P : Program} {w : World} {mg : Str → Option Value} {base : Heap} {f : Addr} {fd : FuncData}

theorem sc_need_person : FnScope ["web", "person"] ["web", "person"] (defScope (top 16)) := ⟨rfl, rfl, rfl, by decide +kernel, rfl, by decide +kernel, by decide +kernel⟩
theorem ok_need_person (TX : Txt mg) (F : FunD K "need_person" "need_person" (defArgs (top 16)) (defBody (top 16)) (defScope (top 16)) [] [] f fd) (hm : mg "need_person" = some (.ref f)) (G_is_in : Cal P w K mg base 2 "is_in" ["value", "least", "most"] (toSp T K sp_is_in))
    (sem : ∀ ws R, sp_need_person ws R → t_need_person { nx := fun _ => R (.d .none), rt := R } (startR ["web", "person"] ws)) (hl : ∀ ws R, sp_need_person ws R → ws.length = 2) : Cal P w K mg base 3 "need_person" ["web", "person"] (toSp T K sp_need_person) :=
  d_fn (t := t_need_person) F hm sc_need_person (fun _ _ _ _ _ _ us hl => match us, hl with | [_, _], _ => rfl) hl (fun cdv A outer s H E hr =>
      (s_one (s_if (b_not (b_val (x_call G_is_in hr (a_cons (x_var 1) (a_cons x_int (a_cons (x_op o_sub op_sub (x_cb u_len call_len_seq TX.len_ (x_var 0)) x_int) a_nil)))))) (s_one s_never) s_nil))) sem
theorem sc_need_people : FnScope ["web", "people", "many", "person"] ["web", "people"] (defScope (top 17)) := ⟨rfl, rfl, rfl, by decide +kernel, rfl, by decide +kernel, by decide +kernel⟩
theorem ok_need_people (TX : Txt mg) (F : FunD K "need_people" "need_people" (defArgs (top 17)) (defBody (top 17)) (defScope (top 17)) [] [] f fd) (hm : mg "need_people" = some (.ref f)) (G_is_list : Cal P w K mg base 1 "is_list" ["value", "least", "most"] (toSp T K sp_is_list)) (G_is_in : Cal P w K mg base 2 "is_in" ["value", "least", "most"] (toSp T K sp_is_in))
    (sem : ∀ ws R, sp_need_people ws R → t_need_people { nx := fun _ => R (.d .none), rt := R } (startR ["web", "people", "many", "person"] ws)) (hl : ∀ ws R, sp_need_people ws R → ws.length = 2) : Cal P w K mg base 3 "need_people" ["web", "people"] (toSp T K sp_need_people) :=
  d_fn (t := t_need_people) F hm sc_need_people (fun _ _ _ _ _ _ us hl => match us, hl with | [_, _], _ => rfl) hl (fun cdv A outer s H E hr =>
      (s_cons (s_set 2 sc_need_people.nd (x_cb u_len call_len_seq TX.len_ (x_var 0)))
      (s_cons (s_if (PW.pt (b_or (b_not (b_val (x_call G_is_list hr (a_cons (x_var 1) (a_cons x_int (a_cons (x_var 2) a_nil)))))) (b_or1 (b_not (b_val (x_cb u_all (cr_all rfl) TX.all_ (x_lc (own := [(PySem.Str.ofString "person", 3)]) (g_name 3) (gw_name (by decide : 3 ∈ [3])) sc_need_people.nd (i_tup (x_var 1)) (blkOk_by (own := [(PySem.Str.ofString "person", 3)]) (by kernel_rfl)) (fun _ _ _ _ _ => (pg_name (i := 3) sc_need_people.nd rfl (by first | exact .inl rfl | exact .inr rfl))) (fun _ _ _ _ _ => t_nil) (fun _ _ _ _ _ => (x_call G_is_in hr (a_cons (x_var 3) (a_cons x_int (a_cons (x_op o_sub op_sub (x_var 2) x_int) a_nil)))))))))))) (s_one s_never) s_nil)
      (s_one (s_if (b_cmp o_ne (op_neD hr.units) (x_ct u_list call_list_of TX.list_ (x_var 1)) (x_sortSet TX.sorted_ TX.set_ (x_var 1))) (s_one s_never) s_nil))))) sem
theorem sc_rest_of : FnScope ["web", "found", "group", "one", "other"] ["web"] (defScope (top 24)) := ⟨rfl, rfl, rfl, by decide +kernel, rfl, by decide +kernel, by decide +kernel⟩
theorem ok_rest_of (TX : Txt mg) (F : FunD K "rest_of" "rest_of" (defArgs (top 24)) (defBody (top 24)) (defScope (top 24)) [] [] f fd) (hm : mg "rest_of" = some (.ref f)) (G_groups_in : Cal P w K mg base 2 "groups_in" ["web"] (toSp T K sp_groups_in)) (G_web_by : Cal P w K mg base 1 "web_by" ["people", "some"] (toSp T K sp_web_by))
    (sem : ∀ ws R, sp_rest_of ws R → t_rest_of { nx := fun _ => R (.d .none), rt := R } (startR ["web", "found", "group", "one", "other"] ws)) (hl : ∀ ws R, sp_rest_of ws R → ws.length = 1) : Cal P w K mg base 3 "rest_of" ["web"] (toSp T K sp_rest_of) :=
  d_fn (t := t_rest_of) F hm sc_rest_of (fun _ _ _ _ _ _ us hl => match us, hl with | [_], _ => rfl) hl (fun cdv A outer s H E hr =>
      (s_cons (s_set 1 sc_rest_of.nd (x_lst a_nil))
      (s_cons (s_for (g_name 2) (i_list (x_call G_groups_in hr (a_cons (x_var 0) a_nil))) (pg_name (i := 2) sc_rest_of.nd rfl (by first | exact .inl rfl | exact .inr rfl)) (s_one (s_for (g_name 3) (i_tup (x_var 2)) (pg_name (i := 3) sc_rest_of.nd rfl (by first | exact .inl rfl | exact .inr rfl)) (s_one (s_extend (i := 1) (ps_expr (pe_bm PySem.F.plainAttrs_list PySem.F.slot_list_extend PySem.F.type_list_extend mt_extend (pv 1) (pa_cons (x_lc (own := [(PySem.Str.ofString "other", 4)]) (g_name 4) (gw_name (by decide : 4 ∈ [4])) sc_rest_of.nd (i_tup (x_var 2)) (blkOk_by (own := [(PySem.Str.ofString "other", 4)]) (by kernel_rfl)) (fun _ _ _ _ _ => (pg_name (i := 4) sc_rest_of.nd rfl (by first | exact .inl rfl | exact .inr rfl))) (fun _ _ _ _ _ => (pts_one (b_cmp o_lt op_lt (x_var 3) (x_var 4)))) (fun _ _ _ _ _ => (x_tup (a_cons (x_var 3) (a_cons (x_var 4) a_nil))))) pa_nil))))))))
      (s_one (s_ret (x_call G_web_by hr (a_cons (x_cb u_len call_len_seq TX.len_ (x_var 0)) (a_cons (x_var 1) a_nil)))))))) sem
theorem sc_need_calls : FnScope ["web", "calls", "index", "person"] ["web", "calls"] (defScope (top 28)) := ⟨rfl, rfl, rfl, by decide +kernel, rfl, by decide +kernel, by decide +kernel⟩
theorem ok_need_calls (TX : Txt mg) (F : FunD K "need_calls" "need_calls" (defArgs (top 28)) (defBody (top 28)) (defScope (top 28)) [] [] f fd) (hm : mg "need_calls" = some (.ref f)) (G_is_list : Cal P w K mg base 1 "is_list" ["value", "least", "most"] (toSp T K sp_is_list)) (G_is_in : Cal P w K mg base 2 "is_in" ["value", "least", "most"] (toSp T K sp_is_in))
    (sem : ∀ ws R, sp_need_calls ws R → t_need_calls { nx := fun _ => R (.d .none), rt := R } (startR ["web", "calls", "index", "person"] ws)) (hl : ∀ ws R, sp_need_calls ws R → ws.length = 2) : Cal P w K mg base 3 "need_calls" ["web", "calls"] (toSp T K sp_need_calls) :=
  d_fn (t := t_need_calls) F hm sc_need_calls (fun _ _ _ _ _ _ us hl => match us, hl with | [_, _], _ => rfl) hl (fun cdv A outer s H E hr =>
      (s_cons (s_if (b_not (b_val (x_call G_is_list hr (a_cons (x_var 1) (a_cons x_int (a_cons (x_gint TX.mc) a_nil)))))) (s_one s_never) s_nil)
      (s_one (s_for (g_tup2 2 3) (i_enum TX.enumerate_ (x_var 1)) (pg_tup rfl (pgs_cons (pg_name (i := 2) sc_need_calls.nd rfl (by first | exact .inl rfl | exact .inr rfl)) (pgs_cons (pg_name (i := 3) sc_need_calls.nd rfl (by first | exact .inl rfl | exact .inr rfl)) pgs_nil))) (s_one (s_if (b_not (b_val (x_call G_is_in hr (a_cons (x_var 3) (a_cons x_int (a_cons (x_op o_sub op_sub (x_cb u_len call_len_seq TX.len_ (x_var 0)) x_int) a_nil)))))) (s_one s_never) s_nil)))))) sem
theorem sc_story_in : FnScope ["web", "calls", "found", "person"] ["web", "calls"] (defScope (top 32)) := ⟨rfl, rfl, rfl, by decide +kernel, rfl, by decide +kernel, by decide +kernel⟩
theorem ok_story_in (TX : Txt mg) (F : FunD K "story_in" "story_in" (defArgs (top 32)) (defBody (top 32)) (defScope (top 32)) [] [] f fd) (hm : mg "story_in" = some (.ref f)) (G_call_in : Cal P w K mg base 2 "call_in" ["web", "person"] (toSp T K sp_call_in))
    (sem : ∀ ws R, sp_story_in ws R → t_story_in { nx := fun _ => R (.d .none), rt := R } (startR ["web", "calls", "found", "person"] ws)) (hl : ∀ ws R, sp_story_in ws R → ws.length = 2) : Cal P w K mg base 3 "story_in" ["web", "calls"] (toSp T K sp_story_in) :=
  d_fn (t := t_story_in) F hm sc_story_in (fun _ _ _ _ _ _ us hl => match us, hl with | [_, _], _ => rfl) hl (fun cdv A outer s H E hr =>
      (s_cons (s_set 2 sc_story_in.nd (x_lst (a_cons (x_var 0) a_nil)))
      (s_cons (s_for (g_name 3) (i_tup (x_var 1)) (pg_name (i := 3) sc_story_in.nd rfl (by first | exact .inl rfl | exact .inr rfl)) (s_one (s_append (i := 2) (ps_expr (pe_bm PySem.F.plainAttrs_list PySem.F.slot_list_append PySem.F.type_list_append mt_append (pv 2) (pa_cons (x_call G_call_in hr (a_cons (x_ix o_ixL ix_list (x_var 2) (x_un u_neg un_neg x_int)) (a_cons (x_var 3) a_nil))) pa_nil))))))
      (s_one (s_ret (x_var 2)))))) sem
theorem sc_cut_in : FnScope ["web", "many", "found", "person"] ["web"] (defScope (top 51)) := ⟨rfl, rfl, rfl, by decide +kernel, rfl, by decide +kernel, by decide +kernel⟩
theorem ok_cut_in (TX : Txt mg) (F : FunD K "cut_in" "cut_in" (defArgs (top 51)) (defBody (top 51)) (defScope (top 51)) [] [] f fd) (hm : mg "cut_in" = some (.ref f)) (G_groups_in : Cal P w K mg base 2 "groups_in" ["web"] (toSp T K sp_groups_in)) (G_without : Cal P w K mg base 2 "without" ["web", "person"] (toSp T K sp_without))
    (sem : ∀ ws R, sp_cut_in ws R → t_cut_in { nx := fun _ => R (.d .none), rt := R } (startR ["web", "many", "found", "person"] ws)) (hl : ∀ ws R, sp_cut_in ws R → ws.length = 1) : Cal P w K mg base 3 "cut_in" ["web"] (toSp T K sp_cut_in) :=
  d_fn (t := t_cut_in) F hm sc_cut_in (fun _ _ _ _ _ _ us hl => match us, hl with | [_], _ => rfl) hl (fun cdv A outer s H E hr =>
      (s_cons (s_par (i := 1) (j := 2) (ps_par rfl sc_cut_in.nd rfl rfl (by decide) rfl rfl (pa_cons (x_cb u_len call_len_seq TX.len_ (x_call G_groups_in hr (a_cons (x_var 0) a_nil))) (pa_cons (x_lst a_nil) pa_nil)) rfl))
      (s_cons (s_for (g_name 3) (i_rng1 TX.range_ (x_cb u_len call_len_seq TX.len_ (x_var 0))) (pg_name (i := 3) sc_cut_in.nd rfl (by first | exact .inl rfl | exact .inr rfl)) (s_one (s_if (PW.pt (b_and (b_cmp o_ne (op_neD hr.units) (x_ix o_ixT ix_tup (x_var 0) (x_var 3)) (x_tup a_nil)) (b_and1 (b_cmp o_gt op_gt (x_cb u_len call_len_seq TX.len_ (x_call G_groups_in hr (a_cons (x_call G_without hr (a_cons (x_var 0) (a_cons (x_var 3) a_nil))) a_nil))) (x_op o_add op_add (x_var 1) x_int))))) (s_one (s_append (i := 2) (ps_expr (pe_bm PySem.F.plainAttrs_list PySem.F.slot_list_append PySem.F.type_list_append mt_append (pv 2) (pa_cons (x_var 3) pa_nil))))) s_nil)))
      (s_one (s_ret (x_var 2)))))) sem
theorem sc_next_in : FnScope ["web", "rule", "some", "person"] ["web", "rule"] (defScope (top 56)) := ⟨rfl, rfl, rfl, by decide +kernel, rfl, by decide +kernel, by decide +kernel⟩
theorem ok_next_in (TX : Txt mg) (F : FunD K "next_in" "next_in" (defArgs (top 56)) (defBody (top 56)) (defScope (top 56)) [] [] f fd) (hm : mg "next_in" = some (.ref f)) (G_movers_in : Cal P w K mg base 2 "movers_in" ["web"] (toSp T K sp_movers_in)) (G_call_in : Cal P w K mg base 2 "call_in" ["web", "person"] (toSp T K sp_call_in)) (G_pairs_in : Cal P w K mg base 1 "pairs_in" ["web"] (toSp T K sp_pairs_in))
    (sem : ∀ ws R, sp_next_in ws R → t_next_in { nx := fun _ => R (.d .none), rt := R } (startR ["web", "rule", "some", "person"] ws)) (hl : ∀ ws R, sp_next_in ws R → ws.length = 2) : Cal P w K mg base 3 "next_in" ["web", "rule"] (toSp T K sp_next_in) :=
  d_fn (t := t_next_in) F hm sc_next_in (fun _ _ _ _ _ _ us hl => match us, hl with | [_, _], _ => rfl) hl (fun cdv A outer s H E hr =>
      (s_cons (s_set 2 sc_next_in.nd (x_call G_movers_in hr (a_cons (x_var 0) a_nil)))
      (s_cons (s_if (b_cmp o_eq (op_eqD hr.units) (x_var 1) x_str) (s_one (s_ret (x_ix o_ixT ix_tup (x_cb u_min (cr_minD rfl hr.units) TX.min_ (x_lc (own := [(PySem.Str.ofString "person", 3)]) (g_name 3) (gw_name (by decide : 3 ∈ [3])) sc_next_in.nd (i_list (x_var 2)) (blkOk_by (own := [(PySem.Str.ofString "person", 3)]) (by kernel_rfl)) (fun _ _ _ _ _ => (pg_name (i := 3) sc_next_in.nd rfl (by first | exact .inl rfl | exact .inr rfl))) (fun _ _ _ _ _ => t_nil) (fun _ _ _ _ _ => (x_tup (a_cons (x_un u_neg un_neg (x_cb u_len call_len_seq TX.len_ (x_call G_pairs_in hr (a_cons (x_call G_call_in hr (a_cons (x_var 0) (a_cons (x_var 3) a_nil))) a_nil)))) (a_cons (x_var 3) a_nil)))))) x_int))) s_nil)
      (s_cons (s_if (b_cmp o_eq (op_eqD hr.units) (x_var 1) x_str) (s_one (s_ret (x_ix o_ixT ix_tup (x_cb u_min (cr_minD rfl hr.units) TX.min_ (x_lc (own := [(PySem.Str.ofString "person", 3)]) (g_name 3) (gw_name (by decide : 3 ∈ [3])) sc_next_in.nd (i_list (x_var 2)) (blkOk_by (own := [(PySem.Str.ofString "person", 3)]) (by kernel_rfl)) (fun _ _ _ _ _ => (pg_name (i := 3) sc_next_in.nd rfl (by first | exact .inl rfl | exact .inr rfl))) (fun _ _ _ _ _ => t_nil) (fun _ _ _ _ _ => (x_tup (a_cons (x_cb u_len call_len_seq TX.len_ (x_call G_pairs_in hr (a_cons (x_call G_call_in hr (a_cons (x_var 0) (a_cons (x_var 3) a_nil))) a_nil))) (a_cons (x_var 3) a_nil)))))) x_int))) s_nil)
      (s_cons (s_if (b_cmp o_eq (op_eqD hr.units) (x_var 1) x_str) (s_one (s_ret (x_ix o_ixT ix_tup (x_cb u_min (cr_minD rfl hr.units) TX.min_ (x_lc (own := [(PySem.Str.ofString "person", 3)]) (g_name 3) (gw_name (by decide : 3 ∈ [3])) sc_next_in.nd (i_list (x_var 2)) (blkOk_by (own := [(PySem.Str.ofString "person", 3)]) (by kernel_rfl)) (fun _ _ _ _ _ => (pg_name (i := 3) sc_next_in.nd rfl (by first | exact .inl rfl | exact .inr rfl))) (fun _ _ _ _ _ => t_nil) (fun _ _ _ _ _ => (x_tup (a_cons (x_un u_neg un_neg (x_cb u_len call_len_seq TX.len_ (x_ix o_ixT ix_tup (x_var 0) (x_var 3)))) (a_cons (x_var 3) a_nil)))))) x_int))) s_nil)
      (s_cons (s_if (b_cmp o_eq (op_eqD hr.units) (x_var 1) x_str) (s_one (s_ret (x_ix o_ixT ix_tup (x_cb u_min (cr_minD rfl hr.units) TX.min_ (x_lc (own := [(PySem.Str.ofString "person", 3)]) (g_name 3) (gw_name (by decide : 3 ∈ [3])) sc_next_in.nd (i_list (x_var 2)) (blkOk_by (own := [(PySem.Str.ofString "person", 3)]) (by kernel_rfl)) (fun _ _ _ _ _ => (pg_name (i := 3) sc_next_in.nd rfl (by first | exact .inl rfl | exact .inr rfl))) (fun _ _ _ _ _ => t_nil) (fun _ _ _ _ _ => (x_tup (a_cons (x_cb u_len call_len_seq TX.len_ (x_ix o_ixT ix_tup (x_var 0) (x_var 3))) (a_cons (x_var 3) a_nil)))))) x_int))) s_nil)
      (s_one (s_ret (x_if (b_cmp o_eq (op_eqD hr.units) (x_var 1) x_str) (x_ix o_ixL ix_list (x_var 2) x_int) (x_ix o_ixL ix_list (x_var 2) (x_un u_neg un_neg x_int))))))))))) sem
theorem sc_count_pairs : FnScope ["web"] ["web"] (defScope (top 19)) := ⟨rfl, rfl, rfl, by decide +kernel, rfl, by decide +kernel, by decide +kernel⟩
theorem ok_count_pairs (TX : Txt mg) (F : FunD K "count_pairs" "count_pairs" (defArgs (top 19)) (defBody (top 19)) (defScope (top 19)) [] [] f fd) (hm : mg "count_pairs" = some (.ref f)) (G_need_web : Cal P w K mg base 3 "need_web" ["web"] (toSp T K sp_need_web)) (G_pairs_in : Cal P w K mg base 1 "pairs_in" ["web"] (toSp T K sp_pairs_in))
    (sem : ∀ ws R, sp_count_pairs ws R → t_count_pairs { nx := fun _ => R (.d .none), rt := R } (startR ["web"] ws)) (hl : ∀ ws R, sp_count_pairs ws R → ws.length = 1) : Cal P w K mg base 4 "count_pairs" ["web"] (toSp T K sp_count_pairs) :=
  d_fn (t := t_count_pairs) F hm sc_count_pairs (fun _ _ _ _ _ _ us hl => match us, hl with | [_], _ => rfl) hl (fun cdv A outer s H E hr =>
      (s_cons (s_expr (x_call G_need_web hr (a_cons (x_var 0) a_nil)))
      (s_one (s_ret (x_cb u_len call_len_seq TX.len_ (x_call G_pairs_in hr (a_cons (x_var 0) a_nil))))))) sem
theorem sc_last_web : FnScope ["web"] ["web"] (defScope (top 25)) := ⟨rfl, rfl, rfl, by decide +kernel, rfl, by decide +kernel, by decide +kernel⟩
theorem ok_last_web (TX : Txt mg) (F : FunD K "last_web" "last_web" (defArgs (top 25)) (defBody (top 25)) (defScope (top 25)) [] [] f fd) (hm : mg "last_web" = some (.ref f)) (G_need_web : Cal P w K mg base 3 "need_web" ["web"] (toSp T K sp_need_web)) (G_rest_of : Cal P w K mg base 3 "rest_of" ["web"] (toSp T K sp_rest_of))
    (sem : ∀ ws R, sp_last_web ws R → t_last_web { nx := fun _ => R (.d .none), rt := R } (startR ["web"] ws)) (hl : ∀ ws R, sp_last_web ws R → ws.length = 1) : Cal P w K mg base 4 "last_web" ["web"] (toSp T K sp_last_web) :=
  d_fn (t := t_last_web) F hm sc_last_web (fun _ _ _ _ _ _ us hl => match us, hl with | [_], _ => rfl) hl (fun cdv A outer s H E hr =>
      (s_cons (s_expr (x_call G_need_web hr (a_cons (x_var 0) a_nil)))
      (s_one (s_ret (x_call G_rest_of hr (a_cons (x_var 0) a_nil)))))) sem
theorem sc_call : FnScope ["web", "person"] ["web", "person"] (defScope (top 30)) := ⟨rfl, rfl, rfl, by decide +kernel, rfl, by decide +kernel, by decide +kernel⟩
theorem ok_call (TX : Txt mg) (F : FunD K "call" "call" (defArgs (top 30)) (defBody (top 30)) (defScope (top 30)) [] [] f fd) (hm : mg "call" = some (.ref f)) (G_need_web : Cal P w K mg base 3 "need_web" ["web"] (toSp T K sp_need_web)) (G_need_person : Cal P w K mg base 3 "need_person" ["web", "person"] (toSp T K sp_need_person)) (G_call_in : Cal P w K mg base 2 "call_in" ["web", "person"] (toSp T K sp_call_in))
    (sem : ∀ ws R, sp_call ws R → t_call { nx := fun _ => R (.d .none), rt := R } (startR ["web", "person"] ws)) (hl : ∀ ws R, sp_call ws R → ws.length = 2) : Cal P w K mg base 4 "call" ["web", "person"] (toSp T K sp_call) :=
  d_fn (t := t_call) F hm sc_call (fun _ _ _ _ _ _ us hl => match us, hl with | [_, _], _ => rfl) hl (fun cdv A outer s H E hr =>
      (s_cons (s_expr (x_call G_need_web hr (a_cons (x_var 0) a_nil)))
      (s_cons (s_expr (x_call G_need_person hr (a_cons (x_var 0) (a_cons (x_var 1) a_nil))))
      (s_one (s_ret (x_call G_call_in hr (a_cons (x_var 0) (a_cons (x_var 1) a_nil)))))))) sem
theorem sc_after : FnScope ["web", "calls"] ["web", "calls"] (defScope (top 33)) := ⟨rfl, rfl, rfl, by decide +kernel, rfl, by decide +kernel, by decide +kernel⟩
theorem ok_after (TX : Txt mg) (F : FunD K "after" "after" (defArgs (top 33)) (defBody (top 33)) (defScope (top 33)) [] [] f fd) (hm : mg "after" = some (.ref f)) (G_need_web : Cal P w K mg base 3 "need_web" ["web"] (toSp T K sp_need_web)) (G_need_calls : Cal P w K mg base 3 "need_calls" ["web", "calls"] (toSp T K sp_need_calls)) (G_story_in : Cal P w K mg base 3 "story_in" ["web", "calls"] (toSp T K sp_story_in))
    (sem : ∀ ws R, sp_after ws R → t_after { nx := fun _ => R (.d .none), rt := R } (startR ["web", "calls"] ws)) (hl : ∀ ws R, sp_after ws R → ws.length = 2) : Cal P w K mg base 4 "after" ["web", "calls"] (toSp T K sp_after) :=
  d_fn (t := t_after) F hm sc_after (fun _ _ _ _ _ _ us hl => match us, hl with | [_, _], _ => rfl) hl (fun cdv A outer s H E hr =>
      (s_cons (s_expr (x_call G_need_web hr (a_cons (x_var 0) a_nil)))
      (s_cons (s_expr (x_call G_need_calls hr (a_cons (x_var 0) (a_cons (x_var 1) a_nil))))
      (s_one (s_ret (x_ix o_ixL ix_list (x_call G_story_in hr (a_cons (x_var 0) (a_cons (x_var 1) a_nil))) (x_un u_neg un_neg x_int))))))) sem
theorem sc_gains : FnScope ["web", "calls", "some", "found", "at", "here"] ["web", "calls"] (defScope (top 34)) := ⟨rfl, rfl, rfl, by decide +kernel, rfl, by decide +kernel, by decide +kernel⟩
theorem ok_gains (TX : Txt mg) (F : FunD K "gains" "gains" (defArgs (top 34)) (defBody (top 34)) (defScope (top 34)) [] [] f fd) (hm : mg "gains" = some (.ref f)) (G_need_web : Cal P w K mg base 3 "need_web" ["web"] (toSp T K sp_need_web)) (G_need_calls : Cal P w K mg base 3 "need_calls" ["web", "calls"] (toSp T K sp_need_calls)) (G_story_in : Cal P w K mg base 3 "story_in" ["web", "calls"] (toSp T K sp_story_in)) (G_pairs_in : Cal P w K mg base 1 "pairs_in" ["web"] (toSp T K sp_pairs_in))
    (sem : ∀ ws R, sp_gains ws R → t_gains { nx := fun _ => R (.d .none), rt := R } (startR ["web", "calls", "some", "found", "at", "here"] ws)) (hl : ∀ ws R, sp_gains ws R → ws.length = 2) : Cal P w K mg base 4 "gains" ["web", "calls"] (toSp T K sp_gains) :=
  d_fn (t := t_gains) F hm sc_gains (fun _ _ _ _ _ _ us hl => match us, hl with | [_, _], _ => rfl) hl (fun cdv A outer s H E hr =>
      (s_cons (s_expr (x_call G_need_web hr (a_cons (x_var 0) a_nil)))
      (s_cons (s_expr (x_call G_need_calls hr (a_cons (x_var 0) (a_cons (x_var 1) a_nil))))
      (s_cons (s_setLc (i := 2) (own := [(PySem.Str.ofString "here", 5)]) (g_name 5) (gw_name (by decide : 5 ∈ [5])) sc_gains.nd (sw_true rfl rfl rfl (by decide +kernel)) (i_list (x_call G_story_in hr (a_cons (x_var 0) (a_cons (x_var 1) a_nil)))) (blkOk_by (own := [(PySem.Str.ofString "here", 5)]) (by kernel_rfl)) (fun _ _ _ _ _ => (pg_name (i := 5) sc_gains.nd rfl (by first | exact .inl rfl | exact .inr rfl))) (fun _ _ _ _ _ => t_nil) (fun _ _ _ _ _ => (x_cb u_len call_len_seq TX.len_ (x_call G_pairs_in hr (a_cons (x_var 5) a_nil)))))
      (s_cons (s_set 3 sc_gains.nd (x_lst a_nil))
      (s_cons (s_for (g_name 4) (i_rng1 TX.range_ (x_cb u_len call_len_seq TX.len_ (x_var 1))) (pg_name (i := 4) sc_gains.nd rfl (by first | exact .inl rfl | exact .inr rfl)) (s_one (s_append (i := 3) (ps_expr (pe_bm PySem.F.plainAttrs_list PySem.F.slot_list_append PySem.F.type_list_append mt_append (pv 3) (pa_cons (x_op o_sub op_sub (x_ix o_ixL ix_list (x_var 2) (x_op o_add op_add (x_var 4) x_int)) (x_ix o_ixL ix_list (x_var 2) (x_var 4))) pa_nil))))))
      (s_one (s_ret (x_ct u_tuple call_tuple_of TX.tuple_ (x_var 3)))))))))) sem
theorem sc_most_new : FnScope ["web", "known", "many", "person"] ["web"] (defScope (top 35)) := ⟨rfl, rfl, rfl, by decide +kernel, rfl, by decide +kernel, by decide +kernel⟩
theorem ok_most_new (TX : Txt mg) (F : FunD K "most_new" "most_new" (defArgs (top 35)) (defBody (top 35)) (defScope (top 35)) [] [] f fd) (hm : mg "most_new" = some (.ref f)) (G_need_web : Cal P w K mg base 3 "need_web" ["web"] (toSp T K sp_need_web)) (G_pairs_in : Cal P w K mg base 1 "pairs_in" ["web"] (toSp T K sp_pairs_in)) (G_call_in : Cal P w K mg base 2 "call_in" ["web", "person"] (toSp T K sp_call_in))
    (sem : ∀ ws R, sp_most_new ws R → t_most_new { nx := fun _ => R (.d .none), rt := R } (startR ["web", "known", "many", "person"] ws)) (hl : ∀ ws R, sp_most_new ws R → ws.length = 1) : Cal P w K mg base 4 "most_new" ["web"] (toSp T K sp_most_new) :=
  d_fn (t := t_most_new) F hm sc_most_new (fun _ _ _ _ _ _ us hl => match us, hl with | [_], _ => rfl) hl (fun cdv A outer s H E hr =>
      (s_cons (s_expr (x_call G_need_web hr (a_cons (x_var 0) a_nil)))
      (s_cons (s_set 1 sc_most_new.nd (x_cb u_len call_len_seq TX.len_ (x_call G_pairs_in hr (a_cons (x_var 0) a_nil))))
      (s_cons (s_asg (g_tup2 2 3) (x_cb u_min (cr_minD rfl hr.units) TX.min_ (x_lc (own := [(PySem.Str.ofString "person", 3)]) (g_name 3) (gw_name (by decide : 3 ∈ [3])) sc_most_new.nd (i_rng1 TX.range_ (x_cb u_len call_len_seq TX.len_ (x_var 0))) (blkOk_by (own := [(PySem.Str.ofString "person", 3)]) (by kernel_rfl)) (fun _ _ _ _ _ => (pg_name (i := 3) sc_most_new.nd rfl (by first | exact .inl rfl | exact .inr rfl))) (fun _ _ _ _ _ => t_nil) (fun _ _ _ _ _ => (x_tup (a_cons (x_op o_sub op_sub (x_var 1) (x_cb u_len call_len_seq TX.len_ (x_call G_pairs_in hr (a_cons (x_call G_call_in hr (a_cons (x_var 0) (a_cons (x_var 3) a_nil))) a_nil)))) (a_cons (x_var 3) a_nil)))))) (pg_tup rfl (pgs_cons (pg_name (i := 2) sc_most_new.nd rfl (by first | exact .inl rfl | exact .inr rfl)) (pgs_cons (pg_name (i := 3) sc_most_new.nd rfl (by first | exact .inl rfl | exact .inr rfl)) pgs_nil))))
      (s_one (s_ret (x_tup (a_cons (x_un u_neg un_neg (x_var 2)) (a_cons (x_var 3) a_nil))))))))) sem
theorem sc_made_in : FnScope ["web", "calls", "states", "found", "at", "person", "pair"] ["web", "calls"] (defScope (top 37)) := ⟨rfl, rfl, rfl, by decide +kernel, rfl, by decide +kernel, by decide +kernel⟩
theorem ok_made_in (TX : Txt mg) (F : FunD K "made_in" "made_in" (defArgs (top 37)) (defBody (top 37)) (defScope (top 37)) [] [] f fd) (hm : mg "made_in" = some (.ref f)) (G_story_in : Cal P w K mg base 3 "story_in" ["web", "calls"] (toSp T K sp_story_in)) (G_pairs_in : Cal P w K mg base 1 "pairs_in" ["web"] (toSp T K sp_pairs_in))
    (sem : ∀ ws R, sp_made_in ws R → t_made_in { nx := fun _ => R (.d .none), rt := R } (startR ["web", "calls", "states", "found", "at", "person", "pair"] ws)) (hl : ∀ ws R, sp_made_in ws R → ws.length = 2) : Cal P w K mg base 4 "made_in" ["web", "calls"] (toSp T K sp_made_in) :=
  d_fn (t := t_made_in) F hm sc_made_in (fun _ _ _ _ _ _ us hl => match us, hl with | [_, _], _ => rfl) hl (fun cdv A outer s H E hr =>
      (s_cons (s_parC (i := 2) (j := 3) (ps_asg (pe_tup (pa_cons (x_call G_story_in hr (a_cons (x_var 0) (a_cons (x_var 1) a_nil))) (pa_cons (x_lst a_nil) pa_nil))) (pg_tup rfl (pgs_cons (pg_name (i := 2) sc_made_in.nd rfl (by first | exact .inl rfl | exact .inr rfl)) (pgs_cons (pg_name (i := 3) sc_made_in.nd rfl (by first | exact .inl rfl | exact .inr rfl)) pgs_nil)))))
      (s_cons (s_for (g_tup2 4 5) (i_enum TX.enumerate_ (x_var 1)) (pg_tup rfl (pgs_cons (pg_name (i := 4) sc_made_in.nd rfl (by first | exact .inl rfl | exact .inr rfl)) (pgs_cons (pg_name (i := 5) sc_made_in.nd rfl (by first | exact .inl rfl | exact .inr rfl)) pgs_nil))) (s_one (s_extend (i := 3) (ps_expr (pe_bm PySem.F.plainAttrs_list PySem.F.slot_list_extend PySem.F.type_list_extend mt_extend (pv 3) (pa_cons (x_lc (own := [(PySem.Str.ofString "pair", 6)]) (g_name 6) (gw_name (by decide : 6 ∈ [6])) sc_made_in.nd (i_list (x_call G_pairs_in hr (a_cons (x_ix o_ixL ix_list (x_var 2) (x_op o_add op_add (x_var 4) x_int)) a_nil))) (blkOk_by (own := [(PySem.Str.ofString "pair", 6)]) (by kernel_rfl)) (fun _ _ _ _ _ => (pg_name (i := 6) sc_made_in.nd rfl (by first | exact .inl rfl | exact .inr rfl))) (fun _ _ _ _ _ => (pts_one (b_cmp (o_in true) op_notIn_seq (x_ix o_ixT ix_tup (x_var 6) x_int) (x_ix o_ixT ix_tup (x_ix o_ixL ix_list (x_var 2) (x_var 4)) (x_ix o_ixT ix_tup (x_var 6) x_int))))) (fun _ _ _ _ _ => (x_tup (a_cons (x_var 4) (a_cons (x_var 5) (a_cons (x_var 6) a_nil)))))) pa_nil))))))
      (s_one (s_ret (x_var 3)))))) sem
end Wk

/-! part DrC -/
set_option Elab.async false
set_option linter.all false
set_option maxRecDepth 100000
set_option maxHeartbeats 4000000
namespace Wk
open PySem PySem.Spec PyProof.Rows L2 Dw Gg Ik
variable {T : List NdefX.NTab} {K : PySem.W.Frag} {P : Program} {w : World} {mg : Str → Option Value} {base : Heap} {f : Addr} {fd : FuncData}

theorem sc_greedy_row : FnScope ["web", "row", "known", "many", "person", "one"] ["web"] (defScope (top 39)) := ⟨rfl, rfl, rfl, by decide +kernel, rfl, by decide +kernel, by decide +kernel⟩
theorem ok_greedy_row (TX : Txt mg) (F : FunD K "greedy_row" "greedy_row" (defArgs (top 39)) (defBody (top 39)) (defScope (top 39)) [] [] f fd) (hm : mg "greedy_row" = some (.ref f)) (G_need_web : Cal P w K mg base 3 "need_web" ["web"] (toSp T K sp_need_web)) (G_pairs_in : Cal P w K mg base 1 "pairs_in" ["web"] (toSp T K sp_pairs_in)) (G_call_in : Cal P w K mg base 2 "call_in" ["web", "person"] (toSp T K sp_call_in))
    (sem : ∀ ws R, sp_greedy_row ws R → t_greedy_row { nx := fun _ => R (.d .none), rt := R } (startR ["web", "row", "known", "many", "person", "one"] ws)) (hl : ∀ ws R, sp_greedy_row ws R → ws.length = 1) : Cal P w K mg base 4 "greedy_row" ["web"] (toSp T K sp_greedy_row) :=
  d_fn (t := t_greedy_row) F hm sc_greedy_row (fun _ _ _ _ _ _ us hl => match us, hl with | [_], _ => rfl) hl (fun cdv A outer s H E hr =>
      (s_cons (s_expr (x_call G_need_web hr (a_cons (x_var 0) a_nil)))
      (s_cons (s_set 1 sc_greedy_row.nd (x_lst a_nil))
      (s_one (s_while (b_val x_bl) (s_cons (s_set 2 sc_greedy_row.nd (x_cb u_len call_len_seq TX.len_ (x_call G_pairs_in hr (a_cons (x_var 0) a_nil))))
      (s_cons (s_asg (g_tup2 3 4) (x_cb u_min (cr_minD rfl hr.units) TX.min_ (x_lc (own := [(PySem.Str.ofString "one", 5)]) (g_name 5) (gw_name (by decide : 5 ∈ [5])) sc_greedy_row.nd (i_rng1 TX.range_ (x_cb u_len call_len_seq TX.len_ (x_var 0))) (blkOk_by (own := [(PySem.Str.ofString "one", 5)]) (by kernel_rfl)) (fun _ _ _ _ _ => (pg_name (i := 5) sc_greedy_row.nd rfl (by first | exact .inl rfl | exact .inr rfl))) (fun _ _ _ _ _ => t_nil) (fun _ _ _ _ _ => (x_tup (a_cons (x_op o_sub op_sub (x_var 2) (x_cb u_len call_len_seq TX.len_ (x_call G_pairs_in hr (a_cons (x_call G_call_in hr (a_cons (x_var 0) (a_cons (x_var 5) a_nil))) a_nil)))) (a_cons (x_var 5) a_nil)))))) (pg_tup rfl (pgs_cons (pg_name (i := 3) sc_greedy_row.nd rfl (by first | exact .inl rfl | exact .inr rfl)) (pgs_cons (pg_name (i := 4) sc_greedy_row.nd rfl (by first | exact .inl rfl | exact .inr rfl)) pgs_nil))))
      (s_cons (s_if (b_cmp o_eq (op_eqD hr.units) (x_var 3) x_int) (s_one (s_ret (x_ct u_tuple call_tuple_of TX.tuple_ (x_var 1)))) s_nil)
      (s_cons (s_append (i := 1) (ps_expr (pe_bm PySem.F.plainAttrs_list PySem.F.slot_list_append PySem.F.type_list_append mt_append (pv 1) (pa_cons (x_var 4) pa_nil))))
      (s_one (s_set 0 sc_greedy_row.nd (x_call G_call_in hr (a_cons (x_var 0) (a_cons (x_var 4) a_nil)))))))))))))) sem
theorem sc_told : FnScope ["web", "called"] ["web", "called"] (defScope (top 44)) := ⟨rfl, rfl, rfl, by decide +kernel, rfl, by decide +kernel, by decide +kernel⟩
theorem ok_told (TX : Txt mg) (F : FunD K "told" "told" (defArgs (top 44)) (defBody (top 44)) (defScope (top 44)) [] [] f fd) (hm : mg "told" = some (.ref f)) (G_need_web : Cal P w K mg base 3 "need_web" ["web"] (toSp T K sp_need_web)) (G_need_people : Cal P w K mg base 3 "need_people" ["web", "people"] (toSp T K sp_need_people)) (G_told_in : Cal P w K mg base 2 "told_in" ["web", "called"] (toSp T K sp_told_in))
    (sem : ∀ ws R, sp_told ws R → t_told { nx := fun _ => R (.d .none), rt := R } (startR ["web", "called"] ws)) (hl : ∀ ws R, sp_told ws R → ws.length = 2) : Cal P w K mg base 4 "told" ["web", "called"] (toSp T K sp_told) :=
  d_fn (t := t_told) F hm sc_told (fun _ _ _ _ _ _ us hl => match us, hl with | [_, _], _ => rfl) hl (fun cdv A outer s H E hr =>
      (s_cons (s_expr (x_call G_need_web hr (a_cons (x_var 0) a_nil)))
      (s_cons (s_expr (x_call G_need_people hr (a_cons (x_var 0) (a_cons (x_var 1) a_nil))))
      (s_one (s_ret (x_call G_told_in hr (a_cons (x_var 0) (a_cons (x_var 1) a_nil)))))))) sem
theorem sc_joining_in : FnScope ["web", "goal", "found", "called"] ["web"] (defScope (top 46)) := ⟨rfl, rfl, rfl, by decide +kernel, rfl, by decide +kernel, by decide +kernel⟩
theorem ok_joining_in (TX : Txt mg) (F : FunD K "joining_in" "joining_in" (defArgs (top 46)) (defBody (top 46)) (defScope (top 46)) [] [] f fd) (hm : mg "joining_in" = some (.ref f)) (G_rest_of : Cal P w K mg base 3 "rest_of" ["web"] (toSp T K sp_rest_of)) (G_choices : Cal P w K mg base 1 "choices" ["many"] (toSp T K sp_choices)) (G_told_in : Cal P w K mg base 2 "told_in" ["web", "called"] (toSp T K sp_told_in))
    (sem : ∀ ws R, sp_joining_in ws R → t_joining_in { nx := fun _ => R (.d .none), rt := R } (startR ["web", "goal", "found", "called"] ws)) (hl : ∀ ws R, sp_joining_in ws R → ws.length = 1) : Cal P w K mg base 4 "joining_in" ["web"] (toSp T K sp_joining_in) :=
  d_fn (t := t_joining_in) F hm sc_joining_in (fun _ _ _ _ _ _ us hl => match us, hl with | [_], _ => rfl) hl (fun cdv A outer s H E hr =>
      (s_cons (s_set 1 sc_joining_in.nd (x_call G_rest_of hr (a_cons (x_var 0) a_nil)))
      (s_cons (s_set 2 sc_joining_in.nd (x_lst a_nil))
      (s_cons (s_for (g_name 3) (i_list (x_call G_choices hr (a_cons (x_cb u_len call_len_seq TX.len_ (x_var 0)) a_nil))) (pg_name (i := 3) sc_joining_in.nd rfl (by first | exact .inl rfl | exact .inr rfl)) (s_one (s_if (b_cmp o_eq (op_eqD hr.units) (x_call G_told_in hr (a_cons (x_var 0) (a_cons (x_var 3) a_nil))) (x_var 1)) (s_one (s_append (i := 2) (ps_expr (pe_bm PySem.F.plainAttrs_list PySem.F.slot_list_append PySem.F.type_list_append mt_append (pv 2) (pa_cons (x_var 3) pa_nil))))) s_nil)))
      (s_one (s_ret (x_cb u_sorted (cr_sortD hr.units) TX.sorted_ (x_var 2)))))))) sem
theorem sc_joins_all : FnScope ["web", "called"] ["web", "called"] (defScope (top 47)) := ⟨rfl, rfl, rfl, by decide +kernel, rfl, by decide +kernel, by decide +kernel⟩
theorem ok_joins_all (TX : Txt mg) (F : FunD K "joins_all" "joins_all" (defArgs (top 47)) (defBody (top 47)) (defScope (top 47)) [] [] f fd) (hm : mg "joins_all" = some (.ref f)) (G_need_web : Cal P w K mg base 3 "need_web" ["web"] (toSp T K sp_need_web)) (G_need_people : Cal P w K mg base 3 "need_people" ["web", "people"] (toSp T K sp_need_people)) (G_told_in : Cal P w K mg base 2 "told_in" ["web", "called"] (toSp T K sp_told_in)) (G_rest_of : Cal P w K mg base 3 "rest_of" ["web"] (toSp T K sp_rest_of))
    (sem : ∀ ws R, sp_joins_all ws R → t_joins_all { nx := fun _ => R (.d .none), rt := R } (startR ["web", "called"] ws)) (hl : ∀ ws R, sp_joins_all ws R → ws.length = 2) : Cal P w K mg base 4 "joins_all" ["web", "called"] (toSp T K sp_joins_all) :=
  d_fn (t := t_joins_all) F hm sc_joins_all (fun _ _ _ _ _ _ us hl => match us, hl with | [_, _], _ => rfl) hl (fun cdv A outer s H E hr =>
      (s_cons (s_expr (x_call G_need_web hr (a_cons (x_var 0) a_nil)))
      (s_cons (s_expr (x_call G_need_people hr (a_cons (x_var 0) (a_cons (x_var 1) a_nil))))
      (s_one (s_ret (x_cmp o_eq (op_eqD hr.units) (x_call G_told_in hr (a_cons (x_var 0) (a_cons (x_var 1) a_nil))) (x_call G_rest_of hr (a_cons (x_var 0) a_nil)))))))) sem
theorem sc_cut_people : FnScope ["web"] ["web"] (defScope (top 52)) := ⟨rfl, rfl, rfl, by decide +kernel, rfl, by decide +kernel, by decide +kernel⟩
theorem ok_cut_people (TX : Txt mg) (F : FunD K "cut_people" "cut_people" (defArgs (top 52)) (defBody (top 52)) (defScope (top 52)) [] [] f fd) (hm : mg "cut_people" = some (.ref f)) (G_need_web : Cal P w K mg base 3 "need_web" ["web"] (toSp T K sp_need_web)) (G_cut_in : Cal P w K mg base 3 "cut_in" ["web"] (toSp T K sp_cut_in))
    (sem : ∀ ws R, sp_cut_people ws R → t_cut_people { nx := fun _ => R (.d .none), rt := R } (startR ["web"] ws)) (hl : ∀ ws R, sp_cut_people ws R → ws.length = 1) : Cal P w K mg base 4 "cut_people" ["web"] (toSp T K sp_cut_people) :=
  d_fn (t := t_cut_people) F hm sc_cut_people (fun _ _ _ _ _ _ us hl => match us, hl with | [_], _ => rfl) hl (fun cdv A outer s H E hr =>
      (s_cons (s_expr (x_call G_need_web hr (a_cons (x_var 0) a_nil)))
      (s_one (s_ret (x_ct u_tuple call_tuple_of TX.tuple_ (x_call G_cut_in hr (a_cons (x_var 0) a_nil))))))) sem
theorem sc_row_in : FnScope ["web", "rule", "found"] ["web", "rule"] (defScope (top 57)) := ⟨rfl, rfl, rfl, by decide +kernel, rfl, by decide +kernel, by decide +kernel⟩
theorem ok_row_in (TX : Txt mg) (F : FunD K "row_in" "row_in" (defArgs (top 57)) (defBody (top 57)) (defScope (top 57)) [] [] f fd) (hm : mg "row_in" = some (.ref f)) (G_movers_in : Cal P w K mg base 2 "movers_in" ["web"] (toSp T K sp_movers_in)) (G_next_in : Cal P w K mg base 3 "next_in" ["web", "rule"] (toSp T K sp_next_in)) (G_call_in : Cal P w K mg base 2 "call_in" ["web", "person"] (toSp T K sp_call_in))
    (sem : ∀ ws R, sp_row_in ws R → t_row_in { nx := fun _ => R (.d .none), rt := R } (startR ["web", "rule", "found"] ws)) (hl : ∀ ws R, sp_row_in ws R → ws.length = 2) : Cal P w K mg base 4 "row_in" ["web", "rule"] (toSp T K sp_row_in) :=
  d_fn (t := t_row_in) F hm sc_row_in (fun _ _ _ _ _ _ us hl => match us, hl with | [_, _], _ => rfl) hl (fun cdv A outer s H E hr =>
      (s_cons (s_set 2 sc_row_in.nd (x_lst a_nil))
      (s_cons (s_while (b_cmp o_ne (op_neD hr.units) (x_call G_movers_in hr (a_cons (x_var 0) a_nil)) (x_lst a_nil)) (s_cons (s_append (i := 2) (ps_expr (pe_bm PySem.F.plainAttrs_list PySem.F.slot_list_append PySem.F.type_list_append mt_append (pv 2) (pa_cons (x_call G_next_in hr (a_cons (x_var 0) (a_cons (x_var 1) a_nil))) pa_nil))))
      (s_one (s_set 0 sc_row_in.nd (x_call G_call_in hr (a_cons (x_var 0) (a_cons (x_ix o_ixL ix_list (x_var 2) (x_un u_neg un_neg x_int)) a_nil)))))))
      (s_one (s_ret (x_var 2)))))) sem
theorem sc_most_pairs_by : FnScope ["web", "many", "some", "pairs", "called"] ["web", "many"] (defScope (top 64)) := ⟨rfl, rfl, rfl, by decide +kernel, rfl, by decide +kernel, by decide +kernel⟩
theorem ok_most_pairs_by (TX : Txt mg) (F : FunD K "most_pairs_by" "most_pairs_by" (defArgs (top 64)) (defBody (top 64)) (defScope (top 64)) [] [] f fd) (hm : mg "most_pairs_by" = some (.ref f)) (G_need_web : Cal P w K mg base 3 "need_web" ["web"] (toSp T K sp_need_web)) (G_is_in : Cal P w K mg base 2 "is_in" ["value", "least", "most"] (toSp T K sp_is_in)) (G_choices : Cal P w K mg base 1 "choices" ["many"] (toSp T K sp_choices)) (G_told_in : Cal P w K mg base 2 "told_in" ["web", "called"] (toSp T K sp_told_in)) (G_pairs_in : Cal P w K mg base 1 "pairs_in" ["web"] (toSp T K sp_pairs_in))
    (sem : ∀ ws R, sp_most_pairs_by ws R → t_most_pairs_by { nx := fun _ => R (.d .none), rt := R } (startR ["web", "many", "some", "pairs", "called"] ws)) (hl : ∀ ws R, sp_most_pairs_by ws R → ws.length = 2) : Cal P w K mg base 4 "most_pairs_by" ["web", "many"] (toSp T K sp_most_pairs_by) :=
  d_fn (t := t_most_pairs_by) F hm sc_most_pairs_by (fun _ _ _ _ _ _ us hl => match us, hl with | [_, _], _ => rfl) hl (fun cdv A outer s H E hr =>
      (s_cons (s_expr (x_call G_need_web hr (a_cons (x_var 0) a_nil)))
      (s_cons (s_if (b_not (b_val (x_call G_is_in hr (a_cons (x_var 1) (a_cons x_int (a_cons x_int a_nil)))))) (s_one s_never) s_nil)
      (s_cons (s_setLc (i := 2) (own := [(PySem.Str.ofString "called", 4)]) (g_name 4) (gw_name (by decide : 4 ∈ [4])) sc_most_pairs_by.nd (sw_true rfl rfl rfl (by decide +kernel)) (i_list (x_call G_choices hr (a_cons (x_cb u_len call_len_seq TX.len_ (x_var 0)) a_nil))) (blkOk_by (own := [(PySem.Str.ofString "called", 4)]) (by kernel_rfl)) (fun _ _ _ _ _ => (pg_name (i := 4) sc_most_pairs_by.nd rfl (by first | exact .inl rfl | exact .inr rfl))) (fun _ _ _ _ _ => (pts_one (b_cmp o_le op_le (x_cb u_len call_len_seq TX.len_ (x_var 4)) (x_var 1)))) (fun _ _ _ _ _ => (x_var 4)))
      (s_cons (s_asg (g_tup2 3 4) (x_cb u_min (cr_minD rfl hr.units) TX.min_ (x_lc (own := [(PySem.Str.ofString "called", 4)]) (g_name 4) (gw_name (by decide : 4 ∈ [4])) sc_most_pairs_by.nd (i_list (x_var 2)) (blkOk_by (own := [(PySem.Str.ofString "called", 4)]) (by kernel_rfl)) (fun _ _ _ _ _ => (pg_name (i := 4) sc_most_pairs_by.nd rfl (by first | exact .inl rfl | exact .inr rfl))) (fun _ _ _ _ _ => t_nil) (fun _ _ _ _ _ => (x_tup (a_cons (x_un u_neg un_neg (x_cb u_len call_len_seq TX.len_ (x_call G_pairs_in hr (a_cons (x_call G_told_in hr (a_cons (x_var 0) (a_cons (x_var 4) a_nil))) a_nil)))) (a_cons (x_var 4) a_nil)))))) (pg_tup rfl (pgs_cons (pg_name (i := 3) sc_most_pairs_by.nd rfl (by first | exact .inl rfl | exact .inr rfl)) (pgs_cons (pg_name (i := 4) sc_most_pairs_by.nd rfl (by first | exact .inl rfl | exact .inr rfl)) pgs_nil))))
      (s_one (s_ret (x_tup (a_cons (x_un u_neg un_neg (x_var 3)) (a_cons (x_var 4) a_nil)))))))))) sem
theorem sc_count_made : FnScope ["web", "calls", "found", "at", "person", "pair"] ["web", "calls"] (defScope (top 38)) := ⟨rfl, rfl, rfl, by decide +kernel, rfl, by decide +kernel, by decide +kernel⟩
theorem ok_count_made (TX : Txt mg) (F : FunD K "count_made" "count_made" (defArgs (top 38)) (defBody (top 38)) (defScope (top 38)) [] [] f fd) (hm : mg "count_made" = some (.ref f)) (G_need_web : Cal P w K mg base 3 "need_web" ["web"] (toSp T K sp_need_web)) (G_need_calls : Cal P w K mg base 3 "need_calls" ["web", "calls"] (toSp T K sp_need_calls)) (G_made_in : Cal P w K mg base 4 "made_in" ["web", "calls"] (toSp T K sp_made_in))
    (sem : ∀ ws R, sp_count_made ws R → t_count_made { nx := fun _ => R (.d .none), rt := R } (startR ["web", "calls", "found", "at", "person", "pair"] ws)) (hl : ∀ ws R, sp_count_made ws R → ws.length = 2) : Cal P w K mg base 5 "count_made" ["web", "calls"] (toSp T K sp_count_made) :=
  d_fn (t := t_count_made) F hm sc_count_made (fun _ _ _ _ _ _ us hl => match us, hl with | [_, _], _ => rfl) hl (fun cdv A outer s H E hr =>
      (s_cons (s_expr (x_call G_need_web hr (a_cons (x_var 0) a_nil)))
      (s_cons (s_expr (x_call G_need_calls hr (a_cons (x_var 0) (a_cons (x_var 1) a_nil))))
      (s_cons (s_set 2 sc_count_made.nd (x_op o_rep1 op_rep (x_lst (a_cons x_int a_nil)) (x_cb u_len call_len_seq TX.len_ (x_var 0))))
      (s_cons (s_for (g_tup3 3 4 5) (i_list (x_call G_made_in hr (a_cons (x_var 0) (a_cons (x_var 1) a_nil)))) (pg_tup rfl (pgs_cons (pg_name (i := 3) sc_count_made.nd rfl (by first | exact .inl rfl | exact .inr rfl)) (pgs_cons (pg_name (i := 4) sc_count_made.nd rfl (by first | exact .inl rfl | exact .inr rfl)) (pgs_cons (pg_name (i := 5) sc_count_made.nd rfl (by first | exact .inl rfl | exact .inr rfl)) pgs_nil)))) (s_one (s_augL (j := 2) (ps_augS (pv 2) (x_var 4) get_list x_int ip_add set_list))))
      (s_one (s_ret (x_ct u_tuple call_tuple_of TX.tuple_ (x_var 2))))))))) sem
theorem sc_calls_to_rest : FnScope ["web", "called"] ["web"] (defScope (top 48)) := ⟨rfl, rfl, rfl, by decide +kernel, rfl, by decide +kernel, by decide +kernel⟩
theorem ok_calls_to_rest (TX : Txt mg) (F : FunD K "calls_to_rest" "calls_to_rest" (defArgs (top 48)) (defBody (top 48)) (defScope (top 48)) [] [] f fd) (hm : mg "calls_to_rest" = some (.ref f)) (G_need_web : Cal P w K mg base 3 "need_web" ["web"] (toSp T K sp_need_web)) (G_joining_in : Cal P w K mg base 4 "joining_in" ["web"] (toSp T K sp_joining_in))
    (sem : ∀ ws R, sp_calls_to_rest ws R → t_calls_to_rest { nx := fun _ => R (.d .none), rt := R } (startR ["web", "called"] ws)) (hl : ∀ ws R, sp_calls_to_rest ws R → ws.length = 1) : Cal P w K mg base 5 "calls_to_rest" ["web"] (toSp T K sp_calls_to_rest) :=
  d_fn (t := t_calls_to_rest) F hm sc_calls_to_rest (fun _ _ _ _ _ _ us hl => match us, hl with | [_], _ => rfl) hl (fun cdv A outer s H E hr =>
      (s_cons (s_expr (x_call G_need_web hr (a_cons (x_var 0) a_nil)))
      (s_one (s_ret (x_cb u_min (cr_minD rfl hr.units) TX.min_ (x_lc (own := [(PySem.Str.ofString "called", 1)]) (g_name 1) (gw_name (by decide : 1 ∈ [1])) sc_calls_to_rest.nd (i_list (x_call G_joining_in hr (a_cons (x_var 0) a_nil))) (blkOk_by (own := [(PySem.Str.ofString "called", 1)]) (by kernel_rfl)) (fun _ _ _ _ _ => (pg_name (i := 1) sc_calls_to_rest.nd rfl (by first | exact .inl rfl | exact .inr rfl))) (fun _ _ _ _ _ => t_nil) (fun _ _ _ _ _ => (x_cb u_len call_len_seq TX.len_ (x_var 1))))))))) sem
theorem sc_least_joining : FnScope ["web", "some", "few", "called"] ["web"] (defScope (top 49)) := ⟨rfl, rfl, rfl, by decide +kernel, rfl, by decide +kernel, by decide +kernel⟩
theorem ok_least_joining (TX : Txt mg) (F : FunD K "least_joining" "least_joining" (defArgs (top 49)) (defBody (top 49)) (defScope (top 49)) [] [] f fd) (hm : mg "least_joining" = some (.ref f)) (G_need_web : Cal P w K mg base 3 "need_web" ["web"] (toSp T K sp_need_web)) (G_joining_in : Cal P w K mg base 4 "joining_in" ["web"] (toSp T K sp_joining_in))
    (sem : ∀ ws R, sp_least_joining ws R → t_least_joining { nx := fun _ => R (.d .none), rt := R } (startR ["web", "some", "few", "called"] ws)) (hl : ∀ ws R, sp_least_joining ws R → ws.length = 1) : Cal P w K mg base 5 "least_joining" ["web"] (toSp T K sp_least_joining) :=
  d_fn (t := t_least_joining) F hm sc_least_joining (fun _ _ _ _ _ _ us hl => match us, hl with | [_], _ => rfl) hl (fun cdv A outer s H E hr =>
      (s_cons (s_expr (x_call G_need_web hr (a_cons (x_var 0) a_nil)))
      (s_cons (s_set 1 sc_least_joining.nd (x_call G_joining_in hr (a_cons (x_var 0) a_nil)))
      (s_cons (s_set 2 sc_least_joining.nd (x_cb u_min (cr_minD rfl hr.units) TX.min_ (x_lc (own := [(PySem.Str.ofString "called", 3)]) (g_name 3) (gw_name (by decide : 3 ∈ [3])) sc_least_joining.nd (i_list (x_var 1)) (blkOk_by (own := [(PySem.Str.ofString "called", 3)]) (by kernel_rfl)) (fun _ _ _ _ _ => (pg_name (i := 3) sc_least_joining.nd rfl (by first | exact .inl rfl | exact .inr rfl))) (fun _ _ _ _ _ => t_nil) (fun _ _ _ _ _ => (x_cb u_len call_len_seq TX.len_ (x_var 3))))))
      (s_one (s_ret (x_lc (own := [(PySem.Str.ofString "called", 3)]) (g_name 3) (gw_name (by decide : 3 ∈ [3])) sc_least_joining.nd (i_list (x_var 1)) (blkOk_by (own := [(PySem.Str.ofString "called", 3)]) (by kernel_rfl)) (fun _ _ _ _ _ => (pg_name (i := 3) sc_least_joining.nd rfl (by first | exact .inl rfl | exact .inr rfl))) (fun _ _ _ _ _ => (pts_one (b_cmp o_eq (op_eqD hr.units) (x_cb u_len call_len_seq TX.len_ (x_var 3)) (x_var 2)))) (fun _ _ _ _ _ => (x_var 3))))))))) sem
theorem sc_ruled_row : FnScope ["web", "rule"] ["web", "rule"] (defScope (top 58)) := ⟨rfl, rfl, rfl, by decide +kernel, rfl, by decide +kernel, by decide +kernel⟩
theorem ok_ruled_row (TX : Txt mg) (F : FunD K "ruled_row" "ruled_row" (defArgs (top 58)) (defBody (top 58)) (defScope (top 58)) [] [] f fd) (hm : mg "ruled_row" = some (.ref f)) (G_need_web : Cal P w K mg base 3 "need_web" ["web"] (toSp T K sp_need_web)) (G_need_rule : Cal P w K mg base 1 "need_rule" ["rule"] (toSp T K sp_need_rule)) (G_row_in : Cal P w K mg base 4 "row_in" ["web", "rule"] (toSp T K sp_row_in))
    (sem : ∀ ws R, sp_ruled_row ws R → t_ruled_row { nx := fun _ => R (.d .none), rt := R } (startR ["web", "rule"] ws)) (hl : ∀ ws R, sp_ruled_row ws R → ws.length = 2) : Cal P w K mg base 5 "ruled_row" ["web", "rule"] (toSp T K sp_ruled_row) :=
  d_fn (t := t_ruled_row) F hm sc_ruled_row (fun _ _ _ _ _ _ us hl => match us, hl with | [_, _], _ => rfl) hl (fun cdv A outer s H E hr =>
      (s_cons (s_expr (x_call G_need_web hr (a_cons (x_var 0) a_nil)))
      (s_cons (s_expr (x_call G_need_rule hr (a_cons (x_var 1) a_nil)))
      (s_one (s_ret (x_ct u_tuple call_tuple_of TX.tuple_ (x_call G_row_in hr (a_cons (x_var 0) (a_cons (x_var 1) a_nil))))))))) sem
theorem sc_rule_lengths : FnScope ["web", "rule"] ["web"] (defScope (top 59)) := ⟨rfl, rfl, rfl, by decide +kernel, rfl, by decide +kernel, by decide +kernel⟩
theorem ok_rule_lengths (TX : Txt mg) (F : FunD K "rule_lengths" "rule_lengths" (defArgs (top 59)) (defBody (top 59)) (defScope (top 59)) [] [] f fd) (hm : mg "rule_lengths" = some (.ref f)) {aR : Addr} (hR : Rul mg K aR) (G_need_web : Cal P w K mg base 3 "need_web" ["web"] (toSp T K sp_need_web)) (G_row_in : Cal P w K mg base 4 "row_in" ["web", "rule"] (toSp T K sp_row_in))
    (sem : ∀ ws R, sp_rule_lengths ws R → t_rule_lengths { nx := fun _ => R (.d .none), rt := R } (startR ["web", "rule"] ws)) (hl : ∀ ws R, sp_rule_lengths ws R → ws.length = 1) : Cal P w K mg base 5 "rule_lengths" ["web"] (toSp T K sp_rule_lengths) :=
  d_fn (t := t_rule_lengths) F hm sc_rule_lengths (fun _ _ _ _ _ _ us hl => match us, hl with | [_], _ => rfl) hl (fun cdv A outer s H E hr =>
      (s_cons (s_expr (x_call G_need_web hr (a_cons (x_var 0) a_nil)))
      (s_one (s_ret (x_ct u_tuple call_tuple_of TX.tuple_ (x_lc (own := [(PySem.Str.ofString "rule", 1)]) (g_name 1) (gw_name (by decide : 1 ∈ [1])) sc_rule_lengths.nd (i_list (x_cb u_sorted (cr_sortD hr.units) TX.sorted_ (x_gtup hR.m hR.d rulesD_imm))) (blkOk_by (own := [(PySem.Str.ofString "rule", 1)]) (by kernel_rfl)) (fun _ _ _ _ _ => (pg_name (i := 1) sc_rule_lengths.nd rfl (by first | exact .inl rfl | exact .inr rfl))) (fun _ _ _ _ _ => t_nil) (fun _ _ _ _ _ => (x_tup (a_cons (x_var 1) (a_cons (x_cb u_len call_len_seq TX.len_ (x_call G_row_in hr (a_cons (x_var 0) (a_cons (x_var 1) a_nil)))) a_nil)))))))))) sem
theorem sc_best_rule : FnScope ["web", "rule"] ["web"] (defScope (top 60)) := ⟨rfl, rfl, rfl, by decide +kernel, rfl, by decide +kernel, by decide +kernel⟩
theorem ok_best_rule (TX : Txt mg) (F : FunD K "best_rule" "best_rule" (defArgs (top 60)) (defBody (top 60)) (defScope (top 60)) [] [] f fd) (hm : mg "best_rule" = some (.ref f)) {aR : Addr} (hR : Rul mg K aR) (G_need_web : Cal P w K mg base 3 "need_web" ["web"] (toSp T K sp_need_web)) (G_row_in : Cal P w K mg base 4 "row_in" ["web", "rule"] (toSp T K sp_row_in))
    (sem : ∀ ws R, sp_best_rule ws R → t_best_rule { nx := fun _ => R (.d .none), rt := R } (startR ["web", "rule"] ws)) (hl : ∀ ws R, sp_best_rule ws R → ws.length = 1) : Cal P w K mg base 5 "best_rule" ["web"] (toSp T K sp_best_rule) :=
  d_fn (t := t_best_rule) F hm sc_best_rule (fun _ _ _ _ _ _ us hl => match us, hl with | [_], _ => rfl) hl (fun cdv A outer s H E hr =>
      (s_cons (s_expr (x_call G_need_web hr (a_cons (x_var 0) a_nil)))
      (s_one (s_ret (x_cb u_min (cr_minD rfl hr.units) TX.min_ (x_lc (own := [(PySem.Str.ofString "rule", 1)]) (g_name 1) (gw_name (by decide : 1 ∈ [1])) sc_best_rule.nd (i_list (x_cb u_sorted (cr_sortD hr.units) TX.sorted_ (x_gtup hR.m hR.d rulesD_imm))) (blkOk_by (own := [(PySem.Str.ofString "rule", 1)]) (by kernel_rfl)) (fun _ _ _ _ _ => (pg_name (i := 1) sc_best_rule.nd rfl (by first | exact .inl rfl | exact .inr rfl))) (fun _ _ _ _ _ => t_nil) (fun _ _ _ _ _ => (x_tup (a_cons (x_cb u_len call_len_seq TX.len_ (x_call G_row_in hr (a_cons (x_var 0) (a_cons (x_var 1) a_nil)))) (a_cons (x_var 1) a_nil)))))))))) sem
end Wk

/-! part HL -/
set_option Elab.async false
set_option linter.all false
set_option maxRecDepth 100000
set_option maxHeartbeats 4000000
namespace Wk
open PySem PySem.Spec PyProof.Rows L2 Dw Gg
/-! ### a list of one's own lists, or of one's own dicts -/
def CellO (o : HO) : Prop := (∃ xs, o = .lst xs) ∨ ∃ kvs, o = .dK kvs
/-- how a row stands in its cell -/
structure RowE where
  is : HO → List Nat → Prop
  nt : ∀ o r, is o r → CellO o
def eL : RowE := ⟨fun o r => o = .lst (r.map fun (k : Nat) => V.int (k : Int)), fun o r h => .inl ⟨_, h⟩⟩
section
variable {T : List NdefX.NTab} {K : PySem.W.Frag}
theorem tabs_cell {H : Hp} {p : Addr} {o0 o : HO} (hc : CellO o0) (h : H p = some o0) (t : NdefX.TabsN T H) : NdefX.TabsN T (upd H p o) := fun q hq => by
  obtain ⟨ps, hP, tr, hcv⟩ := t q hq
  have n1 : ∀ b o', H b = some o' → ¬ CellO o' → b ≠ p := fun b o' hb hn e => by
    subst e
    rw [h] at hb
    cases hb
    exact hn hc
  refine ⟨ps, ?_, tr, fun pos cv e => ?_⟩
  · rw [upd_ne (n1 _ _ hP fun z => by rcases z with ⟨_, z⟩ | ⟨_, z⟩ <;> cases z)]
    exact hP
  · obtain ⟨c, e1, e2⟩ := hcv pos cv e
    refine ⟨c, e1, ?_⟩
    rw [upd_ne (n1 _ _ e2 fun z => by rcases z with ⟨_, z⟩ | ⟨_, z⟩ <;> cases z)]
    exact e2
theorem ext_cell {H H' : Hp} {p : Addr} {o0 o : HO} (hc : CellO o0) (e : Ext T H H') (h : H p = none) (hl : H' p = some o0) : Ext T H (upd H' p o) := by
  refine ⟨fun a u ha n => ?_, fun a ha => ?_, fun t => tabs_cell hc hl (e.tb t)⟩
  · rw [upd_ne (ne_of_none ha h)]
    exact e.kp a u ha n
  · by_cases q : a = p
    · rw [q]
      exact h
    · rw [upd_ne q] at ha
      exact e.dm a ha
theorem cell_ext {H H' : Hp} {p : Addr} {o : HO} (hc : CellO o) (e : Ext T H H') (h : H p = some o) : H' p = some o := e.kp p o h fun ps z => by
  subst z
  rcases hc with ⟨_, z⟩ | ⟨_, z⟩ <;> cases z
structure Nest (T : List NdefX.NTab) (E : RowE) (H0 H : Hp) (D : Addr) (as : List Addr) (rows : List (List Nat)) : Prop where
  ex : Ext T H0 H
  d0 : H0 D = none
  hd : H D = some (.lst (as.map V.ref))
  nd : as.Nodup
  ln : as.length = rows.length
  at_ : ∀ (k : Nat) (a : Addr), as[k]? = some a → H0 a = none ∧ a ≠ D ∧ ∃ o r, rows[k]? = some r ∧ H a = some o ∧ E.is o r
variable {E : RowE} {H0 H H' : Hp} {D p : Addr} {as : List Addr} {rows : List (List Nat)}
theorem Nest.ext (N : Nest T E H0 H D as rows) (e : Ext T H H') : Nest T E H0 H' D as rows := by
  refine ⟨N.ex.trans e, N.d0, e.lst N.hd, N.nd, N.ln, fun k a h => ?_⟩
  obtain ⟨h1, h2, o, r, h3, h4, h5⟩ := N.at_ k a h
  exact ⟨h1, h2, o, r, h3, cell_ext (E.nt o r h5) e h4, h5⟩
theorem Nest.base {H1 : Hp} (N : Nest T E H1 H D as rows) (e : Ext T H0 H1) : Nest T E H0 H D as rows := ⟨e.trans N.ex, e.dm _ N.d0, N.hd, N.nd, N.ln, fun k a h => let ⟨h1, h2⟩ := N.at_ k a h; ⟨e.dm _ h1, h2⟩⟩
theorem Nest.start {o : HO} (hp : H p = none) (e : Ext T H0 H) : Nest T E H0 (upd H p (.lst [])) p [] [] := ⟨e.trans (Ext.new hp), e.dm p hp, upd_same, List.nodup_nil, rfl, fun k a h => by simp at h⟩
/-- one more, new row -/
theorem Nest.add {o : HO} {r : List Nat} (N : Nest T E H0 H D as rows) (hp : H p = none) (ho : E.is o r) : Nest T E H0 (upd (upd H p o) D (.lst (as.map V.ref ++ [V.ref p]))) D (as ++ [p]) (rows ++ [r]) := by
  have e1 : Ext T H0 (upd H p o) := N.ex.trans (Ext.new hp)
  have pD : p ≠ D := fun z => by
    subst z
    rw [N.hd] at hp
    cases hp
  have hD : (upd H p o) D = some (.lst (as.map V.ref)) := by
    rw [upd_ne (Ne.symm pD)]
    exact N.hd
  have pas : p ∉ as := fun z => by
    obtain ⟨k, hk, e⟩ := List.getElem_of_mem z
    obtain ⟨_, _, o', _, _, h4, _⟩ := N.at_ k p (by rw [List.getElem?_eq_getElem hk, e])
    rw [hp] at h4
    cases h4
  refine ⟨e1.mut N.d0 hD, N.d0, ?_, ?_, by rw [List.length_append, List.length_append, N.ln]; rfl, fun k a h => ?_⟩
  · rw [upd_same, List.map_append]
    rfl
  · rw [List.nodup_append]
    exact ⟨N.nd, by simp, fun a ha b hb => by rw [List.mem_singleton.mp hb]; exact fun z => pas (z ▸ ha)⟩
  · rcases Nat.lt_or_ge k as.length with hk | hk
    · rw [List.getElem?_append_left hk] at h
      obtain ⟨h1, h2, o', r', h3, h4, h5⟩ := N.at_ k a h
      refine ⟨h1, h2, o', r', ?_, ?_, h5⟩
      · rw [List.getElem?_append_left (by rw [← N.ln]; exact hk)]
        exact h3
      · rw [upd_ne h2, upd_ne (fun z => by subst z; rw [hp] at h4; cases h4)]
        exact h4
    · rw [List.getElem?_append_right hk] at h
      have hk0 : k - as.length = 0 := by
        cases q : k - as.length with
        | zero => rfl
        | succ m =>
          rw [q] at h
          simp at h
      rw [hk0] at h
      have e : p = a := Option.some.inj h
      subst e
      refine ⟨N.ex.dm _ hp, pD, o, r, ?_, ?_, ho⟩
      · rw [List.getElem?_append_right (by rw [← N.ln]; exact hk), ← N.ln, hk0]
        rfl
      · rw [upd_ne pD, upd_same]
/-- a row changes -/
theorem Nest.put {o : HO} {r : List Nat} {k : Nat} {a : Addr} (N : Nest T E H0 H D as rows) (ha : as[k]? = some a) (ho : E.is o r) : Nest T E H0 (upd H a o) D as (rows.set k r) := by
  obtain ⟨h1, h2, o1, r1, h3, h4, h5⟩ := N.at_ k a ha
  have c1 := E.nt _ _ h5
  refine ⟨ext_cell c1 N.ex h1 h4, N.d0, ?_, N.nd, by rw [List.length_set]; exact N.ln, fun j b hb => ?_⟩
  · rw [upd_ne (Ne.symm h2)]
    exact N.hd
  · obtain ⟨g1, g2, o2, r2, g3, g4, g5⟩ := N.at_ j b hb
    by_cases q : j = k
    · subst q
      rw [ha] at hb
      cases hb
      refine ⟨h1, h2, o, r, ?_, upd_same, ho⟩
      rw [List.getElem?_set, if_pos rfl, if_pos (List.getElem?_eq_some_iff.mp h3).1]
    · have ne : b ≠ a := fun z => by
        subst z
        have := (List.getElem?_inj (List.getElem?_eq_some_iff.mp hb).1 N.nd).mp (by rw [hb, ha] : as[j]? = as[k]?)
        exact q this
      refine ⟨g1, g2, o2, r2, ?_, ?_, g5⟩
      · rw [List.getElem?_set, if_neg (fun z => q z.symm)]
        exact g3
      · rw [upd_ne ne]
        exact g4
/-- what the rows hold behind the pairs -/
def RowsOf (n : Nat) (qs : List (Nat × Nat)) (rows : List (List Nat)) : Prop := rows.length = n ∧ ∀ (k : Nat) (r : List Nat), rows[k]? = some r → (∀ x, x ∈ r ↔ (k, x) ∈ qs ∨ (x, k) ∈ qs) ∧ r.length ≤ 2 * qs.length
/-- how one row takes one more -/
def addR (E : RowE) (x : Nat) (r r' : List Nat) : Prop := (∀ y, y ∈ r' ↔ y ∈ r ∨ y = x) ∧ r'.length ≤ r.length + 1
theorem RowsOf.two {n : Nat} {qs : List (Nat × Nat)} {rows rows1 : List (List Nat)} {a b : Nat} {r r' s s' : List Nat} (h : RowsOf n qs rows) (ha : rows[a]? = some r) (h1 : addR E b r r') (e1 : rows1 = rows.set a r') (hb : rows1[b]? = some s) (h2 : addR E a s s') : RowsOf n (qs ++ [(a, b)]) (rows1.set b s') := by
  subst e1
  refine ⟨by rw [List.length_set, List.length_set]; exact h.1, fun k t ht => ?_⟩
  have la := (List.getElem?_eq_some_iff.mp ha).1
  have one : ∀ k t, (rows.set a r')[k]? = some t → (∀ x, x ∈ t ↔ ((k, x) ∈ qs ∨ (x, k) ∈ qs) ∨ (k = a ∧ x = b)) ∧ t.length ≤ 2 * qs.length + 1 := fun k t ht => by
    rcases set_at ht with ⟨rfl, rfl, _⟩ | ⟨ne, ht⟩
    · obtain ⟨m, l⟩ := h.2 a r ha
      refine ⟨fun x => ?_, by have := h1.2; omega⟩
      rw [h1.1, m]
      simp
    · obtain ⟨m, l⟩ := h.2 k t ht
      refine ⟨fun x => ?_, by omega⟩
      rw [m]
      constructor
      · exact .inl
      · rintro (q | ⟨q, _⟩)
        · exact q
        · exact absurd q.symm ne
  have two : (∀ x, x ∈ t ↔ (((k, x) ∈ qs ∨ (x, k) ∈ qs) ∨ (k = a ∧ x = b)) ∨ (k = b ∧ x = a)) ∧ t.length ≤ 2 * qs.length + 2 := by
    rcases set_at ht with ⟨rfl, rfl, _⟩ | ⟨ne, ht⟩
    · obtain ⟨m, l⟩ := one b s hb
      refine ⟨fun x => ?_, by have := h2.2; omega⟩
      rw [h2.1, m]
      simp
    · obtain ⟨m, l⟩ := one k t ht
      refine ⟨fun x => ?_, by omega⟩
      rw [m]
      constructor
      · exact .inl
      · rintro (q | ⟨q, _⟩)
        · exact q
        · exact absurd q.symm ne
  refine ⟨fun x => ?_, ?_⟩
  · rw [two.1]
    simp only [List.mem_append, List.mem_singleton, Prod.mk.injEq]
    constructor
    · rintro (((q | q) | ⟨q, r⟩) | ⟨q, r⟩)
      · exact .inl (.inl q)
      · exact .inr (.inl q)
      · exact .inl (.inr ⟨q, r⟩)
      · exact .inr (.inr ⟨r, q⟩)
    · rintro ((q | ⟨q, r⟩) | (q | ⟨q, r⟩))
      · exact .inl (.inl (.inl q))
      · exact .inl (.inr ⟨q, r⟩)
      · exact .inl (.inl (.inr q))
      · exact .inr ⟨r, q⟩
  · rw [List.length_append, List.length_singleton]
    have := two.2
    omega
theorem RowsOf.none (n : Nat) : RowsOf n [] (List.replicate n []) := by
  refine ⟨List.length_replicate, fun k r h => ?_⟩
  rw [List.getElem?_replicate] at h
  split at h
  · cases h
    simp
  · cases h
end
end Wk

/-! part HM -/
set_option Elab.async false
set_option linter.all false
set_option maxRecDepth 100000
set_option maxHeartbeats 4000000
namespace Wk
open PySem PySem.Spec PyProof.Rows L2 Dw Gg
section
variable {T : List NdefX.NTab} {K : PySem.W.Frag} {E : RowE}
abbrev vN (k : Nat) : V := .int (k : Int)
/-- [a new cell for _ in range(..)] -/
def NewC (E : RowE) (te : TE) : Prop := ∀ (σ : L2.St) (H : Hp) (Q : VK), (∀ p o, H p = none → E.is o [] → Q (.ref p) (upd H p o)) → te σ H Q
/-- found[i] takes j -/
def StepC (T : List NdefX.NTab) (E : RowE) (t : TS) (i j : Nat) : Prop := ∀ (D : Ends) (σ : L2.St) (H0 H : Hp) (p : Addr) (as : List Addr) (rows : List (List Nat)) (a b : Nat) (r : List Nat), Nest T E H0 H p as rows → σ[2]? = some (some (.ref p)) → σ[i]? = some (some (vN a)) → σ[j]? = some (some (vN b)) →
  rows[a]? = some r → r.length ≤ 2000 → (∀ H' r', Nest T E H0 H' p as (rows.set a r') → addR E b r r' → D.nx σ H') → t D σ H
/-- the row, sorted -/
def EltC (T : List NdefX.NTab) (K : PySem.W.Frag) (E : RowE) (te : TE) : Prop := ∀ (σ : L2.St) (H : Hp) (Q : VK) (a : Addr) (o : HO) (r L : List Nat), NdefX.TabsN T H → σ[6]? = some (some (.ref a)) → σ.length = 7 → H a = some o → E.is o r → r.length ≤ 900 → L.length ≤ 60 → (∀ x ∈ r, x ∈ L) →
  (∀ v H2 S, S.Pairwise (· < ·) → (∀ x, x ∈ S ↔ x ∈ r) → Ext T H H2 → Dp K H2 v (tN S) → Q v H2) → te σ H Q
def T1 (T : List NdefX.NTab) (K : PySem.W.Frag) (te0 : TE) : TS := tAsg (tLc (canI T K (dRng1 (dVar 0))) (gName 5) tYes te0 [5]) (gName 2)
def T2 (K : PySem.W.Frag) (s1 s2 : TS) : TS := tFor (iList K (tVar 1)) (gTup K 2 (gCons (gName 3) (gCons (gName 4) gNil))) (tSeq s1 s2)
def T3 (K : PySem.W.Frag) (te : TE) : TS := tRet (tCB (fun xs H Q => ∃ p ys, xs = [.ref p] ∧ ((SqL K H p ys ∧ ∀ l, H l = none → Q (.ref l) (upd H l (.tup ys))) ∨ (SqT K H p ys ∧ Q (.ref p) H))) (tCons (tLc (iList K (tVar 2)) (gName 6) tYes te [6]) tNil))
variable {H0 H : Hp}
theorem t1_ok {te0 : TE} (hn : NewC E te0) {n : Nat} (h6 : n ≤ 1000) {S : Addr} {D : Ends} {w1 : W} (rep : RepS T K H H [some (vN n), some (.ref S), none, none, none, none, none] [some (.d (nI n), false), some (w1, false), none, none, none, none, none])
    (hk : ∀ H1 p as, Nest T E H H1 p as (List.replicate n []) → D.nx [some (vN n), some (.ref S), some (.ref p), none, none, none, none] H1) : T1 T K te0 D [some (vN n), some (.ref S), none, none, none, none, none] H := by
  refine ⟨H, _, fun xs _ => xs = rng 0 n, rep, ⟨.d (nI n), false, rfl, (n : Int), rfl, by omega, by rw [Int.toNat_natCast]⟩, fun J H1 xs _ e hxs hJ p hp => ?_⟩
  subst hxs
  have hJ1 : ItOk T K J H1 (rng 0 n) := by
    have h := hJ (fun _ => False) (fun _ z => z.elim) (fun _ _ z => z)
    rw [strip_none] at h
    exact h
  refine ⟨fun i m H' => m = n - i ∧ i ≤ n ∧ ∃ as, Nest T E H1 H' p as (List.replicate i []), ⟨_, rfl, Nat.zero_le _, [], Nest.start (o := .lst []) hp (Ext.refl _)⟩, ?_⟩
  rintro i m H' ⟨rfl, hi, as, N⟩
  have e1 : Ext T H1 H' := N.ex
  obtain ⟨jg, js, jy⟩ := hJ1 H' e1
  rw [rng_len] at jg js
  by_cases hlt : i < n
  · refine .inr ⟨jg i hlt, fun H2 => ∃ as, Nest T E H1 H2 p as (List.replicate (i + 1) []), fun H2 h2 => ⟨n - (i + 1), by omega, rfl, hlt, h2⟩, fun v H2 y => ?_⟩
    obtain ⟨e2, _, _⟩ := jy i _ v H2 (List.getElem?_eq_getElem (by rw [rng_len]; exact hlt)) y
    have N2 := N.ext e2
    refine ⟨rfl, ?_⟩
    simp only [tYes, if_true]
    refine hn _ _ _ fun q o hq ho => ?_
    have hD : (upd H2 q o) p = some (.lst (as.map V.ref)) := by
      rw [upd_ne (fun z => by subst z; rw [N2.hd] at hq; cases hq)]
      exact N2.hd
    refine ⟨_, hD, ?_, as ++ [q], ?_⟩
    · rw [List.length_map, N.ln, List.length_replicate]
      exact big_lt (by omega)
    · have := N2.add hq ho
      rw [List.replicate_succ']
      exact this
  · have ei : i = n := by omega
    subst ei
    exact .inl ⟨js, hk H' p as (N.base e)⟩
/-- the pairs are stored -/
theorem t2_ok {s1 s2 : TS} (h1 : StepC T E s1 3 4) (h2 : StepC T E s2 4 3) {n : Nat} {ps : List (Nat × Nat)} (hps : ∀ q ∈ ps, q.1 < n ∧ q.2 < n) (hl : ps.length ≤ 400) {S p : Addr} {D : Ends} {us : List V} {H1 : Hp} {as : List Addr}
    (hS : H S = some (.lst us)) (dS : DpAll K H us (prD ps)) (N : Nest T E H H1 p as (List.replicate n []))
    (hk : ∀ H2 rows o1 o2, Nest T E H H2 p as rows → RowsOf n ps rows → D.nx [some (vN n), some (.ref S), some (.ref p), o1, o2, none, none] H2) : T2 K s1 s2 D [some (vN n), some (.ref S), some (.ref p), none, none, none, none] H1 := by
  have im : immAll (prD ps) = true := immAll_map (fun q => rfl) ps
  have hS' : ∀ H', Ext T H H' → SqL K H' S us := fun H' e => .inl (.inl (e.lst hS))
  refine ⟨_, rfl, S, rfl, ⟨us, hS' H1 N.ex⟩, fun i m σ H' => m = ps.length - i ∧ i ≤ ps.length ∧ ∃ o1 o2 rows, σ = [some (vN n), some (.ref S), some (.ref p), o1, o2, none, none] ∧ Nest T E H H' p as rows ∧ RowsOf n (ps.take i) rows, ⟨_, rfl, Nat.zero_le _, none, none, _, rfl, N, RowsOf.none n⟩, ?_⟩
  rintro i m _ H' ⟨rfl, hi, o1, o2, rows, rfl, N', hr⟩
  obtain ⟨jg, js, jy⟩ := itl_ok (T := T) hS' dS im H' N'.ex
  rw [List.length_map] at jg js
  by_cases hlt : i < ps.length
  · refine .inr ⟨jg i hlt, fun σ2 H2 => ∃ o1 o2 rows, σ2 = [some (vN n), some (.ref S), some (.ref p), o1, o2, none, none] ∧ Nest T E H H2 p as rows ∧ RowsOf n (ps.take (i + 1)) rows, fun σ2 H2 h => ⟨ps.length - (i + 1), by omega, rfl, hlt, h⟩, fun v H2 y => ?_⟩
    have hx : (prD ps)[i]? = some (pD ps[i]) := by
      rw [List.getElem?_map, List.getElem?_eq_getElem hlt]
      rfl
    obtain ⟨e2, dv, _⟩ := jy i _ v H2 hx y
    have hq := hps ps[i] (List.getElem_mem hlt)
    have N2 := N'.ext e2
    cases dv with
    | @tup a vs _ hs ha =>
      cases ha with
      | @cons v1 _ _ _ d1 t =>
        cases t with
        | @cons v2 _ _ _ d2 t =>
          cases t
          cases d1
          cases d2
          refine ⟨a, _, rfl, hs, rfl, _, _, rfl, _, _, rfl, rfl, ?_⟩
          have la : ps[i].1 < rows.length := by rw [hr.1]; exact hq.1
          have lb : ps[i].2 < rows.length := by rw [hr.1]; exact hq.2
          have ra : rows[ps[i].1]? = some rows[ps[i].1] := List.getElem?_eq_getElem la
          have lt := List.length_take_le' i ps
          have bound : ∀ (k : Nat) (r : List Nat), rows[k]? = some r → r.length ≤ 800 := fun k r h => by
            have := (hr.2 k r h).2
            omega
          refine h1 _ _ H H2 p as rows ps[i].1 ps[i].2 _ N2 rfl rfl rfl ra (by have := bound _ _ ra; omega) fun H3 r' N3 hadd => ?_
          have lb2 : ps[i].2 < (rows.set ps[i].1 r').length := by rw [List.length_set]; exact lb
          have rb : (rows.set ps[i].1 r')[ps[i].2]? = some (rows.set ps[i].1 r')[ps[i].2] := List.getElem?_eq_getElem lb2
          refine h2 _ _ H H3 p as _ ps[i].2 ps[i].1 _ N3 rfl rfl rfl rb ?_ fun H4 s' N4 hadd2 => ?_
          · rcases set_at rb with ⟨_, e, _⟩ | ⟨_, e⟩
            · rw [← e]
              have := hadd.2
              have := bound _ _ ra
              omega
            · have := bound _ _ e
              omega
          · refine ⟨_, _, _, rfl, N4, ?_⟩
            have e : ps.take (i + 1) = ps.take i ++ [(ps[i].1, ps[i].2)] := by rw [List.take_succ_eq_append_getElem hlt]
            rw [e]
            exact hr.two ra hadd rfl rb hadd2
  · have ei : i = ps.length := by omega
    subst ei
    rw [List.take_length] at hr
    exact .inl ⟨js, hk H' rows o1 o2 N' hr⟩
/-- the web of the rows -/
theorem t3_ok {te : TE} (he : EltC T K E te) {n : Nat} (h1 : 1 ≤ n) (h6 : n ≤ 6) {ps : List (Nat × Nat)} (hps : ∀ q ∈ ps, q.1 < n ∧ q.2 < n ∧ q.1 ≠ q.2) (hl : ps.length ≤ 400) {S p : Addr} {D : Ends} {H2 : Hp} {as : List Addr} {rows : List (List Nat)} {o1 o2 : Option V}
    (tb : NdefX.TabsN T H) (N : Nest T E H H2 p as rows) (hr : RowsOf n ps rows) (hk : ∀ v H3, Ext T H H3 → RW K H3 v (.d (gD n (edgesG ps))) → D.rt v H3) : T3 K te D [some (vN n), some (.ref S), some (.ref p), o1, o2, none, none] H2 := by
  have hS' : ∀ H', H' p = some (.lst (as.map V.ref)) → SqL K H' p (as.map V.ref) := fun H' e => .inl (.inl e)
  have og : Ok n (edgesG ps) := Ok.edges h1 h6 hps
  have las : as.length = n := by rw [N.ln, hr.1]
  have rowS : ∀ (k : Nat) (r S : List Nat), rows[k]? = some r → S.Pairwise (· < ·) → (∀ x, x ∈ S ↔ x ∈ r) → k < n → S = frs n (edgesG ps) k := fun k r S hk hs hm lk => by
    refine sorted_ext hs ((range_lt n).filter _) fun x => ?_
    rw [hm, (hr.2 k r hk).1, mem_frs, edges_at]
    constructor
    · intro q
      refine ⟨?_, q⟩
      rcases q with q | q
      · exact (hps _ q).2.1
      · exact (hps _ q).1
    · exact fun q => q.2
  refine ⟨_, rfl, p, rfl, ⟨as.map V.ref, hS' H2 N.hd⟩, fun D2 hD2 => ?_⟩
  refine ⟨fun i m H' => m = n - i ∧ i ≤ n ∧ ∃ vs, Nest T E H H' p as rows ∧ H2 D2 = none ∧ Ext T H2 H' ∧ H' D2 = some (.lst vs) ∧ DpAll K H' vs ((gDs n (edgesG ps)).take i), ⟨_, rfl, Nat.zero_le _, [], N.ext (Ext.new hD2), hD2, Ext.new hD2, upd_same, .nil⟩, ?_⟩
  rintro i m H' ⟨rfl, hi, vs, N', _, e2', hD, dv⟩
  by_cases hlt : i < n
  · have hai : as[i]? = some as[i] := List.getElem?_eq_getElem (by omega)
    refine .inr ⟨⟨as.map V.ref, .ref as[i], hS' H' N'.hd, by rw [List.getElem?_map, hai]; rfl⟩, fun H3 => ∃ vs, Nest T E H H3 p as rows ∧ H2 D2 = none ∧ Ext T H2 H3 ∧ H3 D2 = some (.lst vs) ∧ DpAll K H3 vs ((gDs n (edgesG ps)).take (i + 1)), fun H3 h3 => ⟨n - (i + 1), by omega, rfl, hlt, h3⟩, fun v H3 y => ?_⟩
    obtain ⟨rfl, hy⟩ := y
    have hv := hy _ (hS' _ N'.hd)
    rw [List.getElem?_map, hai] at hv
    have hv2 : v = .ref as[i] := (Option.some.inj hv).symm
    subst hv2
    obtain ⟨_, hap, o, r, hr1, ho, hor⟩ := N'.at_ i _ hai
    refine ⟨rfl, ?_⟩
    simp only [tYes, if_true]
    have hrr := hr.2 i r hr1
    refine he _ H3 _ as[i] o r (List.range n) (N'.ex.tb tb) rfl rfl ho hor (by have := hrr.2; omega) (by rw [List.length_range]; omega) (fun x hx => ?_) fun u H4 Sx hs hm e4 du => ?_
    · rcases (hrr.1 x).mp hx with q | q
      · exact List.mem_range.mpr (hps _ q).2.1
      · exact List.mem_range.mpr (hps _ q).1
    · have e5 := rowS i r Sx hr1 hs hm hlt
      subst e5
      have hD4 := e4.lst hD
      have lvs := DpAll.length dv
      rw [List.length_take, gDs_len] at lvs
      refine ⟨vs, hD4, big_lt (by omega), vs ++ [u], ?_, hD2, (e2'.trans e4).mut hD2 hD4, upd_same, ?_⟩
      · have N4 := N'.ext e4
        have ne : p ≠ D2 := fun z => by
          subst z
          rw [N.hd] at hD2
          cases hD2
        refine ⟨N4.ex.mut (N.ex.dm _ hD2) hD4, N4.d0, by rw [upd_ne ne]; exact N4.hd, N4.nd, N4.ln, fun k a hk => ?_⟩
        obtain ⟨g1, g2, o', r', g3, g4, g5⟩ := N4.at_ k a hk
        refine ⟨g1, g2, o', r', g3, ?_, g5⟩
        rw [upd_ne fun z => ?_]
        · exact g4
        · subst z
          obtain ⟨_, _, o'', _, _, g6, _⟩ := N.at_ k _ hk
          rw [hD2] at g6
          cases g6
      · have tu : TupE K H4 (upd H4 D2 (.lst (vs ++ [u]))) := tupE_lst hD4
        have et : (gDs n (edgesG ps)).take (i + 1) = (gDs n (edgesG ps)).take i ++ [tN (frs n (edgesG ps) i)] := by
          rw [List.take_succ_eq_append_getElem (by rw [gDs_len]; exact hlt)]
          congr 2
          exact (gDs_at (List.getElem?_eq_getElem (by rw [gDs_len]; exact hlt))).2
        have im : immAll ((gDs n (edgesG ps)).take (i + 1)) = true := immAll_iff.mpr fun x hx => by
          obtain ⟨k, _, rfl⟩ := List.mem_map.mp (List.mem_of_mem_take hx)
          exact immAll_map (fun _ => rfl) _
        have im0 : immAll ((gDs n (edgesG ps)).take i) = true := immAll_iff.mpr fun x hx => by
          obtain ⟨k, _, rfl⟩ := List.mem_map.mp (List.mem_of_mem_take hx)
          exact immAll_map (fun _ => rfl) _
        refine DpAll.tups tu _ _ im ?_
        rw [et]
        exact DpAll.append (DpAll.tups e4.tupE _ _ im0 dv) (.cons du .nil)
  · have ei : i = n := by omega
    subst ei
    have tk : (gDs i (edgesG ps)).take i = gDs i (edgesG ps) := List.take_of_length_le (by rw [gDs_len]; exact Nat.le_refl _)
    rw [tk] at dv
    refine .inl ⟨⟨as.map V.ref, hS' H' N'.hd, by rw [List.length_map, las]; exact Nat.le_refl _⟩, D2, vs, rfl, .inl ⟨.inl (.inl hD), fun l hl => ?_⟩⟩
    have img : immAll (gDs i (edgesG ps)) = true := immAll_iff.mpr fun x hx => by
      obtain ⟨k, _, rfl⟩ := List.mem_map.mp hx
      exact immAll_map (fun _ => rfl) _
    refine hk _ _ (N'.ex.trans (Ext.new hl)) ⟨img, ?_⟩
    exact .tup (.inl (.inl upd_same)) (DpAll.tups (Ext.new (T := T) hl).tupE _ _ img dv)
end
end Wk

/-! part HN -/
set_option Elab.async false
set_option linter.all false
set_option maxRecDepth 100000
set_option maxHeartbeats 4000000
namespace Wk
open PySem PySem.Spec PyProof.Rows L2 Dw Gg Ik
section
variable {T : List NdefX.NTab} {K : PySem.W.Frag}
theorem newL : NewC eL (tLst tNil) := fun σ H Q h => ⟨Nat.zero_le _, fun p hp => h p _ hp rfl⟩
theorem dpAll_nis {H : Hp} (l : List Nat) : DpAll K H (l.map fun (k : Nat) => vN k) (nis l) := by
  have h := dpAll_ints (K := K) (H := H) (up l)
  rw [← nis_up] at h
  have e : (up l).map V.int = l.map fun (k : Nat) => vN k := by
    show (l.map _).map _ = _
    rw [List.map_map]
    rfl
  rw [e] at h
  exact h
theorem imm_nis (l : List Nat) : immAll (nis l) = true := immAll_map (fun _ => rfl) l
theorem nest_ix {E : RowE} {H0 H : Hp} {p : Addr} {as : List Addr} {rows : List (List Nat)} {a : Nat} {r : List Nat} (N : Nest T E H0 H p as rows) (h : rows[a]? = some r) : ∃ c o, as[a]? = some c ∧ (as.map V.ref)[a]? = some (.ref c) ∧ H c = some o ∧ E.is o r := by
  have la : a < as.length := by rw [N.ln]; exact (List.getElem?_eq_some_iff.mp h).1
  have hc : as[a]? = some as[a] := List.getElem?_eq_getElem la
  obtain ⟨_, _, o, r', h3, h4, h5⟩ := N.at_ a _ hc
  rw [h] at h3
  cases h3
  exact ⟨_, o, hc, by rw [List.getElem?_map, hc]; rfl, h4, h5⟩
theorem stepL (i j : Nat) : StepC T eL (tDrop (tBM K "list" rAppend (tOp (rIxL K) (tVar 2) (tVar i)) (tCons (tVar j) tNil))) i j := fun D σ H0 H p as rows a b r N h2 hi hj hr hl k => by
  obtain ⟨c, o, hc, hv, ho, rfl⟩ := nest_ix N hr
  refine ⟨_, h2, _, hi, p, _, (a : Int), .ref c, rfl, rfl, .inl (.inl N.hd), atI_nat hv, .inl ⟨rfl, _, .inl (.inl ho)⟩, _, hj, c, _, vN b, rfl, rfl, ho, by rw [List.length_map]; exact big_lt (by omega), ?_⟩
  refine k _ (r ++ [b]) (N.put hc (by show HO.lst _ = HO.lst _; simp)) ⟨fun y => by simp, by simp⟩
theorem eltL : EltC T K eL (can T K (dU fTuple (dU fSortSet (dVar 6)))) := fun σ H Q a o r L tb h6 hlen ho hor hl hL hs k => by
  subst hor
  have rw6 : RW K H (.ref a) (.l (nis r)) := ⟨a, _, rfl, ho, dpAll_nis r, imm_nis r⟩
  have rep : RepS T K H H σ [none, none, none, none, none, none, some (.l (nis r), false)] := by
    refine ⟨Ext.refl _, tb, by rw [hlen]; rfl, fun i w o e => ?_, fun i j xs ys p e1 e2 _ _ => ?_⟩
    · match i, e with
      | 6, e =>
        cases e
        exact ⟨.ref a, h6, rw6, fun _ => ⟨fun z => (nomatch z), fun _ => rw6⟩⟩
    · match i, e1 with
      | 6, e1 => cases e1
  refine ⟨H, _, fun w _ => ∃ S : List Nat, S.Pairwise (· < ·) ∧ (∀ x, x ∈ S ↔ x ∈ r) ∧ w = .d (tN S), rep, ⟨.l (nis r), false, rfl, up r, .inl (by rw [nis_up]), by simp only [List.length_map]; omega, ⟨up L, by simp only [List.length_map]; omega, fun x hx => ?_⟩, fun ns h1 h2 => ?_⟩, fun v H2 w n e rw' _ ⟨S, h1, h2, ew⟩ => ?_⟩
  · obtain ⟨y, hy, rfl⟩ := List.mem_map.mp hx
    exact List.mem_map.mpr ⟨y, hs y hy, rfl⟩
  · have hns : ns = up (ns.map Int.toNat) := by
      show _ = (ns.map _).map _
      rw [List.map_map]
      conv => lhs; rw [← List.map_id ns]
      refine List.map_congr_left fun x hx => ?_
      obtain ⟨y, _, rfl⟩ := List.mem_map.mp ((h2 x).mp hx)
      simp
    refine ⟨ns.map Int.toNat, ?_, fun x => ?_, ?_⟩
    · rw [hns] at h1
      have h1 : ((ns.map Int.toNat).map fun (k : Nat) => (k : Int)).Pairwise (· < ·) := h1
      rw [List.pairwise_map] at h1
      exact h1.imp fun h => by omega
    · constructor
      · intro hx
        obtain ⟨z, hz, rfl⟩ := List.mem_map.mp hx
        obtain ⟨y, hy, rfl⟩ := List.mem_map.mp ((h2 z).mp hz)
        simpa using hy
      · intro hx
        exact List.mem_map.mpr ⟨(x : Int), (h2 _).mpr (List.mem_map.mpr ⟨x, hx, rfl⟩), by simp⟩
    · show W.d (.tuple (ns.map .int)) = _
      rw [tN_up, ← hns]
  · subst ew
    exact k v H2 S h1 h2 e rw'.2
/-! dicts -/
def eD : RowE := ⟨fun o r => r.Nodup ∧ ∃ kvs : List (Key × V), o = .dK kvs ∧ kvs.map (·.1) = r.map fun (k : Nat) => (.inl (k : Int) : Key), fun o r ⟨_, kvs, h, _⟩ => .inr ⟨kvs, h⟩⟩
theorem newD : NewC eD tDNewK := fun σ H Q h p hp => h p _ hp ⟨List.nodup_nil, [], rfl, rfl⟩
theorem putK_old {kvs : List (Key × V)} {k : Key} (v : V) (h : k ∈ kvs.map (·.1)) : (putK kvs k v).map (·.1) = kvs.map (·.1) := by
  unfold putK
  obtain ⟨kv, hkv, e⟩ := List.mem_map.mp h
  have ha : (kvs.any fun kv => decide (kv.1 = k)) = true := List.any_eq_true.mpr ⟨kv, hkv, decide_eq_true e⟩
  rw [if_pos ha, List.map_map]
  refine List.map_congr_left fun x _ => ?_
  show (if x.1 = k then (x.1, v) else x).1 = x.1
  split <;> rfl
theorem putK_add {kvs : List (Key × V)} {k : Key} (v : V) (h : k ∉ kvs.map (·.1)) : (putK kvs k v).map (·.1) = kvs.map (·.1) ++ [k] := by
  unfold putK
  have ha : ¬ (kvs.any fun kv => decide (kv.1 = k)) = true := fun z => by
    obtain ⟨kv, hkv, e⟩ := List.any_eq_true.mp z
    exact h (List.mem_map.mpr ⟨kv, hkv, of_decide_eq_true e⟩)
  rw [if_neg ha, List.map_append]
  rfl
theorem stepD (i j : Nat) : StepC T eD (sDPut (tOp (rIxL K) (tVar 2) (tVar i)) (tVar j) (tC (.bl true))) i j := fun D σ H0 H p as rows a b r N h2 hi hj hr hl k => by
  obtain ⟨c, o, hc, hv, ho, nd, kvs, rfl, hk⟩ := nest_ix N hr
  have lk : kvs.length = r.length := by
    have := congrArg List.length hk
    rwa [List.length_map, List.length_map] at this
  have hmem : (.inl (b : Int) : Key) ∈ kvs.map (·.1) ↔ b ∈ r := by
    rw [hk]
    constructor
    · intro h
      obtain ⟨y, hy, e⟩ := List.mem_map.mp h
      injection e with e
      have : y = b := by omega
      exact this ▸ hy
    · exact fun h => List.mem_map.mpr ⟨b, h, rfl⟩
  refine ⟨_, h2, _, hi, p, _, (a : Int), .ref c, rfl, rfl, .inl (.inl N.hd), atI_nat hv, _, hj, c, _, rfl, DPut.k (k := .inl (b : Int)) ho (by rw [lk]; exact big_lt (by omega)), ?_⟩
  by_cases hb : b ∈ r
  · refine k _ r (N.put hc ⟨nd, _, rfl, ?_⟩) ⟨fun y => ?_, by omega⟩
    · rw [putK_old _ (hmem.mpr hb)]
      exact hk
    · exact ⟨.inl, fun h => h.elim id fun e => e ▸ hb⟩
  · refine k _ (r ++ [b]) (N.put hc ⟨?_, _, rfl, ?_⟩) ⟨fun y => by simp, by simp⟩
    · rw [List.nodup_append]
      exact ⟨nd, by simp, fun x hx y hy => by rw [List.mem_singleton.mp hy]; exact fun z => hb (z ▸ hx)⟩
    · rw [putK_add _ fun z => hb (hmem.mp z), hk, List.map_append]
      rfl
def rTupA (K : PySem.W.Frag) : List V → Hp → VK → Prop := fun xs H Q => ∃ p ys, xs = [.ref p] ∧ ((SqL K H p ys ∧ ∀ l, H l = none → Q (.ref l) (upd H l (.tup ys))) ∨ (SqT K H p ys ∧ Q (.ref p) H))
def rListK : List V → Hp → VK → Prop := fun xs H Q => ∃ (a : Addr) (kvs : List (Key × V)), xs = [.ref a] ∧ Rd H a (.dK kvs) ∧ ∀ p, H p = none → Q (.ref p) (upd H p (.lst (kvs.map fun kv => kV kv.1)))
theorem eltD : EltC T K eD (tCB (rTupA K) (tCons (tCB (rSortD K) (tCons (tCB rListK (tCons (tVar 6) tNil)) tNil)) tNil)) := fun σ H Q a o r L tb h6 hlen ho hor hl hL hs k => by
  obtain ⟨nd, kvs, rfl, hk⟩ := hor
  have ek : (kvs.map fun kv => kV kv.1) = r.map fun (x : Nat) => vN x := by
    have : (kvs.map fun kv => kV kv.1) = (kvs.map (·.1)).map kV := by rw [List.map_map]; rfl
    rw [this, hk, List.map_map]
    rfl
  refine ⟨_, h6, a, kvs, rfl, .inl ho, fun p hp => ?_⟩
  rw [ek]
  have e1 : Ext T H (upd H p (.lst (r.map fun (x : Nat) => vN x))) := Ext.new hp
  have rw1 : RW K (upd H p (.lst (r.map fun (x : Nat) => vN x))) (.ref p) (.l (nis r)) := ⟨p, _, rfl, upd_same, dpAll_nis r, imm_nis r⟩
  show rSortD K [V.ref p] _ (fun x H1 => rTupA K [x] H1 Q)
  refine u_sorted (T := T) (.ref p) _ (.l (nis r)) (fun w => ∃ S : List Nat, S.Pairwise (· < ·) ∧ (∀ x, x ∈ S ↔ x ∈ r) ∧ w = .l (nis S)) _ (e1.tb tb) rw1 (sorted_int nd (.inl rfl) fun S h1 h2 => ⟨S, h1, h2, rfl⟩) fun v2 H2 z ⟨S, h1, h2, ez⟩ e2 rw2 _ => ?_
  subst ez
  refine u_tuple (T := T) v2 H2 (.l (nis S)) (fun w => w = .d (tN S)) _ (e2.tb (e1.tb tb)) rw2 rfl fun v3 H3 z ez e3 rw3 _ => ?_
  subst ez
  exact k v3 H3 S h1 h2 ((e1.trans e2).trans e3) rw3.2
/-! the two defs -/
theorem nest_ok {E : RowE} {te0 te : TE} {s1 s2 : TS} (hn : NewC E te0) (h1 : StepC T E s1 3 4) (h2 : StepC T E s2 4 3) (he : EltC T K E te) {N : List Str} (hN : N.length = 7) {vs : List V} {H : Hp} {Q : VK} {EX : XK} (h : toSp T K sp_web_by vs H Q EX) :
    tSeq (T1 T K te0) (tSeq (T2 K s1 s2) (T3 K te)) { nx := fun _ H' => Q .non H', rt := Q } (L2.start N vs) H := by
  obtain ⟨ws, R, rs, tb, ⟨n, ps, rfl, n1, n6, hl, hps, r⟩, hq⟩ := h
  match vs, rs with
  | [v1, v2], .cons r1 (.cons r2 .nil) =>
    obtain rfl := rw_int r1
    obtain ⟨S, us, rfl, hS, dS, im⟩ := r2
    have es : L2.start N [vN n, .ref S] = [some (vN n), some (.ref S), none, none, none, none, none] := by
      unfold L2.start
      rw [hN]
      rfl
    rw [show L2.start N [V.int (n : Int), .ref S] = _ from es]
    have rep : RepS T K H H (L2.start N [vN n, .ref S]) (startR N [.d (nI n), .l (prD ps)]) := rep_start (.cons r1 (.cons ⟨S, us, rfl, hS, dS, im⟩ .nil)) tb
    rw [es, show startR N [.d (nI n), .l (prD ps)] = [some (.d (nI n), false), some (.l (prD ps), false), none, none, none, none, none] from by unfold startR; rw [hN]; rfl] at rep
    refine t1_ok hn (by omega) rep fun H1 p as N1 => ?_
    refine t2_ok h1 h2 (fun q hq => ⟨(hps q hq).1, (hps q hq).2.1⟩) hl hS dS N1 fun H2 rows o1 o2 N2 hr => ?_
    refine t3_ok he n1 n6 hps hl tb N2 hr fun v H3 e3 rv => ?_
    exact hq v H3 _ e3 rv new_d r
end
end Wk

/-! part HP -/
set_option Elab.async false
set_option linter.all false
set_option maxRecDepth 100000
set_option maxHeartbeats 4000000
namespace Wk
open PySem PySem.Spec PyProof.Rows L2 Dw Gg Ik
variable {T : List NdefX.NTab} {K : PySem.W.Frag} {P : Program} {w : World} {mg : Str → Option Value} {base : Heap} {f : Addr} {fd : FuncData}
theorem sc_web_by : FnScope ["people", "some", "found", "one", "other", "person", "row"] ["people", "some"] (defScope (top 20)) := ⟨rfl, rfl, rfl, by decide +kernel, rfl, by decide +kernel, by decide +kernel⟩
theorem sc_law_by : FnScope ["_law_many", "_law_couples", "_law_found", "_law_one", "_law_other", "_law_person", "_law_own"] ["_law_many", "_law_couples"] (defScope (top 67)) := ⟨rfl, rfl, rfl, by decide +kernel, rfl, by decide +kernel, by decide +kernel⟩
theorem web_by_len {vs : List V} {H : Hp} {Q : VK} {E : XK} (h : toSp T K sp_web_by vs H Q E) : vs.length = 2 := by
  obtain ⟨ws, R, rs, _, ⟨n, ps, rfl, _⟩, _⟩ := h
  rw [RWs.length rs]
  rfl
set_option maxHeartbeats 8000000 in
theorem ok_web_by (TX : Txt mg) (F : FunD K "web_by" "web_by" (defArgs (top 20)) (defBody (top 20)) (defScope (top 20)) [] [] f fd) (hm : mg "web_by" = some (.ref f)) : Cal P w K mg base 1 "web_by" ["people", "some"] (toSp T K sp_web_by) := by
  refine ⟨f, fd, F.ok sc_web_by (fun vs H Q E h => web_by_len h) (fun cdv A outer s H vs Q E hr h => ⟨_, PSs.nox ?_, nest_ok newL (stepL (K := K) 3 4) (stepL (K := K) 4 3) eltL rfl h⟩), hm, F.kp, F.bindsN fun _ _ _ _ _ _ us hl => match us, hl with | [_, _], _ => rfl⟩
  refine pss_cons (ps_setLc (i := 2) (own := [(PySem.Str.ofString "person", 5)]) rfl sc_web_by.nd rfl rfl (sw_true rfl rfl rfl (by decide +kernel)) (i_rng1 TX.range_ (x_var 0)) (blkOk_by (by kernel_rfl)) (fun _ _ _ _ _ => pg_name (i := 5) sc_web_by.nd rfl (by first | exact .inl rfl | exact .inr rfl)) (fun _ _ _ _ _ => pts_nil) (fun _ _ _ _ _ => pe_lst pa_nil)) (pss_cons ?_ (pss_one (ps_ret ?_)))
  · refine ps_for PassesOwn.never rfl (pi_list (pv 1)) (pg_tup rfl (pgs_cons (pg_name (i := 3) sc_web_by.nd rfl (by first | exact .inl rfl | exact .inr rfl)) (pgs_cons (pg_name (i := 4) sc_web_by.nd rfl (by first | exact .inl rfl | exact .inr rfl)) pgs_nil))) (pss_cons ?_ (pss_one ?_))
    · exact ps_expr (pe_bm PySem.F.plainAttrs_list PySem.F.slot_list_append PySem.F.type_list_append mt_append (pe_ix ix_list (pv 2) (pv 3) (fun _ _ => rfl)) (pa_cons (pv 4) pa_nil))
    · exact ps_expr (pe_bm PySem.F.plainAttrs_list PySem.F.slot_list_append PySem.F.type_list_append mt_append (pe_ix ix_list (pv 2) (pv 4) (fun _ _ => rfl)) (pa_cons (pv 3) pa_nil))
  · exact pe_callTy call_tuple_of rfl TX.tuple_ (by decide +kernel) (pa_cons (pe_lc (own := [(PySem.Str.ofString "row", 6)]) rfl sc_web_by.nd (pi_list (pv 2)) (blkOk_by (by kernel_rfl)) (fun _ _ _ _ _ => pg_name (i := 6) sc_web_by.nd rfl (by first | exact .inl rfl | exact .inr rfl)) (fun _ _ _ _ _ => pts_nil)
      (fun _ _ _ _ _ => x_ct u_tuple call_tuple_of TX.tuple_ (x_sortSet TX.sorted_ TX.set_ (x_var 6)))) pa_nil)
set_option maxHeartbeats 8000000 in
theorem ok_law_by (TX : Txt mg) (F : FunD K "_law_by" "_law_by" (defArgs (top 67)) (defBody (top 67)) (defScope (top 67)) [] [] f fd) (hm : mg "_law_by" = some (.ref f)) : Cal P w K mg base 1 "_law_by" ["_law_many", "_law_couples"] (toSp T K sp_web_by) := by
  refine ⟨f, fd, F.ok sc_law_by (fun vs H Q E h => web_by_len h) (fun cdv A outer s H vs Q E hr h => ⟨_, PSs.nox ?_, nest_ok newD (stepD (K := K) 3 4) (stepD (K := K) 4 3) eltD rfl h⟩), hm, F.kp, F.bindsN fun _ _ _ _ _ _ us hl => match us, hl with | [_, _], _ => rfl⟩
  have hu := hr.units
  refine pss_cons (ps_setLc (i := 2) (own := [(PySem.Str.ofString "_law_person", 5)]) rfl sc_law_by.nd rfl rfl (sw_true rfl rfl rfl (by decide +kernel)) (i_rng1 TX.range_ (x_var 0)) (blkOk_by (by kernel_rfl)) (fun _ _ _ _ _ => pg_name (i := 5) sc_law_by.nd rfl (by first | exact .inl rfl | exact .inr rfl)) (fun _ _ _ _ _ => pts_nil) (fun _ _ _ _ _ => pe_dnewK)) (pss_cons ?_ (pss_one (ps_ret ?_)))
  · refine ps_for PassesOwn.never rfl (pi_list (pv 1)) (pg_tup rfl (pgs_cons (pg_name (i := 3) sc_law_by.nd rfl (by first | exact .inl rfl | exact .inr rfl)) (pgs_cons (pg_name (i := 4) sc_law_by.nd rfl (by first | exact .inl rfl | exact .inr rfl)) pgs_nil))) (pss_cons ?_ (pss_one ?_))
    · exact ps_dput (Nat.lt_of_le_of_lt (Nat.add_le_add_left (by decide) _) hu) (pe_ix ix_list (pv 2) (pv 3) (fun _ _ => rfl)) (pv 4) pe_bl rfl
    · exact ps_dput (Nat.lt_of_le_of_lt (Nat.add_le_add_left (by decide) _) hu) (pe_ix ix_list (pv 2) (pv 4) (fun _ _ => rfl)) (pv 3) pe_bl rfl
  · exact pe_callTy call_tuple_of rfl TX.tuple_ (by decide +kernel) (pa_cons (pe_lc (own := [(PySem.Str.ofString "_law_own", 6)]) rfl sc_law_by.nd (pi_list (pv 2)) (blkOk_by (by kernel_rfl)) (fun _ _ _ _ _ => pg_name (i := 6) sc_law_by.nd rfl (by first | exact .inl rfl | exact .inr rfl)) (fun _ _ _ _ _ => pts_nil)
      (fun _ _ _ _ _ => pe_callTy call_tuple_of rfl TX.tuple_ (by decide +kernel) (pa_cons (pe_callB (cr_sortD hu) rfl TX.sorted_ (by decide +kernel) (pa_cons (pe_callTy (call_listD rfl) rfl TX.list_ (by decide +kernel) (pa_cons (pv 6) pa_nil)) pa_nil)) pa_nil))) pa_nil)
end Wk

/-! part HQ -/
set_option Elab.async false
set_option linter.all false
set_option maxRecDepth 100000
set_option maxHeartbeats 4000000
namespace Wk
open PySem PySem.Spec PyProof.Rows L2 Dw Gg Ik
section
variable {T : List NdefX.NTab} {K : PySem.W.Frag}
/-- the script stands, whatever the row at r becomes -/
def ScA (K : PySem.W.Frag) (H : Hp) (r sc : Addr) (xs : List V) : Prop := (sc ≠ r ∧ SqL K H sc xs) ∨ ∀ H', SqL K H' sc xs
def RowB (K : PySem.W.Frag) (H : Hp) (r sc : Addr) (ns : List Int) : Prop := ∃ (i x z : Int), H r = some (.lst [.ref sc, .int i, .int x, .int z]) ∧ 0 ≤ i ∧ ScA K H r sc (ns.map V.int)
def RowA (K : PySem.W.Frag) (H : Hp) (r : Addr) : Prop := ∃ (sc : Addr) (ns : List Int), RowB K H r sc ns
theorem ScA.now {H : Hp} {r sc : Addr} {xs : List V} (h : ScA K H r sc xs) : SqL K H sc xs := h.elim (fun h => h.2) fun h => h H
theorem ScA.put {H : Hp} {r sc : Addr} {xs : List V} {o : HO} (h : ScA K H r sc xs) : ScA K (upd H r o) r sc xs := by
  rcases h with ⟨ne, h⟩ | h
  · refine .inl ⟨ne, ?_⟩
    rcases h with (h | ⟨q, h⟩) | h
    · exact .inl (.inl (by rw [upd_ne ne]; exact h))
    · exact .inl (.inr ⟨q, by rw [upd_ne ne]; exact h⟩)
    · exact .inr h
  · exact .inr h
theorem ScA.ext {H H' : Hp} {r sc : Addr} {xs : List V} (h : ScA K H r sc xs) (e : Ext T H H') : ScA K H' r sc xs := h.elim (fun h => .inl ⟨h.1, e.sqL h.2⟩) .inr
theorem RowB.ext {H H' : Hp} {r sc : Addr} {ns : List Int} (h : RowB K H r sc ns) (e : Ext T H H') : RowB K H' r sc ns := by
  obtain ⟨i, x, z, h1, h2, h3⟩ := h
  exact ⟨i, x, z, e.lst h1, h2, h3.ext e⟩
def sp_taken (K : PySem.W.Frag) : Sp := fun vs H Q _ => ∃ (r : Addr) (m : Int) (sc : Addr) (ns : List Int), vs = [.ref r, .int m] ∧ 0 < m ∧ m ≤ 1000 ∧ RowB K H r sc ns ∧ ∀ (k : Int) (H' : Hp), 0 ≤ k → k < m → (∀ a, a ≠ r → H' a = H a) → RowB K H' r sc ns → Q (.int k) H'
abbrev tR (K : PySem.W.Frag) (k : Int) : TE := tOp (rIxL K) (tVar 0) (tC (.int k))
theorem rd {σ : L2.St} {H : Hp} {Q : VK} {r : Addr} {xs : List V} {k : Int} {v : V} (h0 : σ[0]? = some (some (.ref r))) (hr : H r = some (.lst xs)) (hv : atI xs k = some v) (q : Q v H) : tR K k σ H Q := ⟨_, h0, _, _, _, _, rfl, rfl, .inl (.inl hr), hv, q⟩
end
variable {T : List NdefX.NTab} {K : PySem.W.Frag} {P : Program} {w : World} {mg : Str → Option Value} {base : Heap} {f : Addr} {fd : FuncData}
theorem sc_law_taken : FnScope ["_law_row", "_law_many", "_law_found", "_law_cell"] ["_law_row", "_law_many"] (defScope (top 66)) := ⟨rfl, rfl, rfl, by decide +kernel, rfl, by decide +kernel, by decide +kernel⟩
abbrev rInt1 : List V → Hp → VK → Prop := fun xs H Q => (∃ i, xs = [.int i] ∧ Q (.int i) H) ∨ ∃ k, xs = [.bl k] ∧ Q (.int (if k then 1 else 0)) H
abbrev rLenQ (K : PySem.W.Frag) : List V → Hp → VK → Prop := fun xs H Q => ∃ p ys, xs = [.ref p] ∧ (SqL K H p ys ∨ SqT K H p ys) ∧ Q (.int ys.length) H
abbrev rMod : R2 := rI (fun _ j => 0 < j) fun i j => .int (i % j)
abbrev rDiv : R2 := rI CDiv fun i j => .int (i / j)
abbrev rAdd : R2 := rI0 fun i j => .int (i + j)
abbrev rSub : R2 := rI0 fun i j => .int (i - j)
abbrev rMul : R2 := rI CMul fun i j => .int (i * j)
abbrev rPow : R2 := rI CPow fun i j => .int (i ^ j.toNat)
abbrev rGt : R2 := rI0 fun i j => .bl (decide (j < i))
abbrev rGeq : R2 := rI0 fun i j => .bl (decide (j ≤ i))
abbrev tI1 (t : TE) : TE := tCB rInt1 (tCons t tNil)
abbrev tS (k : Int) (t : TE) : TS := tAsg t (gSub (tVar 0) (tC (.int k)) rSetL)
def t_taken (K : PySem.W.Frag) : TS :=
  tSeq (tIfS (tTest (tOp rGt (tR K 3) (tC (.int 0)))) (tSeq (tAsg (tOp rMod (tI1 (tR K 3)) (tVar 1)) (gName 2)) (tSeq (tS 3 (tOp rDiv (tR K 3) (tVar 1))) (tRet (tVar 2)))) tNext)
  (tSeq (tS 1 (tOp rAdd (tR K 1) (tC (.int 1))))
  (tSeq (tIfS (tTest (tOp rGt (tR K 1) (tCB (rLenQ K) (tCons (tR K 0) tNil)))) (tSeq (tS 2 (tOp rMod (tI1 (tOp rAdd (tOp rMul (tR K 2) (tC (.int 48271))) (tC (.int 11)))) (tC (.int 2147483647)))) (tRet (tOp rMod (tI1 (tOp rDiv (tR K 2) (tC (.int 7)))) (tVar 1)))) tNext)
  (tSeq (tAsg (tOp (rIxL K) (tR K 0) (tOp rSub (tR K 1) (tC (.int 1)))) (gName 3))
  (tSeq (tS 2 (tOp rMod (tI1 (tOp rAdd (tOp rAdd (tOp rMul (tR K 2) (tC (.int 48271))) (tVar 3)) (tC (.int 11)))) (tC (.int 2147483647))))
  (tSeq (tIfS (tTest (tOp rGeq (tVar 3) (tOp rPow (tC (.int 10)) (tC (.int 18))))) (tS 3 (tOp rDiv (tVar 3) (tVar 1))) tNext)
  (tRet (tOp rMod (tI1 (tVar 3)) (tVar 1))))))))
set_option maxHeartbeats 8000000 in
theorem walk_taken (TX : Txt mg) {cdv : Value} {A : Around} {outer : List Env} {s : Shared} {H : Hp} {E : XK} : PSs (cxOf CX0 P w K mg base ["_law_row", "_law_many", "_law_found", "_law_cell"] "_law_taken" (defScope (top 66)) f cdv A outer s H E).nox (defBody (top 66)) (t_taken K) := by
  refine pss_cons (ps_if (pt_cmpR op_gt (pe_ix ix_list (pv 0) pe_int (fun _ _ => rfl)) pe_int (nomark _)) ?a pss_nil) (pss_cons ?b (pss_cons (ps_if (pt_cmpR op_gt (pe_ix ix_list (pv 0) pe_int (fun _ _ => rfl)) (pe_callB call_len_seq rfl TX.len_ (by decide +kernel) (pa_cons (pe_ix ix_list (pv 0) pe_int (fun _ _ => rfl)) pa_nil)) (nomark _)) ?c pss_nil) (pss_cons ?d (pss_cons ?e (pss_cons (ps_if (pt_cmpR op_ge (pv 3) (pe_op op_pow pe_int pe_int) (nomark _)) (pss_one ?g) pss_nil) (pss_one (ps_ret ?h)))))))
  case a =>
    exact pss_cons (ps_set (i := 2) sc_law_taken.nd rfl (Or.inl rfl) (pe_op op_mod (pe_callTy call_int1 rfl TX.int_ (by decide +kernel) (pa_cons (pe_ix ix_list (pv 0) pe_int (fun _ _ => rfl)) pa_nil)) (pv 1)))
      (pss_cons (ps_asg (pe_op op_fdiv (pe_ix ix_list (pv 0) pe_int (fun _ _ => rfl)) (pv 1)) (pg_sub (pv 0) pe_int set_list)) (pss_one (ps_ret (pv 2))))
  case b => exact ps_asg (pe_op op_add (pe_ix ix_list (pv 0) pe_int (fun _ _ => rfl)) pe_int) (pg_sub (pv 0) pe_int set_list)
  case c =>
    exact pss_cons (ps_asg (pe_op op_mod (pe_callTy call_int1 rfl TX.int_ (by decide +kernel) (pa_cons (pe_op op_add (pe_op op_mul (pe_ix ix_list (pv 0) pe_int (fun _ _ => rfl)) pe_int) pe_int) pa_nil)) pe_int) (pg_sub (pv 0) pe_int set_list))
      (pss_one (ps_ret (pe_op op_mod (pe_callTy call_int1 rfl TX.int_ (by decide +kernel) (pa_cons (pe_op op_fdiv (pe_ix ix_list (pv 0) pe_int (fun _ _ => rfl)) pe_int) pa_nil)) (pv 1))))
  case d => exact ps_set (i := 3) sc_law_taken.nd rfl (Or.inl rfl) (pe_ix ix_list (pe_ix ix_list (pv 0) pe_int (fun _ _ => rfl)) (pe_op op_sub (pe_ix ix_list (pv 0) pe_int (fun _ _ => rfl)) pe_int) (fun _ _ => rfl))
  case e => exact ps_asg (pe_op op_mod (pe_callTy call_int1 rfl TX.int_ (by decide +kernel) (pa_cons (pe_op op_add (pe_op op_add (pe_op op_mul (pe_ix ix_list (pv 0) pe_int (fun _ _ => rfl)) pe_int) (pv 3)) pe_int) pa_nil)) pe_int) (pg_sub (pv 0) pe_int set_list)
  case g => exact ps_asg (pe_op op_fdiv (pv 3) (pv 1)) (pg_sub (pv 0) pe_int set_list)
  case h => exact pe_op op_mod (pe_callTy call_int1 rfl TX.int_ (by decide +kernel) (pa_cons (pv 3) pa_nil)) (pv 1)
end Wk

/-! part HR -/
set_option Elab.async false
set_option linter.all false
set_option maxRecDepth 100000
set_option maxHeartbeats 4000000
namespace Wk
open PySem PySem.Spec PyProof.Rows L2 Dw Gg Ik
variable {T : List NdefX.NTab} {K : PySem.W.Frag} {P : Program} {w : World} {mg : Str → Option Value} {base : Heap} {f : Addr} {fd : FuncData}
theorem wr {D : L2.St → Hp → Prop} {σ : L2.St} {H : Hp} {r : Addr} {xs : List V} {k : Int} {v : V} (j : Nat) (h0 : σ[0]? = some (some (.ref r))) (hr : H r = some (.lst xs)) (hj : ixN xs.length k = some j) (q : D σ (upd H r (.lst (xs.set j v)))) : gSub (tVar 0) (tC (.int k)) rSetL v σ H D :=
  ⟨_, h0, r, xs, k, j, rfl, rfl, hr, hj, q⟩
theorem ifY {b : Bool} {A B : Prop} (h : b = true) (a : A) : if b = true then A else B := by rw [if_pos h]; exact a
theorem ifN {b : Bool} {A B : Prop} (h : b = false) (a : B) : if b = true then A else B := by rw [if_neg (by rw [h]; decide)]; exact a
theorem sb_put {H : Hp} {r : Addr} {o : HO} : ∀ a, a ≠ r → upd H r o a = H a := fun a h => upd_ne h
theorem taken_ok (vs : List V) (H : Hp) (Q : VK) (E : XK) (h : sp_taken K vs H Q E) : t_taken K { nx := fun _ H' => Q .non H', rt := Q } (L2.start ["_law_row", "_law_many", "_law_found", "_law_cell"] vs) H := by
  obtain ⟨r, m, sc, ns, rfl, m0, m1, ⟨i, x, z, hr, hi, hs⟩, hq⟩ := h
  have fin : ∀ (k : Int) (H' : Hp) (i' x' z' : Int), 0 ≤ k → k < m → (∀ a, a ≠ r → H' a = H a) → H' r = some (.lst [.ref sc, .int i', .int x', .int z']) → 0 ≤ i' → ScA K H' r sc (ns.map V.int) → Q (.int k) H' := fun k H' i' x' z' h1 h2 h3 h4 h5 h6 => hq k H' h1 h2 h3 ⟨i', x', z', h4, h5, h6⟩
  have cd : CDiv z m := ⟨m0, by omega⟩
  show tIfS (tTest (tOp rGt (tR K 3) (tC (.int 0)))) _ _ _ [some (.ref r), some (.int m), none, none] H
  refine ⟨.ref r, rfl, r, _, 3, .int z, rfl, rfl, .inl (.inl hr), rfl, z, 0, rfl, rfl, _, rfl, ?_⟩
  by_cases hz : 0 < z
  · refine ifY (decide_eq_true hz) ?_
    refine ⟨.ref r, rfl, r, _, 3, .int z, rfl, rfl, .inl (.inl hr), rfl, .inl ⟨z, rfl, .int m, rfl, z, m, rfl, rfl, m0, ?_⟩⟩
    refine ⟨.ref r, rfl, r, _, 3, .int z, rfl, rfl, .inl (.inl hr), rfl, .int m, rfl, z, m, rfl, rfl, cd, ?_⟩
    refine wr 3 rfl hr rfl ?_
    refine ⟨.int (z % m), rfl, ?_⟩
    exact fin _ _ i x (z / m) (Int.emod_nonneg _ (by omega)) (Int.emod_lt_of_pos _ m0) sb_put upd_same hi hs.put
  · refine ifN (decide_eq_false hz) ?_
    refine ⟨.ref r, rfl, r, _, 1, .int i, rfl, rfl, .inl (.inl hr), rfl, i, 1, rfl, rfl, ?_⟩
    refine wr 1 rfl hr rfl ?_
    have hr1 : upd H r (.lst [.ref sc, .int (i + 1), .int x, .int z]) r = some (.lst [.ref sc, .int (i + 1), .int x, .int z]) := upd_same
    have hs1 : ScA K (upd H r (.lst [.ref sc, .int (i + 1), .int x, .int z])) r sc (ns.map V.int) := hs.put
    show tIfS (tTest (tOp rGt (tR K 1) (tCB (rLenQ K) (tCons (tR K 0) tNil)))) _ _ _ [some (.ref r), some (.int m), none, none] (upd H r (.lst [.ref sc, .int (i + 1), .int x, .int z]))
    refine ⟨.ref r, rfl, r, _, 1, .int (i + 1), rfl, rfl, .inl (.inl hr1), rfl, .ref r, rfl, r, _, 0, .ref sc, rfl, rfl, .inl (.inl hr1), rfl, sc, ns.map V.int, rfl, .inl hs1.now, i + 1, _, rfl, rfl, _, rfl, ?_⟩
    by_cases hc : ((ns.map V.int).length : Int) < i + 1
    · refine ifY (decide_eq_true hc) ?_
      refine ⟨.ref r, rfl, r, _, 2, .int x, rfl, rfl, .inl (.inl hr1), rfl, x, 48271, rfl, rfl, .inr ⟨by decide, by decide⟩, _, 11, rfl, rfl, .inl ⟨_, rfl, _, 2147483647, rfl, rfl, (by decide : (0 : Int) < 2147483647), ?_⟩⟩
      refine wr 2 rfl hr1 rfl ?_
      have hr2 : upd (upd H r (.lst [.ref sc, .int (i + 1), .int x, .int z])) r (.lst [.ref sc, .int (i + 1), .int ((x * 48271 + 11) % 2147483647), .int z]) r = some (.lst [.ref sc, .int (i + 1), .int ((x * 48271 + 11) % 2147483647), .int z]) := upd_same
      refine ⟨.ref r, rfl, r, _, 2, .int ((x * 48271 + 11) % 2147483647), rfl, rfl, .inl (.inl hr2), rfl, _, 7, rfl, rfl, ⟨by decide, by decide⟩, .inl ⟨_, rfl, .int m, rfl, _, m, rfl, rfl, m0, ?_⟩⟩
      exact fin _ _ (i + 1) _ z (Int.emod_nonneg _ (by omega)) (Int.emod_lt_of_pos _ m0) (fun a h => (upd_ne h).trans (upd_ne h)) hr2 (by omega) hs1.put
    · refine ifN (decide_eq_false hc) ?_
      have hlen : i.toNat < ns.length := by
        rw [List.length_map] at hc
        omega
      have hcell : atI (ns.map V.int) (i + 1 - 1) = some (.int ns[i.toNat]) := by
        have : i + 1 - 1 = ((i.toNat : Nat) : Int) := by omega
        rw [this]
        exact atI_nat (by rw [List.getElem?_map, List.getElem?_eq_getElem hlen]; rfl)
      refine ⟨.ref r, rfl, r, _, 0, .ref sc, rfl, rfl, .inl (.inl hr1), rfl, .ref r, rfl, r, _, 1, .int (i + 1), rfl, rfl, .inl (.inl hr1), rfl, i + 1, 1, rfl, rfl, sc, _, i + 1 - 1, _, rfl, rfl, hs1.now, hcell, ?_⟩
      refine ⟨.ref r, rfl, r, _, 2, .int x, rfl, rfl, .inl (.inl hr1), rfl, x, 48271, rfl, rfl, .inr ⟨by decide, by decide⟩, .int ns[i.toNat], rfl, _, _, rfl, rfl, _, 11, rfl, rfl, .inl ⟨_, rfl, _, 2147483647, rfl, rfl, (by decide : (0 : Int) < 2147483647), ?_⟩⟩
      refine wr 2 rfl hr1 rfl ?_
      have hr2 : upd (upd H r (.lst [.ref sc, .int (i + 1), .int x, .int z])) r (.lst [.ref sc, .int (i + 1), .int ((x * 48271 + ns[i.toNat] + 11) % 2147483647), .int z]) r = some (.lst [.ref sc, .int (i + 1), .int ((x * 48271 + ns[i.toNat] + 11) % 2147483647), .int z]) := upd_same
      have hs2 : ScA K (upd (upd H r (.lst [.ref sc, .int (i + 1), .int x, .int z])) r (.lst [.ref sc, .int (i + 1), .int ((x * 48271 + ns[i.toNat] + 11) % 2147483647), .int z])) r sc (ns.map V.int) := hs1.put
      show tIfS (tTest (tOp rGeq (tVar 3) (tOp rPow (tC (.int 10)) (tC (.int 18))))) _ _ _ [some (.ref r), some (.int m), none, some (.int ns[i.toNat])] _
      refine ⟨.int ns[i.toNat], rfl, 10, 18, rfl, rfl, ⟨by decide, by decide, by decide⟩, _, _, rfl, rfl, _, rfl, ?_⟩
      by_cases hb : (10 : Int) ^ (18 : Int).toNat ≤ ns[i.toNat]
      · refine ifY (decide_eq_true hb) ?_
        refine ⟨.int ns[i.toNat], rfl, .int m, rfl, _, m, rfl, rfl, ⟨m0, by omega⟩, ?_⟩
        refine wr 3 rfl hr2 rfl ?_
        refine ⟨.int ns[i.toNat], rfl, .inl ⟨_, rfl, .int m, rfl, _, m, rfl, rfl, m0, ?_⟩⟩
        exact fin _ _ (i + 1) _ _ (Int.emod_nonneg _ (by omega)) (Int.emod_lt_of_pos _ m0) (fun a h => (upd_ne h).trans ((upd_ne h).trans (upd_ne h))) upd_same (by omega) hs2.put
      · refine ifN (decide_eq_false hb) ?_
        refine ⟨.int ns[i.toNat], rfl, .inl ⟨_, rfl, .int m, rfl, _, m, rfl, rfl, m0, ?_⟩⟩
        exact fin _ _ (i + 1) _ z (Int.emod_nonneg _ (by omega)) (Int.emod_lt_of_pos _ m0) (fun a h => (upd_ne h).trans (upd_ne h)) hr2 (by omega) hs2
theorem ok_taken (TX : Txt mg) (F : FunD K "_law_taken" "_law_taken" (defArgs (top 66)) (defBody (top 66)) (defScope (top 66)) [] [] f fd) (hm : mg "_law_taken" = some (.ref f)) : Cal P w K mg base 1 "_law_taken" ["_law_row", "_law_many"] (sp_taken K) :=
  ⟨f, fd, F.ok sc_law_taken (fun vs H Q E h => by obtain ⟨r, m, sc, ns, rfl, _⟩ := h; rfl) (fun cdv A outer s H vs Q E hr h => ⟨_, PSs.nox (walk_taken TX), taken_ok vs H Q E h⟩), hm, F.kp, F.bindsN fun _ _ _ _ _ _ us hl => match us, hl with | [_, _], _ => rfl⟩
end Wk

/-! part HS -/
set_option Elab.async false
set_option linter.all false
set_option maxRecDepth 100000
set_option maxHeartbeats 4000000
namespace Wk
open PySem PySem.Spec PyProof.Rows L2 Dw Gg Ik
theorem sc_law_web : FnScope ["_law_row", "_law_most", "_law_many", "_law_couples", "_law_rare", "_law_one", "_law_other"] ["_law_row", "_law_most"] (defScope (top 68)) := ⟨rfl, rfl, rfl, by decide +kernel, rfl, by decide +kernel, by decide +kernel⟩
/-- a call of a def that stands behind the top, over the heap -/
theorem h_call {X : Cx} {k j : Nat} {x : Str} {ps : List Str} {sp : Sp} {t : TA} {p pos : Pos} {e : Expr} {es : List Expr} (G : Cal X.prog X.w X.K X.mg X.base k x ps sp) (hr : Room j X.A) (ha : PA X (e :: es) t) (hk : k ≤ j := by decide) (hg : Gl X x := by rfl) (hdb : (x == ("__debug__" : Str)) = false := by decide)
    (he : starEach (e :: es) X.env = (false, eval e X.env) :: starEach es X.env := by rfl) (hpl : (backTo pos (starEach es X.env)).any (·.1) = false := by rfl) : PE X (.Call (.Name x p) (e :: es) [] pos) (tCall sp [] E0 t) := by
  obtain ⟨f, fd, F, m, kp, b⟩ := G.ex
  exact pe_call F (hr.mono hk) hg m kp b .nil pass0 ha hdb he hpl
variable {T : List NdefX.NTab} {K : PySem.W.Frag} {P : Program} {w : World} {mg : Str → Option Value} {base : Heap} {f : Addr} {fd : FuncData}
abbrev tTk (K : PySem.W.Frag) (u : TE) : TE := tCall (sp_taken K) [] E0 (tCons (tVar 0) (tCons u tNil))
def t_law_web (T : List NdefX.NTab) (K : PySem.W.Frag) : TS :=
  tSeq (tPar 2 3 (tCons (tOp rAdd (tC (.int 1)) (tTk K (tVar 1))) (tCons (tLst tNil) tNil)))
  (tSeq (tAsg (tOp rAdd (tC (.int 2)) (tTk K (tC (.int 3)))) (gName 4))
  (tSeq (tFor (iRng1 (tCons (tVar 2) tNil)) (gName 5) (tAsg (tOp rCat (tVar 3) (tLc (iRng2 (tCons (tOp rAdd (tVar 5) (tC (.int 1))) (tCons (tVar 2) tNil))) (gName 6) (tTest (tOp rEq (tTk K (tVar 4)) (tC (.int 0)))) (tTup (tCons (tVar 5) (tCons (tVar 6) tNil))) [6])) (gName 3)))
  (tRet (tCall (toSp T K sp_web_by) [] E0 (tCons (tVar 2) (tCons (tVar 3) tNil))))))
set_option maxHeartbeats 8000000 in
theorem walk_law_web (TX : Txt mg) (Gt : Cal P w K mg base 1 "_law_taken" ["_law_row", "_law_many"] (sp_taken K)) (Gb : Cal P w K mg base 1 "_law_by" ["_law_many", "_law_couples"] (toSp T K sp_web_by)) {cdv : Value} {A : Around} {outer : List Env} {s : Shared} {H : Hp} {E : XK} (hr : Room 1 (A.deeper (envOfC "_law_web" (defScope (top 68)) s.heap.objs.size f cdv))) : PSs (cxOf CX0 P w K mg base ["_law_row", "_law_most", "_law_many", "_law_couples", "_law_rare", "_law_one", "_law_other"] "_law_web" (defScope (top 68)) f cdv A outer s H E).nox (defBody (top 68)) (t_law_web T K) := by
  refine pss_cons (ps_par rfl sc_law_web.nd rfl rfl (by decide) rfl rfl (pa_cons (pe_op op_add pe_int (h_call Gt hr (pa_cons (pv 0) (pa_cons (pv 1) pa_nil)))) (pa_cons (pe_lst pa_nil) pa_nil)) rfl)
    (pss_cons (ps_set (i := 4) sc_law_web.nd rfl (by first | exact .inl rfl | exact .inr rfl) (pe_op op_add pe_int (h_call Gt hr (pa_cons (pv 0) (pa_cons pe_int pa_nil)))))
    (pss_cons (ps_for PassesOwn.never rfl (pi_range1 rfl TX.range_ (pa_cons (pv 2) pa_nil)) (pg_name (i := 5) sc_law_web.nd rfl (by first | exact .inl rfl | exact .inr rfl)) (pss_one (ps_set (i := 3) sc_law_web.nd rfl (by first | exact .inl rfl | exact .inr rfl)
      (pe_op op_cat (pv 3) (pe_lc (own := [(PySem.Str.ofString "_law_other", 6)]) rfl sc_law_web.nd (pi_range2 rfl TX.range_ (pa_cons (pe_op op_add (pv 5) pe_int) (pa_cons (pv 2) pa_nil))) (blkOk_by (by kernel_rfl)) (fun _ _ _ _ _ => pg_name (i := 6) sc_law_web.nd rfl (by first | exact .inl rfl | exact .inr rfl))
        (fun _ _ _ _ _ => pts_one (pt_cmpR op_eq (h_call Gt hr (pa_cons (pv 0) (pa_cons (pv 4) pa_nil))) pe_int (nomark _))) (fun _ _ _ _ _ => pe_tup (pa_cons (pv 5) (pa_cons (pv 6) pa_nil))))))))
    (pss_one (ps_ret (h_call Gb hr (pa_cons (pv 2) (pa_cons (pv 3) pa_nil)))))))

end Wk

/-! part HT -/
set_option Elab.async false
set_option linter.all false
set_option maxRecDepth 100000
set_option maxHeartbeats 4000000
namespace Wk
open PySem PySem.Spec PyProof.Rows L2 Dw Gg Ik
variable {T : List NdefX.NTab} {K : PySem.W.Frag} {P : Program} {w : World} {mg : Str → Option Value} {base : Heap} {f : Addr} {fd : FuncData}
def sp_lawweb (T : List NdefX.NTab) (K : PySem.W.Frag) : Sp := fun vs H Q _ => ∃ r : Addr, vs = [.ref r, .int 6] ∧ RowA K H r ∧ NdefX.TabsN T H ∧ ∀ v H' n g, Ext T (strip H (only r)) H' → RW K H' v (.d (gD n g)) → Ok n g → Q v H'
theorem rowB_lst {H : Hp} {r sc : Addr} {ns : List Int} (h : RowB K H r sc ns) : ∃ vs, H r = some (.lst vs) := by
  obtain ⟨i, x, z, h1, _⟩ := h
  exact ⟨_, h1⟩
theorem only_lst {H : Hp} {r : Addr} {vs : List V} (h : H r = some (.lst vs)) : ∀ a, only r a → ∃ vs, H a = some (.lst vs) := fun a ha => by
  have e : a = r := ha
  subst e
  exact ⟨_, h⟩
theorem tabs_strip {H : Hp} {r : Addr} {vs : List V} (h : H r = some (.lst vs)) (t : NdefX.TabsN T H) : NdefX.TabsN T (strip H (only r)) := fun p hp => by
  obtain ⟨ps, hP, tr, hc⟩ := t p hp
  refine ⟨ps, ?_, tr, fun pos cv e2 => ?_⟩
  · rw [strip_no (S := only r) (ne_of hP h (fun z => nomatch z))]
    exact hP
  · obtain ⟨c, e3, e4⟩ := hc pos cv e2
    refine ⟨c, e3, ?_⟩
    rw [strip_no (S := only r) (ne_of e4 h (fun z => nomatch z))]
    exact e4
/-- from H0 to H: the row at r may have turned, all else stays -/
structure LW (T : List NdefX.NTab) (K : PySem.W.Frag) (H0 H : Hp) (r sc : Addr) (ns : List Int) : Prop where
  ex : Ext T (strip H0 (only r)) (strip H (only r))
  tb : NdefX.TabsN T H
  row : RowB K H r sc ns
  r0 : ScA K H0 r sc (ns.map V.int)
section
variable {H0 H H' : Hp} {r p sc : Addr} {ns : List Int}
theorem LW.refl (t : NdefX.TabsN T H) (h : RowB K H r sc ns) : LW T K H H r sc ns := ⟨Ext.refl _, t, h, let ⟨_, _, _, _, _, q⟩ := h; q⟩
theorem LW.trans {H1 : Hp} (a : LW T K H0 H1 r sc ns) (b : LW T K H1 H r sc ns) : LW T K H0 H r sc ns := ⟨a.ex.trans b.ex, b.tb, b.row, a.r0⟩
theorem LW.again (a : LW T K H0 H r sc ns) : LW T K H H r sc ns := LW.refl a.tb a.row
theorem LW.ne (a : LW T K H0 H r sc ns) (h : H p = none) : p ≠ r := fun z => by
  subst z
  obtain ⟨vs, hv⟩ := rowB_lst a.row
  rw [h] at hv
  cases hv
theorem strip_off (h : ∀ a, a ≠ r → H' a = H a) : strip H' (only r) = strip H (only r) := funext fun a => by
  by_cases q : a = r
  · rw [strip_yes (S := only r) q, strip_yes (S := only r) q]
  · rw [strip_no (S := only r) q, strip_no (S := only r) q, h a q]
theorem LW.take (a : LW T K H0 H r sc ns) (h : ∀ a, a ≠ r → H' a = H a) (hr : RowB K H' r sc ns) : LW T K H0 H' r sc ns := by
  have e := strip_off h
  obtain ⟨vs, hv⟩ := rowB_lst a.row
  obtain ⟨us, hu⟩ := rowB_lst hr
  refine ⟨by rw [e]; exact a.ex, ?_, hr, a.r0⟩
  have t := tabs_strip hv a.tb
  rw [← e] at t
  exact (strip_ext (T := T) (only_lst hu)).tb t
theorem LW.ext (a : LW T K H0 H r sc ns) (e : Ext T H H') : LW T K H0 H' r sc ns := by
  obtain ⟨vs, hv⟩ := rowB_lst a.row
  exact ⟨a.ex.trans (ext_strip2 e hv), e.tb a.tb, a.row.ext e, a.r0⟩
theorem strip_upd {o : HO} (h : p ≠ r) : strip (upd H p o) (only r) = upd (strip H (only r)) p o := funext fun a => by
  by_cases q : a = r
  · subst q
    rw [strip_yes (S := only a) rfl, upd_ne (Ne.symm h), strip_yes (S := only a) rfl]
  · rw [strip_no (S := only r) q]
    by_cases q2 : a = p
    · subst q2
      rw [upd_same, upd_same]
    · rw [upd_ne q2, upd_ne q2, strip_no (S := only r) q]
theorem LW.mut {xs ys : List V} (a : LW T K H0 H r sc ns) (h0 : H0 p = none) (hl : H p = some (.lst xs)) (ne : p ≠ r) : LW T K H0 (upd H p (.lst ys)) r sc ns := by
  refine ⟨?_, tabs_lst hl a.tb, ?_, a.r0⟩
  · rw [strip_upd ne]
    refine a.ex.mut (by rw [strip_no (S := only r) ne]; exact h0) (xs := xs) ?_
    rw [strip_no (S := only r) ne]
    exact hl
  · obtain ⟨i, x, z, h1, h2, h3⟩ := a.row
    refine ⟨i, x, z, (upd_ne (Ne.symm ne)).trans h1, h2, ?_⟩
    rcases a.r0 with ⟨q1, q2⟩ | q
    · rcases q2 with q2 | q2
      · have np : sc ≠ p := fun e => by
          subst e
          rcases q2 with q2 | ⟨_, q2⟩ <;> rw [h0] at q2 <;> cases q2
        refine .inl ⟨q1, ?_⟩
        rcases h3.now with (h | ⟨u, h⟩) | h
        · exact .inl (.inl ((upd_ne np).trans h))
        · exact .inl (.inr ⟨u, (upd_ne np).trans h⟩)
        · exact .inr h
      · exact .inr fun H' => .inr q2
    · exact .inr q
/-- pairs at l, whatever the row holds -/
def PrAt (K : PySem.W.Frag) (H : Hp) (r l : Addr) (ps : List (Nat × Nat)) : Prop := RW K (strip H (only r)) (.ref l) (.l (prD ps))
theorem PrAt.get {l : Addr} {ps : List (Nat × Nat)} (h : PrAt K H r l ps) : l ≠ r ∧ ∃ vs, H l = some (.lst vs) ∧ DpAll K (strip H (only r)) vs (prD ps) ∧ vs.length = ps.length := by
  obtain ⟨p, vs, e, h1, h2, _⟩ := h
  cases e
  obtain ⟨q1, q2⟩ := strip_some h1
  exact ⟨q1, vs, q2, h2, by rw [Dw.DpAll.length h2, List.length_map]⟩
theorem imm_prD (ps : List (Nat × Nat)) : immAll (prD ps) = true := immAll_map (fun _ => rfl) ps
theorem prD_add (ps qs : List (Nat × Nat)) : prD (ps ++ qs) = prD ps ++ prD qs := List.map_append
theorem PrAt.nil {l : Addr} (ne : l ≠ r) : PrAt K (upd H l (.lst [])) r l [] := ⟨l, [], rfl, by rw [strip_upd ne]; exact upd_same, .nil, rfl⟩
theorem PrAt.go {l : Addr} {ps : List (Nat × Nat)} (h : PrAt K H r l ps) (a : LW T K H H' r sc ns) : PrAt K H' r l ps := RW.ext h a.ex
theorem PrAt.eq {l : Addr} {ps : List (Nat × Nat)} (h : PrAt K H r l ps) (e : strip H' (only r) = strip H (only r)) : PrAt K H' r l ps := by
  unfold PrAt
  rw [e]
  exact h
theorem PrAt.two {q : Addr} {vs us : List V} {ps qs : List (Nat × Nat)} (hv : DpAll K (strip H (only r)) vs (prD ps)) (hu : DpAll K (strip H (only r)) us (prD qs)) (hq : H q = none) (ne : q ≠ r) : PrAt K (upd H q (.lst (vs ++ us))) r q (ps ++ qs) := by
  refine ⟨q, _, rfl, by rw [strip_upd ne]; exact upd_same, ?_, imm_prD _⟩
  rw [strip_upd ne, prD_add]
  have e : Ext [] (strip H (only r)) (upd (strip H (only r)) q (.lst (vs ++ us))) := Ext.new (by rw [strip_no (S := only r) ne]; exact hq)
  exact DpAll.append (DpAll.tups e.tupE _ _ (imm_prD _) hv) (DpAll.tups e.tupE _ _ (imm_prD _) hu)
theorem PrAt.add {D : Addr} {x y : Nat} {qs : List (Nat × Nat)} (h : PrAt K H r D qs) (a : LW T K H0 H r sc ns) (hD : H0 D = none) (hp : H p = none) :
    ∃ acc, (upd H p (.tup [vN x, vN y])) D = some (.lst acc) ∧ acc.length = qs.length ∧ LW T K H0 (upd (upd H p (.tup [vN x, vN y])) D (.lst (acc ++ [.ref p]))) r sc ns ∧ PrAt K (upd (upd H p (.tup [vN x, vN y])) D (.lst (acc ++ [.ref p]))) r D (qs ++ [(x, y)]) := by
  obtain ⟨nD, vs, h1, h2, h3⟩ := h.get
  have np := a.ne hp
  have pD : D ≠ p := ne_of_none h1 hp
  have a1 : LW T K H0 (upd H p (.tup [vN x, vN y])) r sc ns := a.ext (Ext.new hp)
  have g1 : (upd H p (.tup [vN x, vN y])) D = some (.lst vs) := (upd_ne pD).trans h1
  refine ⟨vs, g1, h3, a1.mut hD g1 nD, D, _, rfl, by rw [strip_upd nD]; exact upd_same, ?_, imm_prD _⟩
  have e1 : Ext [] (strip H (only r)) (strip (upd H p (.tup [vN x, vN y])) (only r)) := by
    rw [strip_upd np]
    exact Ext.new (by rw [strip_no (S := only r) np]; exact hp)
  have g2 : (strip (upd H p (.tup [vN x, vN y])) (only r)) D = some (.lst vs) := by
    rw [strip_no (S := only r) nD]
    exact g1
  rw [strip_upd nD, prD_add]
  refine DpAll.tups (tupE_lst g2) _ _ (by rw [← prD_add]; exact imm_prD _) (DpAll.append (DpAll.tups e1.tupE _ _ (imm_prD _) h2) (.cons (.tup (.inl (.inl ?_)) (.cons (.int _) (.cons (.int _) .nil))) .nil))
  rw [strip_no (S := only r) np]
  exact upd_same
end
abbrev Pr3 (n : Nat) (ps : List (Nat × Nat)) : Prop := ∀ q ∈ ps, q.1 < n ∧ q.2 < n ∧ q.1 ≠ q.2
theorem law_web_ok (vs : List V) (H : Hp) (Q : VK) (E : XK) (h : sp_lawweb T K vs H Q E) : t_law_web T K { nx := fun _ H' => Q .non H', rt := Q } (L2.start ["_law_row", "_law_most", "_law_many", "_law_couples", "_law_rare", "_law_one", "_law_other"] vs) H := by
  obtain ⟨r, rfl, ⟨sc, ns, row⟩, tb, hq⟩ := h
  have a0 : LW T K H H r sc ns := LW.refl tb row
  show t_law_web T K _ [some (.ref r), some (.int 6), none, none, none, none, none] H
  refine ⟨_, rfl, _, rfl, r, 6, sc, ns, rfl, by decide, by decide, a0.row, fun k H1 k0 k1 o1 b1 => ⟨1, k, rfl, rfl, Nat.zero_le _, fun l hl => ⟨_, _, rfl, ?_⟩⟩⟩
  have a1 := a0.take o1 b1
  obtain ⟨n, hn⟩ : ∃ n : Nat, 1 + k = (n : Int) := ⟨(1 + k).toNat, by omega⟩
  have n1 : 1 ≤ n := by omega
  have n6 : n ≤ 6 := by omega
  have a2 : LW T K H (upd H1 l (.lst [])) r sc ns := a1.ext (Ext.new hl)
  have p2 : PrAt K (upd H1 l (.lst [])) r l [] := PrAt.nil (a1.ne hl)
  dsimp only
  rw [hn]
  refine ⟨_, rfl, r, 3, sc, ns, rfl, by decide, by decide, a2.row, fun j H3 j0 j1 o3 b3 => ⟨2, j, rfl, rfl, ?_⟩⟩
  have a3 := a2.take o3 b3
  have s3 := strip_off o3
  have p3 : PrAt K H3 r l [] := p2.eq s3
  have r0 : 0 < 2 + j := by omega
  have r1 : 2 + j ≤ 1000 := by omega
  dsimp only
  generalize 2 + j = rare at r0 r1 ⊢
  refine ⟨_, rfl, _, rfl, by omega, by omega, ?_⟩
  refine for_range (n := n) (fun i σ H' => ∃ l o5 ps, σ = [some (.ref r), some (.int 6), some (vN n), some (.ref l), some (.int rare), o5, none] ∧ LW T K H H' r sc ns ∧ PrAt K H' r l ps ∧ Pr3 n ps ∧ ps.length ≤ i * n) ⟨l, none, [], rfl, a3, p3, fun q hq => by simp at hq, Nat.zero_le _⟩ (fun i σ H4 hi hP => ?_) fun σ H4 hP => ?_
  · obtain ⟨l, o5, ps, rfl, a, hp, hg, hlen⟩ := hP
    rw [Int.zero_add]
    refine ⟨_, rfl, _, rfl, _, _, rfl, rfl, _, rfl, _, _, rfl, ⟨by omega, by omega, by omega, by omega⟩, fun D hD => ?_⟩
    refine lc_range (fun j H' => LW T K H4 H' r sc ns ∧ ∃ qs, PrAt K H' r D qs ∧ Pr3 n qs ∧ qs.length ≤ j) ⟨a.again.ext (Ext.new hD), [], PrAt.nil (a.ne hD), fun q hq => by simp at hq, Nat.zero_le _⟩ (fun j H5 hj hP => ?_) fun H5 hP => ?_
    · obtain ⟨b, qs, h1, h2, h3⟩ := hP
      have ev : (i : Int) + 1 + (j : Int) = ((i + 1 + j : Nat) : Int) := by omega
      rw [ev]
      refine ⟨rfl, _, rfl, _, rfl, r, rare, sc, ns, rfl, r0, r1, b.row, fun k H6 k0 k1 o6 c6 => ⟨rfl, _, rfl, ?_⟩⟩
      have b6 := b.take o6 c6
      have s6 := strip_off o6
      by_cases hk : V.int k = V.int 0
      · refine ifY (decide_eq_true hk) ?_
        refine ⟨_, rfl, _, rfl, big_of (show 2 ≤ 100000 by decide), fun p hp => ?_⟩
        obtain ⟨acc, g1, g2, g3, g4⟩ := (h1.eq s6).add (x := i) (y := i + 1 + j) b6 hD hp
        refine ⟨acc, g1, big_lt (by omega), g3, qs ++ [(i, i + 1 + j)], g4, fun q hq => ?_, by rw [List.length_append]; exact Nat.succ_le_succ h3⟩
        rcases List.mem_append.mp hq with hq | hq
        · exact h2 q hq
        · rw [List.mem_singleton.mp hq]
          exact ⟨hi, by show i + 1 + j < n; omega, by show i ≠ i + 1 + j; omega⟩
      · exact ifN (decide_eq_false hk) ⟨b6, qs, h1.eq s6, h2, Nat.le_succ_of_le h3⟩
    · obtain ⟨b, qs, h1, h2, h3⟩ := hP
      obtain ⟨m1, xs, x1, x2, x3⟩ := (hp.go b).get
      obtain ⟨m2, zs, z1, z2, z3⟩ := h1.get
      have hin : i * n + n ≤ 36 := by
        have : (i + 1) * n ≤ 6 * 6 := Nat.mul_le_mul (by omega) n6
        rw [Nat.succ_mul] at this
        exact this
      refine ⟨l, D, xs, zs, rfl, rfl, x1, z1, Nat.le_of_lt (big_lt (by omega)), fun q hq => ?_⟩
      refine ⟨q, _, ps ++ qs, rfl, (a.trans b).ext (Ext.new hq), PrAt.two x2 z2 hq (b.ne hq), fun p hp => ?_, ?_⟩
      · rcases List.mem_append.mp hp with hp | hp
        · exact hg p hp
        · exact h2 p hp
      · rw [List.length_append, Nat.succ_mul]
        omega
  · obtain ⟨l, o5, ps, rfl, a, hp, hg, hlen⟩ := hP
    obtain ⟨us, hu⟩ := rowB_lst a.row
    have hl400 : ps.length ≤ 400 := by
      have : n * n ≤ 6 * 6 := Nat.mul_le_mul n6 n6
      omega
    refine ⟨_, rfl, _, rfl, [.d (nI n), .l (prD ps)], fun w => w = .d (gD n (edgesG ps)), .cons ⟨rfl, .int _⟩ (.cons (RW.ext hp (strip_ext (T := T) (only_lst hu))) .nil), a.tb, ⟨n, ps, rfl, n1, n6, hl400, hg, rfl⟩, fun v H5 w e5 rw5 _ ew => ?_⟩
    subst ew
    exact hq v H5 n (edgesG ps) (a.ex.trans ((strip_ext (T := T) (only_lst hu)).trans e5)) rw5 (Ok.edges n1 n6 hg)
theorem ok_law_web (TX : Txt mg) (F : FunD K "_law_web" "_law_web" (defArgs (top 68)) (defBody (top 68)) (defScope (top 68)) [] [] f fd) (hm : mg "_law_web" = some (.ref f)) (Gt : Cal P w K mg base 1 "_law_taken" ["_law_row", "_law_many"] (sp_taken K)) (Gb : Cal P w K mg base 1 "_law_by" ["_law_many", "_law_couples"] (toSp T K sp_web_by)) : Cal P w K mg base 2 "_law_web" ["_law_row", "_law_most"] (sp_lawweb T K) :=
  ⟨f, fd, F.ok sc_law_web (fun vs H Q E h => by obtain ⟨r, rfl, _⟩ := h; rfl) (fun cdv A outer s H vs Q E hr h => ⟨_, PSs.nox (walk_law_web TX Gt Gb hr), law_web_ok vs H Q E h⟩), hm, F.kp, F.bindsN fun _ _ _ _ _ _ us hl => match us, hl with | [_, _], _ => rfl⟩
end Wk

/-! part HU -/
set_option Elab.async false
set_option linter.all false
set_option maxRecDepth 100000
set_option maxHeartbeats 4000000
namespace Wk
open PySem PySem.Spec PyProof.Rows L2 Dw Gg
/-! ### a heap that keeps what stands now: all that is not tracked, but the frames -/
def stay (h : Heap) (H : Hp) (fs : List Addr) : Heap := PySem.W.hideAll h (trk h H ++ fs)
section
variable {h : Heap} {H : Hp} {fs : List Addr} {b : Addr} {o : Obj}
theorem stay_get (e : h.get? b = some o) (n : H b = none) (nf : b ∉ fs) : (stay h H fs).get? b = some o := PySem.W.hideAll_get _ e fun z => by
  rcases List.mem_append.mp z with z | z
  · have q := (List.mem_filter.mp z).2
    rw [n] at q
    cases q
  · exact nf z
theorem of_stay (e : (stay h H fs).get? b = some o) : h.get? b = some o ∧ H b = none ∧ b ∉ fs := by
  have e1 : h.get? b = some o := PySem.W.of_hideAll _ e
  have no : b ∉ trk h H ++ fs := fun z => by
    have q : (stay h H fs).get? b = none := PySem.W.hideAll_none _ z
    rw [q] at e
    cases e
  refine ⟨e1, ?_, fun z => no (List.mem_append_right _ z)⟩
  cases q : H b with
  | none => rfl
  | some u => exact (no (List.mem_append_left _ (List.mem_filter.mpr ⟨List.mem_range.mpr (Heap.lt_size e1), by rw [q]; rfl⟩))).elim
theorem stay_fun {base B : Heap} : ∀ {l : List Env}, h.FunFrames base l → (∀ b ∈ L2.frs l, B.get? b = none) → h.FunFrames B l
  | [], _, _ => trivial
  | env :: r, ⟨hk, ⟨L, o, hf, hn, ho, hd⟩, hr⟩, nf => by
    have e : L2.frs (env :: r) = L :: L2.frs r := by
      unfold L2.frs
      rw [List.filterMap_cons, hf]
    rw [e] at nf
    exact ⟨hk, ⟨L, o, hf, nf L (List.mem_cons_self ..), ho, hd⟩, stay_fun hr fun b hb => nf b (List.mem_cons_of_mem _ hb)⟩
end
theorem mod_keeps {K : PySem.W.Frag} {mg : Str → Option Value} {base B : Heap} (m : Mod K mg base) (k : ∀ b o, base.get? b = some o → B.get? b = some o) : Mod K mg B :=
  ⟨m.kin.keeps k, m.glob.keeps k, let ⟨mb, h1, h2⟩ := m.blt; ⟨mb, h1.keeps k, h2⟩, m.nolimit.keeps k⟩
theorem stay_env {X : Cx} {pins : List (Addr × Obj)} {σ : L2.St} {H : Hp} {s : Shared} (I : Inv X pins σ H s) : (∀ b o, X.base.get? b = some o → (stay s.heap H (L2.frs X.stack)).get? b = some o) ∧ Env0 X.prog X.w X.K X.mg (stay s.heap H (L2.frs X.stack)) X.A X.stack s H := by
  have k : ∀ b o, X.base.get? b = some o → (stay s.heap H (L2.frs X.stack)).get? b = some o := fun b o e => by
    obtain ⟨e1, e2⟩ := I.bs b o e
    refine stay_get e1 e2 fun hb => ?_
    have z := (I.stack.mem hb).1
    rw [e] at z
    cases z
  refine ⟨k, I.ok.frames, mod_keeps I.ok.mod k, fun b o e => let ⟨e1, e2, _⟩ := of_stay e; ⟨e1, e2⟩, Nat.le_of_eq (PySem.W.hideAll_size _ _), stay_fun I.stack fun b hb => ?_, I.stkFree, I.hok, I.bare⟩
  cases q : (stay s.heap H (L2.frs X.stack)).get? b with
  | none => rfl
  | some o => exact ((of_stay q).2.2 hb).elim
/-! ### a lambda of one parameter that has one name of its maker's -/
structure Clo (B : Heap) (scope : Scope) (clo : List (Str × Addr)) (m : Int) : Prop where
  kind : scope.kind = .function
  co : scope.isCoroutine = false
  gen : scope.isGenerator = false
  own : ∀ y ∈ scope.names, y.2 ≠ .cell
  par : scope.names.lookup ("here" : Str) = some .local
  inj : ∀ x y c, clo.lookup x = some c → clo.lookup y = some c → x = y
  has : ∀ y, scope.names.lookup y = some .free → ∃ c, clo.lookup y = some c
  cel : ∀ y c, clo.lookup y = some c → ∃ v, B.IsCell c v
  fre : scope.names.lookup ("many" : Str) = some .free
  many : ∃ c t, clo.lookup ("many" : Str) = some c ∧ B.IsCell c (some (.int m t))
/-- the lambda's body, entered at s -/
def lcx (P : Program) (w : World) (K : PySem.W.Frag) (mg : Str → Option Value) (B : Heap) (q : Str) (scope : Scope) (clo : List (Str × Addr)) (f c' : Addr) (A : Around) (outer : List Env) (s : Shared) (H : Hp) (E : XK) : Cx where
  prog := P
  w := w
  K := K
  mg := mg
  base := B
  A := A.deeper (PySem.W.envX q scope s.heap.objs.size f (.ref c') clo)
  N := ["here", "many"]
  s_0 := s
  H_0 := H
  env := PySem.W.envX q scope s.heap.objs.size f (.ref c') clo
  outer := outer
  stack := PySem.W.envX q scope s.heap.objs.size f (.ref c') clo :: outer
  ex := []
  fn := fun _ => false
  calm := true
  pn := []
  xe := fun e s' => wpAny (model P w) (A.deeper (PySem.W.envX q scope s.heap.objs.size f (.ref c') clo)) (leaving (PySem.W.envX q scope s.heap.objs.size f (.ref c') clo) e) (fun _ s'' => CX0 outer H s E e s'') (fun e' s'' => CX0 outer H s E e' s'') s'
section
variable {P : Program} {w : World} {K : PySem.W.Frag} {mg : Str → Option Value} {B : Heap} {q : Str} {scope : Scope} {clo : List (Str × Addr)} {f c' : Addr} {m : Int}
theorem lcx_start {A : Around} {outer : List Env} {s : Shared} {H : Hp} {E : XK} {h1 : Heap} {tk : Nat} {v : V} {u : Value} (L : Clo B scope clo m) (e0 : Env0 P w K mg B A outer s H) (hd : A.handled = none) (rv : RelV v u)
    (hns : h1.Ns s.heap.objs.size fun y => ([((("here" : Str), u) : Str × Value)]).reverse.lookup y) (kp : ∀ b o, s.heap.get? b = some o → h1.get? b = some o) :
    Inv (lcx P w K mg B q scope clo f c' A outer s H E) [] [some v, some (.int m)] H { s with heap := h1, toks := tk } := by
  have ck : ∀ {c : Addr} {v : Option Value}, B.IsCell c v → h1.IsCell c v := fun {c v} ⟨o, ho, hd⟩ => ⟨o, kp _ _ (e0.bs _ _ ho).1, hd⟩
  have noA : ∀ b : Addr, b ∉ (lcx P w K mg B q scope clo f c' A outer s H E).ex := fun b z => absurd (show b ∈ ([] : List Addr) from z) (by simp)
  refine ⟨⟨e0.mod, L.kind, rfl, rfl, Nat.le_refl _, L.inj, fun y hy => ?_, fun y c z _ => (nomatch (show false = true from z)), fun _ => hd, Around.frames_deeper e0.frames, .inr ⟨rfl, rfl⟩, fun b z => absurd z (noA b), e0.bs, e0.bsz, fun b _ _ => noA b, fun b z => absurd z (noA b), e0.funs, e0.frf⟩,
    rfl, e0.bare, Un.kept kp, ⟨_, hns, fun i y v' e1 e2 e3 => ?_⟩, fun y c e => ?_, e0.hok.fresh (Nat.le_refl _), fun y c e => ?_, fun p hp => absurd (show p ∈ ([] : List (Addr × Obj)) ++ [] from hp) (by simp), e0.hok.kept kp, rfl⟩
  · have hy : scope.names.lookup y = some .cell ∨ scope.names.lookup y = some .free := hy
    rcases hy with hy | hy
    · exact absurd rfl (L.own _ (PySem.mem_of_lookup hy))
    · exact L.has y hy
  · match i, e1, e2 with
    | 0, e1, e2 =>
      have ey : ("here" : Str) = y := Option.some.inj e1
      have ev : v = v' := Option.some.inj (Option.some.inj e2)
      subst ey
      subst ev
      exact ⟨u, rv, .inl ⟨L.par, rfl⟩⟩
    | 1, e1, e2 =>
      have ey : ("many" : Str) = y := Option.some.inj e1
      have ev : V.int m = v' := Option.some.inj (Option.some.inj e2)
      subst ey
      subst ev
      obtain ⟨c, t, h2, h3⟩ := L.many
      exact ⟨.int m t, ⟨t, rfl⟩, .inr ⟨.inr L.fre, c, h2, ck h3⟩⟩
  · obtain ⟨v', hv⟩ := L.cel y c e
    exact ⟨v', ck hv⟩
  · obtain ⟨v', o, ho, _⟩ := L.cel y c e
    exact (e0.bs _ _ ho).2
/-- the lambda as a def -/
theorem lcx_ok {T : List NdefX.NTab} {params : Arguments} {body : Expr} {pm ctv : Value} {k : Nat} {sp : DSp} {t : DT} (L : Clo B scope clo m) (hB : B.get? f = some (PySem.W.kla_obj "<lambda>" (q ++ "<lambda>") params body scope clo pm c' ctv))
    (hbody : ∀ (A : Around) (outer : List Env) (s : Shared) (H : Hp) (E : XK), Room k (A.deeper (PySem.W.envX (q ++ "<lambda>") scope s.heap.objs.size f (.ref c') clo)) → PE (lcx P w K mg B (q ++ "<lambda>") scope clo f c' A outer s H E) body (can T K t))
    (hl : ∀ ws R, sp ws R → ∃ x, ws = [.d x] ∧ t [some (.d x, false), some (.d (.int m), false)] fun w n => 2 ≤ n ∧ R w) :
    FnOk P w K mg B CX0 (k + 1) f (PySem.W.kla_fn "<lambda>" (q ++ "<lambda>") params body scope clo pm (.ref c') ctv) ["here"] (fun vs H Q E => H c' = some (LamX.CodeO c' (q ++ "<lambda>")) ∧ toSp T K sp vs H Q E) := by
  refine ⟨fun vs H Q E h => ?_, fun A outer s H args us vs Q E hr e0 hb rv h => ?_⟩
  · obtain ⟨_, ws, R, rs, _, hs, _⟩ := h
    obtain ⟨x, rfl, _⟩ := hl ws R hs
    rw [RWs.length rs]
    rfl
  · obtain ⟨hc, ws, R, rs, tb, hs, hq⟩ := h
    obtain ⟨x, rfl, ht⟩ := hl ws R hs
    match vs, us, rs, rv with
    | [v], [u], .cons r1 .nil, .cons rv .nil =>
      have of1 := (e0.bs f _ hB).1
      obtain ⟨⟨oc, vs, tq, hoc, hdc, hvc⟩, _, _⟩ := e0.hok c' _ hc
      refine PySem.W.kla_callFunE hr.depth of1 rfl L.co L.gen rfl ⟨c', oc, vs, tq, rfl, hoc, hdc, hvc⟩ ?_
      refine hb _ _ _ _ (wpAny_newFunctionEnv (fun y hy => L.own y hy) (fun y hy => ?_) (fun h1 hns hsb => ⟨(e0.mod.nolimit.keeps fun b o e => (e0.bs b o e).1).fresh _ hsb, ?_⟩) L.kind)
      · have ey : y = (("here" : Str), u) := List.mem_singleton.mp hy
        rw [ey]
        exact L.par
      · have kp : ∀ b o, s.heap.get? b = some o → h1.get? b = some o := fun b o e => hsb.extBut b o (Nat.ne_of_lt (Heap.lt_size e)) (Heap.get?_push_of_some _ e)
        have J : Inv (lcx P w K mg B (q ++ "<lambda>") scope clo f c' A outer s H E) [] [some v, some (.int m)] H { s with heap := h1, toks := s.toks + ([((("here" : Str), u) : Str × Value)]).length } := lcx_start L e0 hr.hd rv hns kp
        have rep : RepS T K H H [some v, some (.int m)] [some (.d x, false), some (.d (.int m), false)] := by
          refine ⟨Ext.refl _, tb, rfl, fun i w o e => ?_, fun i j xs ys p e1 _ _ _ => ?_⟩
          · match i, e with
            | 0, e =>
              cases e
              exact ⟨v, rfl, r1, fun z => (nomatch z)⟩
            | 1, e =>
              cases e
              exact ⟨_, rfl, ⟨rfl, .int m⟩, fun z => (nomatch z)⟩
          · match i, e1 with
            | 0, e1 => cases e1
            | 1, e1 => cases e1
        show codeAny _ _ (.expr body (PySem.W.envX (q ++ "<lambda>") scope s.heap.objs.size f (.ref c') clo)) _ _
        refine PySem.W.kla_codeExpr (wpAny_mono ((hbody _ _ s H E (hr.deeper _)).run [] _ _ H (fun v' H' => Q v' H') J ⟨H, _, _, rep, ht, fun v2 H2 w2 n e2 rw2 f2 r2 => ?_⟩) (fun v' s' hq' => ?_) fun e s' hq' => hq')
        · exact hq v2 H2 w2 e2 rw2 (fun z p ep => (f2 z p ep).2.1 r2.1) r2.2
        · obtain ⟨w', H', J', rv', q'⟩ := hq'
          exact ⟨w', H', J'.os, J'.bare, J'.base, J'.hok, rv', q'⟩
end
end Wk

/-! part SemK -/
set_option Elab.async false
set_option linter.all false
set_option maxRecDepth 100000
set_option maxHeartbeats 4000000
namespace Wk
open PySem PySem.Spec PyProof.Rows L2 Dw Gg
/-- what the lambda asks of a web -/
def sp_fits (m : Int) : DSp := fun ws R => ∃ n g, ws = [.d (gD n g)] ∧ Ok n g ∧ R (.d (.bool (decide (m ≤ (cnt n g : Int)))))
def t_fits : DT := dOp fGe (dU fLen (dCall sp_pairs_in (dCons (dVar 0) dNil))) (dVar 1)
def t_least1 (m : Int) : DS := dAsg (dLc (dItL (dCall sp_choices (dCons (dU fLen (dVar 0)) dNil))) (gdName 3) (dTst (dCall (sp_fits m) (dCons (dCall sp_told_in (dCons (dVar 0) (dCons (dVar 3) dNil))) dNil))) (dTup (dCons (dU fLen (dVar 3)) (dCons (dVar 3) dNil))) [3]) 2
def t_least2 : DS := dSeq (dIfS (dTst (dOp fEq (dVar 2) (dLst dNil))) dNever dNext) (dRet (dU fMin (dVar 2)))
/-- the call with the lambda -/
def dLeast : DT := fun ρ R => ∃ n g m o1 o2, ρ[0]? = some (some (.d (gD n g), o1)) ∧ ρ[1]? = some (some (.d (.int m), o2)) ∧ Ok n g ∧ (∃ S, Gives n g m S) ∧ ∀ S, Gives n g m S → (∀ S', Gives n g m S' → S.length ≤ S'.length) → R (.d (.tuple [nI S.length, tN S])) 2
def t_calls_to_pairs : DS := (dSeq (dDrop (dCall sp_need_web (dCons (dVar 0) dNil))) (dSeq (dIfS (dNot (dTst (dCall sp_is_in (dCons (dVar 1) (dCons (dC (.int 0)) (dCons (dC (.int 100)) dNil)))))) dNever dNext) (dRet (dOp fIxT dLeast (dC (.int 0))))))
theorem sem_fits {m : Int} : ∀ ws R, sp_fits m ws R → ∃ x, ws = [.d x] ∧ t_fits [some (.d x, false), some (.d (.int m), false)] fun w n => 2 ≤ n ∧ R w := by
  rintro _ R ⟨n, g, rfl, o, r⟩
  refine ⟨_, rfl, ?_⟩
  (try simp only [dSeq, dNext, dDrop, dAsg, dAsgG, dRet, dIfS, dPar, dVar, dC, dU, dOp, dTst, dAnd, dOr, dNot, dAndV, dNotV, dChain, dIf, dNil, dCons, dStar, dTup, dLst, dCall, dItL, dItT, dRng1, dRng2, dEnum, gdName, gdTup2, gdTup3, dYes, wipeR, dAppend, dExtend, dPopA, dAugL, dCut, dIsi, dLc_eq, dLc2_eq, dFor, dWhile, fAdd, fSub, fLt, fLe, fGt, fGe, fI2_eq, fNeg_eq, fTuple_nis, fTuple_l, fList_l, fList_tN, fCat_eq, unD_nil, unD_d, startR, List.map_cons, List.map_nil, List.length_cons, List.length_nil, List.replicate, List.cons_append, List.nil_append, Nat.zero_add, Nat.reduceAdd, Nat.reduceSub, List.append_nil, List.getElem?_cons_zero, List.getElem?_cons_succ, List.set_cons_zero, List.set_cons_succ, Option.some.injEq, Prod.mk.injEq, Option.map_some, Option.map_none, W.d.injEq, W.l.injEq, PyData.tuple.injEq, PyData.int.injEq, PyData.bool.injEq, PyData.str.injEq, reduceCtorEq, retOk_d, retOk_1, retOk_2, asgOk_d, asgOk_2, and_assoc, exists_and_left, exists_eq_left', exists_eq_left, true_and, and_true, ex_gD, ex_tN, fLen_gD, fLen_tN, fLen_l, len100, Int.toNat_natCast, Nat.reduceLeDiff, isT_ii, isT_ib, isT_tt, isT_ss, is_integer_eq, is_in_eq, is_list_eq, is_list_tN, is_list_gD, if_true, eq_self, Bool.false_eq_true, if_false, ge1, ge2, one_ne, two_ne, true_implies, unD_append, ex_pair, ex_trip, t_fits])
  refine c_pairs_in o ?_
  (try simp only [dSeq, dNext, dDrop, dAsg, dAsgG, dRet, dIfS, dPar, dVar, dC, dU, dOp, dTst, dAnd, dOr, dNot, dAndV, dNotV, dChain, dIf, dNil, dCons, dStar, dTup, dLst, dCall, dItL, dItT, dRng1, dRng2, dEnum, gdName, gdTup2, gdTup3, dYes, wipeR, dAppend, dExtend, dPopA, dAugL, dCut, dIsi, dLc_eq, dLc2_eq, dFor, dWhile, fAdd, fSub, fLt, fLe, fGt, fGe, fI2_eq, fNeg_eq, fTuple_nis, fTuple_l, fList_l, fList_tN, fCat_eq, unD_nil, unD_d, startR, List.map_cons, List.map_nil, List.length_cons, List.length_nil, List.replicate, List.cons_append, List.nil_append, Nat.zero_add, Nat.reduceAdd, Nat.reduceSub, List.append_nil, List.getElem?_cons_zero, List.getElem?_cons_succ, List.set_cons_zero, List.set_cons_succ, Option.some.injEq, Prod.mk.injEq, Option.map_some, Option.map_none, W.d.injEq, W.l.injEq, PyData.tuple.injEq, PyData.int.injEq, PyData.bool.injEq, PyData.str.injEq, reduceCtorEq, retOk_d, retOk_1, retOk_2, asgOk_d, asgOk_2, and_assoc, exists_and_left, exists_eq_left', exists_eq_left, true_and, and_true, ex_gD, ex_tN, fLen_gD, fLen_tN, fLen_l, len100, Int.toNat_natCast, Nat.reduceLeDiff, isT_ii, isT_ib, isT_tt, isT_ss, is_integer_eq, is_in_eq, is_list_eq, is_list_tN, is_list_gD, if_true, eq_self, Bool.false_eq_true, if_false, ge1, ge2, one_ne, two_ne, true_implies, unD_append, ex_pair, ex_trip, List.length_map])
  exact r
theorem sem_least {n : Nat} {g : Adj} {m : Int} {R : W → Prop} {N : Rho → Prop} (o : Ok n g) (hS : ∃ S, Gives n g m S) (r : ∀ S, Gives n g m S → (∀ S', Gives n g m S' → S.length ≤ S'.length) → R (.d (.tuple [nI S.length, tN S]))) :
    dSeq (t_least1 m) t_least2 { nx := N, rt := R } [some (.d (gD n g), false), none, none, none] := by
  have hn := o.le
  have hc := chs_len n hn
  (try simp only [dSeq, dNext, dDrop, dAsg, dAsgG, dRet, dIfS, dPar, dVar, dC, dU, dOp, dTst, dAnd, dOr, dNot, dAndV, dNotV, dChain, dIf, dNil, dCons, dStar, dTup, dLst, dCall, dItL, dItT, dRng1, dRng2, dEnum, gdName, gdTup2, gdTup3, dYes, wipeR, dAppend, dExtend, dPopA, dAugL, dCut, dIsi, dLc_eq, dLc2_eq, dFor, dWhile, fAdd, fSub, fLt, fLe, fGt, fGe, fI2_eq, fNeg_eq, fTuple_nis, fTuple_l, fList_l, fList_tN, fCat_eq, unD_nil, unD_d, startR, List.map_cons, List.map_nil, List.length_cons, List.length_nil, List.replicate, List.cons_append, List.nil_append, Nat.zero_add, Nat.reduceAdd, Nat.reduceSub, List.append_nil, List.getElem?_cons_zero, List.getElem?_cons_succ, List.set_cons_zero, List.set_cons_succ, Option.some.injEq, Prod.mk.injEq, Option.map_some, Option.map_none, W.d.injEq, W.l.injEq, PyData.tuple.injEq, PyData.int.injEq, PyData.bool.injEq, PyData.str.injEq, reduceCtorEq, retOk_d, retOk_1, retOk_2, asgOk_d, asgOk_2, and_assoc, exists_and_left, exists_eq_left', exists_eq_left, true_and, and_true, ex_gD, ex_tN, fLen_gD, fLen_tN, fLen_l, len100, Int.toNat_natCast, Nat.reduceLeDiff, isT_ii, isT_ib, isT_tt, isT_ss, is_integer_eq, is_in_eq, is_list_eq, is_list_tN, is_list_gD, if_true, eq_self, Bool.false_eq_true, if_false, ge1, ge2, one_ne, two_ne, true_implies, unD_append, ex_pair, ex_trip, t_least1, t_least2, dNever])
  refine c_choices hn ?_
  (try simp only [dSeq, dNext, dDrop, dAsg, dAsgG, dRet, dIfS, dPar, dVar, dC, dU, dOp, dTst, dAnd, dOr, dNot, dAndV, dNotV, dChain, dIf, dNil, dCons, dStar, dTup, dLst, dCall, dItL, dItT, dRng1, dRng2, dEnum, gdName, gdTup2, gdTup3, dYes, wipeR, dAppend, dExtend, dPopA, dAugL, dCut, dIsi, dLc_eq, dLc2_eq, dFor, dWhile, fAdd, fSub, fLt, fLe, fGt, fGe, fI2_eq, fNeg_eq, fTuple_nis, fTuple_l, fList_l, fList_tN, fCat_eq, unD_nil, unD_d, startR, List.map_cons, List.map_nil, List.length_cons, List.length_nil, List.replicate, List.cons_append, List.nil_append, Nat.zero_add, Nat.reduceAdd, Nat.reduceSub, List.append_nil, List.getElem?_cons_zero, List.getElem?_cons_succ, List.set_cons_zero, List.set_cons_succ, Option.some.injEq, Prod.mk.injEq, Option.map_some, Option.map_none, W.d.injEq, W.l.injEq, PyData.tuple.injEq, PyData.int.injEq, PyData.bool.injEq, PyData.str.injEq, reduceCtorEq, retOk_d, retOk_1, retOk_2, asgOk_d, asgOk_2, and_assoc, exists_and_left, exists_eq_left', exists_eq_left, true_and, and_true, ex_gD, ex_tN, fLen_gD, fLen_tN, fLen_l, len100, Int.toNat_natCast, Nat.reduceLeDiff, isT_ii, isT_ib, isT_tt, isT_ss, is_integer_eq, is_in_eq, is_list_eq, is_list_tN, is_list_gD, if_true, eq_self, Bool.false_eq_true, if_false, ge1, ge2, one_ne, two_ne, true_implies, unD_append, ex_pair, ex_trip])
  refine ⟨by rw [List.length_map]; omega, ?_⟩
  refine lcM (fun S => decide (m ≤ (cnt n (toldG n g S) : Int))) (fun S => .tuple [nI S.length, tN S]) (fun a _ b _ => tN_inj) (fun S hS => ?_) ?_
  · (try simp only [dSeq, dNext, dDrop, dAsg, dAsgG, dRet, dIfS, dPar, dVar, dC, dU, dOp, dTst, dAnd, dOr, dNot, dAndV, dNotV, dChain, dIf, dNil, dCons, dStar, dTup, dLst, dCall, dItL, dItT, dRng1, dRng2, dEnum, gdName, gdTup2, gdTup3, dYes, wipeR, dAppend, dExtend, dPopA, dAugL, dCut, dIsi, dLc_eq, dLc2_eq, dFor, dWhile, fAdd, fSub, fLt, fLe, fGt, fGe, fI2_eq, fNeg_eq, fTuple_nis, fTuple_l, fList_l, fList_tN, fCat_eq, unD_nil, unD_d, startR, List.map_cons, List.map_nil, List.length_cons, List.length_nil, List.replicate, List.cons_append, List.nil_append, Nat.zero_add, Nat.reduceAdd, Nat.reduceSub, List.append_nil, List.getElem?_cons_zero, List.getElem?_cons_succ, List.set_cons_zero, List.set_cons_succ, Option.some.injEq, Prod.mk.injEq, Option.map_some, Option.map_none, W.d.injEq, W.l.injEq, PyData.tuple.injEq, PyData.int.injEq, PyData.bool.injEq, PyData.str.injEq, reduceCtorEq, retOk_d, retOk_1, retOk_2, asgOk_d, asgOk_2, and_assoc, exists_and_left, exists_eq_left', exists_eq_left, true_and, and_true, ex_gD, ex_tN, fLen_gD, fLen_tN, fLen_l, len100, Int.toNat_natCast, Nat.reduceLeDiff, isT_ii, isT_ib, isT_tt, isT_ss, is_integer_eq, is_in_eq, is_list_eq, is_list_tN, is_list_gD, if_true, eq_self, Bool.false_eq_true, if_false, ge1, ge2, one_ne, two_ne, true_implies, unD_append, ex_pair, ex_trip])
    refine c_told_in o ?_
    refine ⟨n, _, rfl, o.told S, ?_⟩
    (try simp only [dSeq, dNext, dDrop, dAsg, dAsgG, dRet, dIfS, dPar, dVar, dC, dU, dOp, dTst, dAnd, dOr, dNot, dAndV, dNotV, dChain, dIf, dNil, dCons, dStar, dTup, dLst, dCall, dItL, dItT, dRng1, dRng2, dEnum, gdName, gdTup2, gdTup3, dYes, wipeR, dAppend, dExtend, dPopA, dAugL, dCut, dIsi, dLc_eq, dLc2_eq, dFor, dWhile, fAdd, fSub, fLt, fLe, fGt, fGe, fI2_eq, fNeg_eq, fTuple_nis, fTuple_l, fList_l, fList_tN, fCat_eq, unD_nil, unD_d, startR, List.map_cons, List.map_nil, List.length_cons, List.length_nil, List.replicate, List.cons_append, List.nil_append, Nat.zero_add, Nat.reduceAdd, Nat.reduceSub, List.append_nil, List.getElem?_cons_zero, List.getElem?_cons_succ, List.set_cons_zero, List.set_cons_succ, Option.some.injEq, Prod.mk.injEq, Option.map_some, Option.map_none, W.d.injEq, W.l.injEq, PyData.tuple.injEq, PyData.int.injEq, PyData.bool.injEq, PyData.str.injEq, reduceCtorEq, retOk_d, retOk_1, retOk_2, asgOk_d, asgOk_2, and_assoc, exists_and_left, exists_eq_left', exists_eq_left, true_and, and_true, ex_gD, ex_tN, fLen_gD, fLen_tN, fLen_l, len100, Int.toNat_natCast, Nat.reduceLeDiff, isT_ii, isT_ib, isT_tt, isT_ss, is_integer_eq, is_in_eq, is_list_eq, is_list_tN, is_list_gD, if_true, eq_self, Bool.false_eq_true, if_false, ge1, ge2, one_ne, two_ne, true_implies, unD_append, ex_pair, ex_trip])
    intro _
    trivial
  · obtain ⟨S0, s1, s2⟩ := hS
    have ne : (chs n).filter (fun S => decide (m ≤ (cnt n (toldG n g S) : Int))) ≠ [] := fun e => by
      have : S0 ∈ (chs n).filter fun S => decide (m ≤ (cnt n (toldG n g S) : Int)) := List.mem_filter.mpr ⟨s1, decide_eq_true s2⟩
      rw [e] at this
      cases this
    have sh : ∀ S : List Nat, Sh 2 (.tuple [nI S.length, tN S]) := fun S => .tup fun x hx => by
      rcases List.mem_cons.mp hx with rfl | hx
      · exact ⟨(Sh.int _).lay, Nat.le_trans (Sh.int _).dep (by decide)⟩
      · rw [List.mem_singleton.mp hx]
        exact sh_tN S
    have mm : ∀ S, S ∈ (chs n).filter (fun S => decide (m ≤ (cnt n (toldG n g S) : Int))) ↔ Gives n g m S := fun S => by
      rw [List.mem_filter, decide_eq_true_iff]
      exact Iff.rfl
    generalize (chs n).filter (fun S => decide (m ≤ (cnt n (toldG n g S) : Int))) = L at ne mm
    refine ⟨rfl, (Sh.lst (k := 2) fun x hx => ?_).ok, shaped_nil, false, ?_, ?_⟩
    · obtain ⟨S, _, rfl⟩ := List.mem_map.mp hx
      exact sh S
    · match L, ne with
      | S :: L, _ => rfl
    · rw [if_neg (by decide)]
      refine min_pairs ne (fun a _ b _ => ?_) (fun a _ => ⟨_, _, rfl⟩) (fun a _ => ⟨(sh a).lay, by have := (sh a).dep; omega⟩) fun S hS hm => ?_
      · have := alike_tI (up a) (up b)
        rw [← tN_up, ← tN_up] at this
        simp [PySem.W.alike, PySem.W.alikeAll, this]
      · refine ⟨rfl, r S ((mm S).mp hS) fun S' h' => ?_⟩
        have := hm S' ((mm S').mpr h')
        simp only [fstI] at this
        omega
theorem sem_calls_to_pairs : ∀ ws R, sp_calls_to_pairs ws R → t_calls_to_pairs { nx := fun _ => R (.d .none), rt := R } (startR ["web", "many"] ws) := by
  rintro _ R ⟨n, g, m, rfl, o, h0, h100, hS, r⟩
  have e1 : (decide ((0 : Int) ≤ m) && decide (m ≤ 100)) = true := by
    rw [decide_eq_true h0, decide_eq_true h100]
    rfl
  (try simp only [dSeq, dNext, dDrop, dAsg, dAsgG, dRet, dIfS, dPar, dVar, dC, dU, dOp, dTst, dAnd, dOr, dNot, dAndV, dNotV, dChain, dIf, dNil, dCons, dStar, dTup, dLst, dCall, dItL, dItT, dRng1, dRng2, dEnum, gdName, gdTup2, gdTup3, dYes, wipeR, dAppend, dExtend, dPopA, dAugL, dCut, dIsi, dLc_eq, dLc2_eq, dFor, dWhile, fAdd, fSub, fLt, fLe, fGt, fGe, fI2_eq, fNeg_eq, fTuple_nis, fTuple_l, fList_l, fList_tN, fCat_eq, unD_nil, unD_d, startR, List.map_cons, List.map_nil, List.length_cons, List.length_nil, List.replicate, List.cons_append, List.nil_append, Nat.zero_add, Nat.reduceAdd, Nat.reduceSub, List.append_nil, List.getElem?_cons_zero, List.getElem?_cons_succ, List.set_cons_zero, List.set_cons_succ, Option.some.injEq, Prod.mk.injEq, Option.map_some, Option.map_none, W.d.injEq, W.l.injEq, PyData.tuple.injEq, PyData.int.injEq, PyData.bool.injEq, PyData.str.injEq, reduceCtorEq, retOk_d, retOk_1, retOk_2, asgOk_d, asgOk_2, and_assoc, exists_and_left, exists_eq_left', exists_eq_left, true_and, and_true, ex_gD, ex_tN, fLen_gD, fLen_tN, fLen_l, len100, Int.toNat_natCast, Nat.reduceLeDiff, isT_ii, isT_ib, isT_tt, isT_ss, is_integer_eq, is_in_eq, is_list_eq, is_list_tN, is_list_gD, if_true, eq_self, Bool.false_eq_true, if_false, ge1, ge2, one_ne, two_ne, true_implies, unD_append, ex_pair, ex_trip, t_calls_to_pairs, dNever])
  refine c_need_web o ?_
  (try simp only [dSeq, dNext, dDrop, dAsg, dAsgG, dRet, dIfS, dPar, dVar, dC, dU, dOp, dTst, dAnd, dOr, dNot, dAndV, dNotV, dChain, dIf, dNil, dCons, dStar, dTup, dLst, dCall, dItL, dItT, dRng1, dRng2, dEnum, gdName, gdTup2, gdTup3, dYes, wipeR, dAppend, dExtend, dPopA, dAugL, dCut, dIsi, dLc_eq, dLc2_eq, dFor, dWhile, fAdd, fSub, fLt, fLe, fGt, fGe, fI2_eq, fNeg_eq, fTuple_nis, fTuple_l, fList_l, fList_tN, fCat_eq, unD_nil, unD_d, startR, List.map_cons, List.map_nil, List.length_cons, List.length_nil, List.replicate, List.cons_append, List.nil_append, Nat.zero_add, Nat.reduceAdd, Nat.reduceSub, List.append_nil, List.getElem?_cons_zero, List.getElem?_cons_succ, List.set_cons_zero, List.set_cons_succ, Option.some.injEq, Prod.mk.injEq, Option.map_some, Option.map_none, W.d.injEq, W.l.injEq, PyData.tuple.injEq, PyData.int.injEq, PyData.bool.injEq, PyData.str.injEq, reduceCtorEq, retOk_d, retOk_1, retOk_2, asgOk_d, asgOk_2, and_assoc, exists_and_left, exists_eq_left', exists_eq_left, true_and, and_true, ex_gD, ex_tN, fLen_gD, fLen_tN, fLen_l, len100, Int.toNat_natCast, Nat.reduceLeDiff, isT_ii, isT_ib, isT_tt, isT_ss, is_integer_eq, is_in_eq, is_list_eq, is_list_tN, is_list_gD, if_true, eq_self, Bool.false_eq_true, if_false, ge1, ge2, one_ne, two_ne, true_implies, unD_append, ex_pair, ex_trip, e1, Bool.not_true])
  refine ⟨n, g, m, false, false, rfl, rfl, o, hS, fun S h1 h2 => ?_⟩
  (try simp only [dSeq, dNext, dDrop, dAsg, dAsgG, dRet, dIfS, dPar, dVar, dC, dU, dOp, dTst, dAnd, dOr, dNot, dAndV, dNotV, dChain, dIf, dNil, dCons, dStar, dTup, dLst, dCall, dItL, dItT, dRng1, dRng2, dEnum, gdName, gdTup2, gdTup3, dYes, wipeR, dAppend, dExtend, dPopA, dAugL, dCut, dIsi, dLc_eq, dLc2_eq, dFor, dWhile, fAdd, fSub, fLt, fLe, fGt, fGe, fI2_eq, fNeg_eq, fTuple_nis, fTuple_l, fList_l, fList_tN, fCat_eq, unD_nil, unD_d, startR, List.map_cons, List.map_nil, List.length_cons, List.length_nil, List.replicate, List.cons_append, List.nil_append, Nat.zero_add, Nat.reduceAdd, Nat.reduceSub, List.append_nil, List.getElem?_cons_zero, List.getElem?_cons_succ, List.set_cons_zero, List.set_cons_succ, Option.some.injEq, Prod.mk.injEq, Option.map_some, Option.map_none, W.d.injEq, W.l.injEq, PyData.tuple.injEq, PyData.int.injEq, PyData.bool.injEq, PyData.str.injEq, reduceCtorEq, retOk_d, retOk_1, retOk_2, asgOk_d, asgOk_2, and_assoc, exists_and_left, exists_eq_left', exists_eq_left, true_and, and_true, ex_gD, ex_tN, fLen_gD, fLen_tN, fLen_l, len100, Int.toNat_natCast, Nat.reduceLeDiff, isT_ii, isT_ib, isT_tt, isT_ss, is_integer_eq, is_in_eq, is_list_eq, is_list_tN, is_list_gD, if_true, eq_self, Bool.false_eq_true, if_false, ge1, ge2, one_ne, two_ne, true_implies, unD_append, ex_pair, ex_trip])
  exact fIxT_0 ⟨rfl, r S.length h2⟩
end Wk

/-! part HV -/
set_option Elab.async false
set_option linter.all false
set_option maxRecDepth 100000
set_option maxHeartbeats 4000000
namespace Wk
open PySem PySem.Spec PyProof.Rows L2 Dw Gg Ik
section
variable {X : Cx} {pins : List (Addr × Obj)} {σ : L2.St} {H H' : Hp} {s : Shared} {T : List NdefX.NTab} {K : PySem.W.Frag}
theorem code_ext {c' : Addr} {q : Str} (e : Ext T H H') (h : H c' = some (LamX.CodeO c' q)) : H' c' = some (LamX.CodeO c' q) := e.kp _ _ h LamX.codeO_ne
/-- the lambda is made, its table written or read -/
theorem lam_mk {c Pc : Addr} {q : Str} {params : Arguments} {body : Expr} {scope : Scope} {pos : Pos} {Ex : Value → Shared → Prop} {Qv : Value → Shared → Prop} (I : Inv X pins σ H s) (TB : LamX.TabB X.base X.mg c Pc) (hcode : X.env.code = .ref c) (hq : X.env.qual ++ "<lambda>" = q)
    (hT : T = [(Pc, fun _ _ => q)]) (tb : NdefX.TabsN T H) (hdef : defaultsOf params X.env = ([], [])) (hfree : ∀ y ∈ scope.names, y.2 = .free → ∃ c, X.env.cells.lookup y.1 = some c)
    (k : ∀ (f c' : Addr) (pm ctv : Value) (H1 : Hp) (s1 : Shared), Inv X pins σ H1 s1 → Ext T H H1 → s1.heap.get? f = some (PySem.W.kla_obj "<lambda>" q params body scope (cloFrom X.env.cells scope.names []) pm c' ctv) → H1 f = none → f ∉ L2.frs X.stack → H1 c' = some (LamX.CodeO c' q) → Qv (.ref f) s1) :
    wpAny (model X.prog X.w) X.A (eval (.Lambda params body scope pos) X.env) Qv Ex s := by
  subst hT
  subst hq
  obtain ⟨ps, gP, tr, am⟩ := NdefX.TabN.to (tb _ (List.mem_singleton.mpr rfl))
  refine PySem.W.kla_eval hdef ?_
  have bP := TB.bm.keeps I.bk
  have oP := I.hok Pc _ gP
  have new_fr : ∀ f, s.heap.objs.size ≤ f → f ∉ L2.frs X.stack := fun f hf z => by
    rcases List.mem_cons.mp (I.stkSub _ z) with e | e
    · subst e
      exact absurd (Nat.lt_of_lt_of_le I.lt hf) (Nat.lt_irrefl _)
    · exact I.nofs hf e
  cases hc : codeAmong pos ps.toList with
  | some cv =>
    obtain ⟨c', e, hco⟩ := am pos cv hc
    subst e
    refine PySem.W.kla_makeFunctionHit (mg := X.mg) (c := c) (P := Pc) (ps := ps) (closure_ok hfree) I.ok.glob (I.mod.glob.keeps I.bk) hcode (TB.code.keeps I.bk) oP tr hc bP fun ctv h1 tk hx hz => ?_
    refine k h1.objs.size c' _ ctv H _ (I.kept fun b o e => Heap.get?_push_of_some _ (hx b o e)) (Ext.refl H) (Heap.get?_push_size _ rfl) (I.hok.fresh hz) (new_fr _ hz) hco
  | none =>
    refine PySem.W.kla_makeFunction (mg := X.mg) (c := c) (P := Pc) (ps := ps) (closure_ok hfree) I.ok.glob (I.mod.glob.keeps I.bk) hcode (TB.code.keeps I.bk) oP tr hc TB.gP bP fun c' ctv h1 tk hx hge hlt hrec htb => ?_
    obtain ⟨c2, oc, vs, t, e2, hoc, hd, hv⟩ := hrec
    cases e2
    have z1 : s.heap.objs.size ≤ h1.objs.size := Nat.le_trans hge (Nat.le_of_lt hlt)
    have nC : H c' = none := I.hok.fresh hge
    have nPC : Pc ≠ c' := ne_of_none gP nC
    have I1 := LamX.inv_table (t' := tk) (more := #[rawInt pos.line, rawInt pos.col, .ref c']) (q := X.env.qual ++ "<lambda>")
      (h' := h1.push (PySem.W.kla_obj "<lambda>" (X.env.qual ++ "<lambda>") params body scope (cloFrom X.env.cells scope.names []) ((X.mg "__name__").getD .none) c' ctv)) I gP
      (fun b o hb e => Heap.get?_push_of_some _ (hx b o hb e)) (Heap.get?_push_of_some _ htb) hge ⟨oc, vs, t, Heap.get?_push_of_some _ hoc, hd, hv⟩
    have kpN : ∀ b o, H b = some o → (∀ us, o ≠ .tbl us) → upd (upd H Pc (.tbl (ps ++ #[rawInt pos.line, rawInt pos.col, .ref c']))) c' (LamX.CodeO c' (X.env.qual ++ "<lambda>")) b = some o := fun b o e n => by
      have nb : b ≠ Pc := fun z => by
        subst z
        rw [gP] at e
        exact n ps (Option.some.inj e).symm
      rw [upd_ne (ne_of_none e nC), upd_ne nb]
      exact e
    have tb1 : NdefX.TabsN [(Pc, fun _ _ => X.env.qual ++ "<lambda>")] (upd (upd H Pc (.tbl (ps ++ #[rawInt pos.line, rawInt pos.col, .ref c']))) c' (LamX.CodeO c' (X.env.qual ++ "<lambda>"))) := fun p hp => by
      obtain rfl := List.mem_singleton.mp hp
      have eL : (ps ++ #[rawInt pos.line, rawInt pos.col, .ref c']).toList = ps.toList ++ [rawInt pos.line, rawInt pos.col, .ref c'] := by simp
      refine NdefX.TabN.of ⟨_, by rw [upd_ne nPC, upd_same], by rw [eL]; exact PySem.TriplesOk_snoc _ _ _ _ tr, fun p' cv hcv => ?_⟩
      rw [eL] at hcv
      rcases LamX.among_app _ tr hcv with z | z
      · obtain ⟨c0, a1, a2⟩ := am p' cv z
        exact ⟨c0, a1, kpN _ _ a2 LamX.codeO_ne⟩
      · exact ⟨c', z, upd_same⟩
    refine k h1.objs.size c' _ ctv _ _ I1 ⟨kpN, fun b hb => ?_, fun _ => tb1⟩ (Heap.get?_push_size _ rfl) ?_ (new_fr _ z1) upd_same
    · by_cases q1 : b = c'
      · rw [q1]
        exact nC
      · by_cases q2 : b = Pc
        · rw [q2, upd_ne nPC, upd_same] at hb
          cases hb
        · rw [upd_ne q1, upd_ne q2] at hb
          exact hb
    · rw [upd_ne (Nat.ne_of_gt hlt), upd_ne (Nat.ne_of_gt (Nat.lt_of_lt_of_le (Heap.lt_size oP) z1))]
      exact I.hok.fresh z1
/-- a call of a name that holds a function of the base -/
theorem pe_callF {k i : Nat} {f : Addr} {fd : FuncData} {ps : List Str} {sp : Sp} {x : Str} {p pos : Pos} {e : Expr} {es : List Expr} {t : TA} (F : FnOk X.prog X.w X.K X.mg X.base CX0 k f fd ps sp) (hf : ∃ oc od fd' sl, X.base.get? f = some ⟨oc, od, .func fd', sl⟩) (hr : Room k X.A)
    (hb : Binds X.K fd ps []) (ha : PA X (e :: es) t) (hN : X.N[i]? = some x := by rfl) (hv : Vis X.env.scope x := by first | exact Or.inl rfl | exact Or.inr (Or.inl rfl) | exact Or.inr (Or.inr rfl)) (hdb : (x == ("__debug__" : Str)) = false := by decide) (hcd : (x == ("__classdict__" : Str)) = false := by decide)
    (he : starEach (e :: es) X.env = (false, eval e X.env) :: starEach es X.env := by rfl) (hpl : (backTo pos (starEach es X.env)).any (·.1) = false := by rfl) : PE X (.Call (.Name x p) (e :: es) [] pos) (tCallL i f sp [] E0 t) := by
  refine ⟨fun pins s σ H Q I ⟨hs, ht⟩ => wpAny_Call_Name_kw (thn ((pe_var (pos := p) hN hv hdb hcd).run pins s σ H (fun v H1 => v = .ref f ∧ H1 = H) I ⟨.ref f, hs, rfl, rfl⟩) fun u s1 ⟨v, H1, I1, r1, q1⟩ => ?_)⟩
  obtain ⟨ev, eH⟩ := q1
  subst ev
  rw [eH] at I1
  obtain rfl : u = Value.ref f := r1
  obtain ⟨oc, od, fd', sl, ho⟩ := hf
  refine PySem.W.callWith_F ⟨oc, od, fd', sl, I1.bk _ _ ho⟩ (thn (ha.run pos pins s1 σ H _ I1 ht) fun us s2 ⟨vs, H2, I2, r, q⟩ => ⟨⟨oc, od, fd', sl, I2.bk _ _ ho⟩, run_fn F hr hb .nil pass0 I2 r q⟩) he hpl
/-- a comprehension over data whose test asks more than data -/
theorem canLcF {i : Nat} {it : DI} {tt : DB} {te : DT} {vs : List Nat} {tz : TT} {Q : VK} (hi : i ∈ vs) (hT : ∀ σ2 H2 Q2, L2.wipe σ2 vs = L2.wipe σ vs → Ext T H H2 → canB T K tt σ2 H2 Q2 → tz σ2 H2 Q2) (h : can T K (dLc it (gdName i) tt te vs) σ H Q) : tLc (canI T K it) (gName i) tz (can T K te) vs σ H Q := by
  obtain ⟨H0, ρ, R, rep, ht, k⟩ := h
  refine ⟨H0, ρ, _, rep, ht, fun J H1 xs n e ⟨hl, sel, f, hb, r⟩ hJ D hD => ?_⟩
  have hJ1 : ItOk T K J H1 xs := by
    have h := hJ (fun _ => False) (fun _ z => z.elim) (fun _ _ z => z)
    rw [strip_none] at h
    exact h
  refine ⟨fun i m H' => m = xs.length - i ∧ i ≤ xs.length ∧ LcW T K H1 D (((xs.take i).filter sel).map f) H', ⟨_, rfl, Nat.zero_le _, Ext.new hD, [], upd_same, .nil, rfl⟩, ?_⟩
  rintro j m H' ⟨rfl, hj, hw⟩
  obtain ⟨jg, js, jy⟩ := hJ1 H' hw.ex
  by_cases hlt : j < xs.length
  · refine .inr ⟨jg j hlt, fun H2 => LcW T K H1 D (((xs.take (j + 1)).filter sel).map f) H2, fun H2 h2 => ⟨xs.length - (j + 1), by omega, rfl, hlt, h2⟩, fun v H2 y => ?_⟩
    have hx : xs[j]? = some xs[j] := List.getElem?_eq_getElem hlt
    obtain ⟨e2, dv, iv⟩ := jy j _ v H2 hx y
    have rep2 : RepS T K H0 H2 (L2.wipe σ vs) (wipeR ρ vs) := ((rep.ext e).ext (hw.ex.trans e2)).wipe _
    have wq : L2.wipe ((L2.wipe σ vs).set i (some v)) vs = L2.wipe σ vs := (wipe_at hi).trans (wipe_wipe fun _ z => z)
    refine ⟨wq, hT _ _ _ wq (e.trans (hw.ex.trans e2)) ?_⟩
    refine g_name i v _ H0 H2 H2 _ _ _ (fun σ2 H3 => canB T K tt σ2 H3 fun b H3 =>
        if b = true then can T K te σ2 H3 fun y H4 => ∃ acc, H4 D = some (.lst acc) ∧ acc.length < sizeLine ∧ LcW T K H1 D (((xs.take (j + 1)).filter sel).map f) (upd H4 D (.lst (acc ++ [y]))) else LcW T K H1 D (((xs.take (j + 1)).filter sel).map f) H3) rep2 (Ext.refl _) dv iv (hb j _ hx) fun σ' ρ' rep' hk => ?_
    refine ⟨H0, ρ', _, rep', hk, fun b H3 e3 ⟨hb1, hb2⟩ => ?_⟩
    cases b with
    | true =>
      refine iteT ⟨H0, ρ', _, rep'.ext e3, hb2 rfl, fun y H4 w n e4 rw' _ ew => ?_⟩
      subst ew
      have a := lcw_app hw hD (e2.trans (e3.trans e4)) rw'.2 rw'.1 (by
        have h1 : (((xs.take j).filter sel).map f).length ≤ j := by
          rw [List.length_map]
          exact Nat.le_trans (List.length_filter_le _ _) (by rw [List.length_take]; exact Nat.min_le_left _ _)
        omega)
      rw [take_fm hx, if_pos hb1.symm]
      exact a
    | false =>
      refine iteF ?_
      rw [take_fm hx, if_neg (by rw [← hb1]; decide), List.append_nil]
      obtain ⟨us, h1, h2, h4⟩ := hw.at_
      exact ⟨(hw.ex.trans e2).trans e3, us, (e2.trans e3).lst h1, DpAll.tups (e2.trans e3).tupE _ _ h4 h2, h4⟩
  · have ej : j = xs.length := by omega
    subst ej
    rw [List.take_length] at hw
    obtain ⟨us, h1, h2, h3⟩ := hw.at_
    exact .inl ⟨js, k (.ref D) H' (.l ((xs.filter sel).map f)) 2 (e.trans hw.ex) ⟨D, us, rfl, h1, h2, h3⟩ (frs_new rep e fun _ p ep => by cases ep; exact hD) r⟩
end
end Wk

/-! part HW -/
set_option Elab.async false
set_option linter.all false
set_option maxRecDepth 100000
set_option maxHeartbeats 4000000
namespace Wk
open PySem PySem.Spec PyProof.Rows L2 Dw Gg Ik
section
variable {T : List NdefX.NTab} {K : PySem.W.Frag} {P : Program} {w : World} {mg : Str → Option Value} {B base : Heap} {f c' g : Addr} {fd fdl fdg : FuncData} {q : Str} {m : Int}
theorem canSeq {t u : DS} (D : Ends) (σ : L2.St) (H : Hp) (h : canS T K (dSeq t u) D σ H) : tSeq (canS T K t) (canS T K u) D σ H := by
  obtain ⟨H0, ρ, E, rep, h, kn, kr, kb, kc⟩ := h
  exact ⟨H0, ρ, _, rep, h, fun H9 σ' H' ρ' e9 rep' hu => ⟨H9, ρ', E, rep', hu, fun H8 σ2 H2 ρ2 e8 => kn H8 σ2 H2 ρ2 (e9.trans e8), fun v H2 w e2 rw' nw => kr v H2 w (e9.trans e2) rw' (fun q p ep => e9.dm p (nw q p ep)), fun H8 σ2 H2 ρ2 e8 => kb H8 σ2 H2 ρ2 (e9.trans e8), fun H8 σ2 H2 ρ2 e8 => kc H8 σ2 H2 ρ2 (e9.trans e8)⟩, kr, kb, kc⟩
def sp_lam (T : List NdefX.NTab) (K : PySem.W.Frag) (c' : Addr) (q : Str) (m : Int) : Sp := fun vs H Q E => H c' = some (LamX.CodeO c' q) ∧ toSp T K (sp_fits m) vs H Q E
def sp_least (T : List NdefX.NTab) (K : PySem.W.Frag) (f c' : Addr) (q : Str) (m : Int) : Sp := fun vs H Q _ => ∃ v n g, vs = [v, .ref f] ∧ H c' = some (LamX.CodeO c' q) ∧ RW K H v (.d (gD n g)) ∧ Ok n g ∧ NdefX.TabsN T H ∧ (∃ S, Gives n g m S) ∧
  ∀ v H' S, Ext T H H' → RW K H' v (.d (.tuple [nI S.length, tN S])) → Gives n g m S → (∀ S', Gives n g m S' → S.length ≤ S'.length) → Q v H'
theorem sc_least_of : FnScope ["web", "fits", "some", "called"] ["web", "fits"] (defScope (top 62)) := ⟨rfl, rfl, rfl, by decide +kernel, rfl, by decide +kernel, by decide +kernel⟩
/-- the test of the comprehension -/
theorem test_of {t : DT} {σ σ2 : L2.St} {H H2 : Hp} {Q2 : Bool → Hp → Prop} (h1 : σ[1]? = some (some (.ref f))) (hc : H c' = some (LamX.CodeO c' q)) (hw : L2.wipe σ2 [3] = L2.wipe σ [3]) (e : Ext T H H2) (h : canB T K (dTst (dCall (sp_fits m) (dCons t dNil))) σ2 H2 Q2) :
    tB (tCallL 1 f (sp_lam T K c' q m) [] E0 (canA T K (dCons t dNil))) σ2 H2 Q2 := by
  obtain ⟨H0, ρ, R, rep, ht, k⟩ := canTst σ2 H2 Q2 h
  refine ⟨?_, H0, ρ, _, rep, ht, fun vs H3 ws e3 rs hs => ?_⟩
  · have e1 := congrArg (fun l : L2.St => l[1]?) hw
    have e2 : (σ2.set 3 none)[1]? = (σ.set 3 none)[1]? := e1
    rw [List.getElem?_set_ne (by decide), List.getElem?_set_ne (by decide)] at e2
    rw [e2]
    exact h1
  · show sp_lam T K c' q m (vs ++ []) H3 _ E0
    rw [List.append_nil]
    exact ⟨code_ext (e.trans e3) hc, ws, _, rs, e3.tb rep.tb, hs, fun v H' w e2 rw' nw r => k v H' w 2 (e3.trans e2) rw' (frs_new rep e3 nw) r⟩
set_option maxHeartbeats 8000000 in
theorem fn_least (TX : Txt mg) (F : FunD K "least_of" "least_of" (defArgs (top 62)) (defBody (top 62)) (defScope (top 62)) [] [] g fdg) (Gc : Cal P w K mg B 1 "choices" ["many"] (toSp T K sp_choices)) (Gt : Cal P w K mg B 2 "told_in" ["web", "called"] (toSp T K sp_told_in))
    (L : FnOk P w K mg B CX0 2 f fdl ["here"] (sp_lam T K c' q m)) (hf : ∃ oc od fd' sl, B.get? f = some ⟨oc, od, .func fd', sl⟩) (hbL : Binds K fdl ["here"] []) : FnOk P w K mg B CX0 3 g fdg ["web", "fits"] (sp_least T K f c' q m) := by
  refine F.ok (k := 2) sc_least_of (fun vs H Q E h => by obtain ⟨v, n, g, rfl, _⟩ := h; rfl) (fun cdv A outer s H vs Q E hr h => ?_)
  refine ⟨tSeq (fun D σ H => (σ[1]? = some (some (.ref f)) ∧ H c' = some (LamX.CodeO c' q)) ∧ canS T K (t_least1 m) D σ H) (canS T K t_least2), PSs.nox (pss_cons (PS_imp (ps_setLc (i := 2) (own := [(PySem.Str.ofString "called", 3)]) rfl sc_least_of.nd rfl rfl (sw_true rfl rfl rfl (by decide +kernel)) (i_list (x_call Gc hr (a_cons (x_cb u_len call_len_seq TX.len_ (x_var 0)) a_nil))) (blkOk_by (by kernel_rfl))
      (fun _ _ _ _ _ => pg_name (i := 3) sc_least_of.nd rfl (by first | exact .inl rfl | exact .inr rfl)) (fun _ _ _ _ _ => pts_one (pt_val (pe_callF (i := 1) L hf hr hbL (a_cons (x_call Gt hr (a_cons (x_var 0) (a_cons (x_var 3) a_nil))) a_nil)))) (fun _ _ _ _ _ => x_tup (a_cons (x_cb u_len call_len_seq TX.len_ (x_var 3)) (a_cons (x_var 3) a_nil))))
      fun D σ H ⟨⟨h1, h2⟩, h3⟩ => canLcF (List.mem_singleton.mpr rfl) (fun σ2 H2 Q2 hw e hb => test_of h1 h2 hw e hb) (canAsg D σ H h3))
    (s_cons (s_if (b_cmp o_eq (op_eqD hr.units) (x_var 2) (x_lst a_nil)) (s_one s_never) s_nil) (s_one (s_ret (x_cb u_min (cr_minD rfl hr.units) TX.min_ (x_var 2)))))), ?_⟩
  obtain ⟨v, n, g, rfl, hc, rw', o, tb, hS, hq⟩ := h
  refine ⟨⟨rfl, hc⟩, ?_⟩
  refine canSeq (t := t_least1 m) (u := t_least2) { nx := fun _ H' => Q .non H', rt := Q } _ H ?_
  refine ⟨H, [some (.d (gD n g), false), none, none, none], { nx := fun _ => False, rt := fun w => ∃ S, w = .d (.tuple [nI S.length, tN S]) ∧ Gives n g m S ∧ ∀ S', Gives n g m S' → S.length ≤ S'.length }, ?_, sem_least o hS fun S h1 h2 => ⟨S, rfl, h1, h2⟩, fun _ _ _ _ _ _ z => z.elim, fun v' H' w' e rw2 _ ⟨S, ew, h1, h2⟩ => ?_, fun _ _ _ _ _ _ z => z.elim, fun _ _ _ _ _ _ z => z.elim⟩
  · refine ⟨Ext.refl _, tb, rfl, fun i w o e => ?_, fun i j xs ys p e1 _ _ _ => ?_⟩
    · match i, e with
      | 0, e =>
        cases e
        exact ⟨v, rfl, rw', fun z => (nomatch z)⟩
      | 1, e => cases e
      | 2, e => cases e
      | 3, e => cases e
      | n + 4, e => cases e
    · match i, e1 with
      | 0, e1 => cases e1
      | 1, e1 => cases e1
      | 2, e1 => cases e1
      | 3, e1 => cases e1
      | n + 4, e1 => cases e1
  · subst ew
    exact hq v' H' S e rw2 h1 h2
end
end Wk

/-! part HX -/
set_option Elab.async false
set_option linter.all false
set_option maxRecDepth 100000
set_option maxHeartbeats 4000000
namespace Wk
open PySem PySem.Spec PyProof.Rows L2 Dw Gg Ik
/-- what the lambda's scope is -/
structure LamZ (sc scope : Scope) : Prop where
  kind : scope.kind = .function
  co : scope.isCoroutine = false
  gen : scope.isGenerator = false
  own : ∀ y ∈ scope.names, y.2 ≠ .cell
  par : scope.names.lookup ("here" : Str) = some .local
  fre : scope.names.lookup ("many" : Str) = some .free
  up : ∀ y ∈ scope.names, y.2 = .free → sc.names.lookup y.1 = some .cell ∨ sc.names.lookup y.1 = some .free
def lamZB (sc scope : Scope) : Bool :=
  decide (scope.kind = .function) && !scope.isCoroutine && !scope.isGenerator && decide (scope.names.lookup ("here" : Str) = some .local) && decide (scope.names.lookup ("many" : Str) = some .free) &&
    scope.names.all fun y => !decide (y.2 = .cell) && (!decide (y.2 = .free) || decide (sc.names.lookup y.1 = some .cell) || decide (sc.names.lookup y.1 = some .free))
theorem lamZ_by {sc scope : Scope} (h : lamZB sc scope = true) : LamZ sc scope := by
  unfold lamZB at h
  simp only [Bool.and_eq_true, Bool.or_eq_true, Bool.not_eq_true', decide_eq_true_eq, decide_eq_false_iff_not, List.all_eq_true] at h
  obtain ⟨⟨⟨⟨⟨h1, h2⟩, h3⟩, h4⟩, h5⟩, h6⟩ := h
  refine ⟨h1, h2, h3, fun y hy => (h6 y hy).1, h4, h5, fun y hy e => ?_⟩
  rcases (h6 y hy).2 with (z | z) | z
  · exact absurd e z
  · exact .inl z
  · exact .inr z
section
variable {X : Cx} {T : List NdefX.NTab}
theorem LamZ.has {scope : Scope} (L : LamZ X.env.scope scope) (ok : X.Ok) : ∀ y ∈ scope.names, y.2 = .free → ∃ c, X.env.cells.lookup y.1 = some c := fun y hy e => (L.up y hy e).elim (fun k => ok.has _ (.inl k)) fun k => ok.has _ (.inr k)
/-- what the lambda closes over, in the heap that stays -/
theorem clo_of {pins : List (Addr × Obj)} {σ : L2.St} {H : Hp} {s : Shared} {scope : Scope} {m : Int} (I : Inv X pins σ H s) (L : LamZ X.env.scope scope) (hfn : ∀ x, X.fn x = true) (hN1 : X.N[1]? = some ("many" : Str)) (hc : X.env.scope.names.lookup ("many" : Str) = some .cell) (h1 : σ[1]? = some (some (.int m))) :
    Clo (stay s.heap H (L2.frs X.stack)) scope (cloFrom X.env.cells scope.names []) m := by
  have up1 : ∀ {y c}, (cloFrom X.env.cells scope.names []).lookup y = some c → X.env.cells.lookup y = some c := fun {y c} e => by
    rcases cloFrom_mem (PySem.mem_of_lookup e) with z | ⟨z1, z2⟩
    · cases z
    · obtain ⟨c1, h⟩ := L.has I.ok _ z1 rfl
      have h : X.env.cells.lookup y = some c1 := h
      have e2 : c = c1 := by
        rw [z2, h] <;> rfl
      rw [e2]
      exact h
  have look : ∀ {y}, scope.names.lookup y = some .free → ∃ c, (cloFrom X.env.cells scope.names []).lookup y = some c := fun {y} hl => by
    have hy : (y, NameKind.free) ∈ scope.names := PySem.mem_of_lookup hl
    exact mem_lookup (cloFrom_has (cells := X.env.cells) (acc := []) hy)
  have nof : ∀ {y c}, X.env.cells.lookup y = some c → c ∉ L2.frs X.stack := fun {y c} e z => by
    rcases List.mem_cons.mp (I.stkSub _ z) with z | z
    · exact I.cne y c e z
    · obtain ⟨_, o, ho, _⟩ := I.ok.funs.mem z
      exact absurd (Nat.lt_of_lt_of_le (Heap.lt_size ho) (I.ok.cab y c (hfn y) e)) (Nat.lt_irrefl _)
  have st : ∀ {y c} {v : Option Value}, X.env.cells.lookup y = some c → s.heap.IsCell c v → (stay s.heap H (L2.frs X.stack)).IsCell c v := fun {y c v} e ⟨o, ho, hd⟩ => ⟨o, stay_get ho (I.freeC y c e) (nof e), hd⟩
  refine ⟨L.kind, L.co, L.gen, L.own, L.par, fun x y c e1 e2 => I.ok.inj x y c (up1 e1) (up1 e2), fun y hy => look hy, fun y c e => ?_, L.fre, ?_⟩
  · obtain ⟨v, hv⟩ := I.cell y c (up1 e)
    exact ⟨v, st (up1 e) hv⟩
  · obtain ⟨c, hl⟩ := look L.fre
    obtain ⟨mp, _, hn⟩ := I.loc
    obtain ⟨u, ru, q⟩ := hn 1 _ _ hN1 h1 (.inr (.inl hc))
    obtain ⟨t, rfl⟩ := ru
    rcases q with ⟨k, _⟩ | ⟨_, c2, e2, hv⟩
    · have k : X.env.scope.names.lookup ("many" : Str) = some .local := k
      rw [hc] at k
      cases k
    · have e3 := up1 hl
      rw [e2] at e3
      cases e3
      exact ⟨c, t, hl, st e2 hv⟩
/-- least_of(web, lambda here: ..) -/
theorem x_least {g c Pc : Addr} {fdg : FuncData} {q : Str} {params : Arguments} {body : Expr} {scope : Scope} {p p2 lpos pos : Pos} (hm : X.mg ("least_of" : Str) = some (.ref g)) (hk : PySem.W.keepIn X.K (.ref g) = true) (hb : Binds X.K fdg ["web", "fits"] [])
    (F : ∀ (B : Heap) (f c' : Addr) (fdl : FuncData) (m : Int), FnOk X.prog X.w X.K X.mg B CX0 2 f fdl ["here"] (sp_lam T X.K c' q m) → (∃ oc od fd' sl, B.get? f = some ⟨oc, od, .func fd', sl⟩) → Binds X.K fdl ["here"] [] → FnOk X.prog X.w X.K X.mg B CX0 3 g fdg ["web", "fits"] (sp_least T X.K f c' q m))
    (TB : LamX.TabB X.base X.mg c Pc) (hcode : X.env.code = .ref c) (hT : T = [(Pc, fun _ _ => q)]) (hr : Room 3 X.A) (L : LamZ X.env.scope scope) (hdef : defaultsOf params X.env = ([], []))
    (hbind : ∀ (cl : List (Str × Addr)) (pm cv ctv u : Value), bindArgs (PySem.W.kla_fn "<lambda>" q params body scope cl pm cv ctv) ⟨[u], []⟩ = pure [(("here" : Str), u)])
    (hbody : ∀ (B : Heap) (f c' : Addr) (clo : List (Str × Addr)) (A : Around) (outer : List Env) (s : Shared) (H : Hp) (E : XK), Room 1 (A.deeper (PySem.W.envX q scope s.heap.objs.size f (.ref c') clo)) → PE (lcx X.prog X.w X.K X.mg B q scope clo f c' A outer s H E) body (can T X.K t_fits))
    (hq : X.env.qual ++ "<lambda>" = q := by rfl) (hg : Gl X ("least_of" : Str) := by rfl) (hfn : ∀ x, X.fn x = true := by intro _; rfl) (hN0 : X.N[0]? = some ("web" : Str) := by rfl) (hv0 : Vis X.env.scope ("web" : Str) := by exact .inl rfl) (hN1 : X.N[1]? = some ("many" : Str) := by rfl) (hc : X.env.scope.names.lookup ("many" : Str) = some .cell := by rfl) :
    PE X (.Call (.Name ("least_of" : Str) p) [.Name ("web" : Str) p2, .Lambda params body scope lpos] [] pos) (can T X.K dLeast) := by
  refine ⟨fun pins s σ H Q I h => ?_⟩
  obtain ⟨H0, ρ, R, rep, ⟨n, gA, m, o1, o2, e0, e1, o, hS, hR⟩, kq⟩ := h
  obtain ⟨vw, w1, rw1, _⟩ := rep.at_ 0 _ _ e0
  obtain ⟨vm, w2, rw2, _⟩ := rep.at_ 1 _ _ e1
  obtain rfl := rw_int rw2
  refine wpAny_Call_Name_kw (ld_glob I hg hm ?_ (by decide))
  refine PySem.W.callWith_K (h₀ := X.base) I.ok.mod.kin hk ?_ (by rfl) (by rfl)
  show wpAny _ _ (spliced ((false, eval (.Name ("web" : Str) p2) X.env) :: backTo pos (starEach [.Lambda params body scope lpos] X.env))) _ _ s
  refine Calls.spliced_cons (thn ((pe_var (i := 0) (pos := p2) hN0 hv0).run pins s σ H (fun v H1 => v = vw ∧ H1 = H) I ⟨vw, w1, rfl, rfl⟩) fun u s1 ⟨v, H1, I1, r1, q1⟩ => ?_)
  obtain ⟨ev, eH⟩ := q1
  subst ev
  rw [eH] at I1
  show wpAny _ _ (spliced ((false, eval (.Lambda params body scope lpos) X.env) :: backTo pos (starEach [] X.env))) _ _ s1
  refine Calls.spliced_cons (lam_mk I1 TB hcode hq hT rep.tb hdef (L.has I.ok) fun f c' pm ctv H2 s2 I2 e2 hf hfn2 hfr hco => Calls.spliced_nil ⟨I2.kIn, ?_⟩)
  obtain ⟨kb, env⟩ := stay_env I2
  have hB : (stay s2.heap H2 (L2.frs X.stack)).get? f = some (PySem.W.kla_obj "<lambda>" q params body scope (cloFrom X.env.cells scope.names []) pm c' ctv) := stay_get hf hfn2 hfr
  have C := clo_of I2 L hfn hN1 hc w2
  subst hq
  have FL : FnOk X.prog X.w X.K X.mg (stay s2.heap H2 (L2.frs X.stack)) CX0 2 f (PySem.W.kla_fn "<lambda>" (X.env.qual ++ "<lambda>") params body scope (cloFrom X.env.cells scope.names []) pm (.ref c') ctv) ["here"] (sp_lam T X.K c' (X.env.qual ++ "<lambda>") m) :=
    lcx_ok (k := 1) (sp := sp_fits m) (t := t_fits) C hB (fun A outer s H E hr => hbody _ f c' _ A outer s H E hr) sem_fits
  have FG := F _ f c' _ m FL ⟨_, _, _, _, hB⟩ fun s us _ hl => by
    match us, hl with
    | [u], _ => exact BindsTo.of_eq (hbind _ _ _ _ _)
  refine wpAny_call (codeAny_mono (FG.run X.A X.stack s2 H2 ⟨[u, .ref f], []⟩ [u, .ref f] [v, .ref f] Q E0 hr env (hb s2 [u, .ref f] I2.kIn rfl) (.cons r1 (.cons rfl .nil)) ⟨v, n, gA, rfl, hco, rw1.ext e2, o, e2.tb rep.tb, hS, fun v' H' S e3 rw3 g1 g2 => kq v' H' _ 2 (e2.trans e3) rw3 frs_d (hR S g1 g2)⟩) fun r s3 hq => ?_)
  cases r with
  | error e => exact (show False from hq).elim
  | ok fl =>
    cases fl with
    | ret u => exact I2.after hq
    | next => exact False.elim hq
    | brk => exact False.elim hq
    | cont => exact False.elim hq
end
section
variable {T : List NdefX.NTab} {K : PySem.W.Frag} {P : Program} {w : World} {mg : Str → Option Value} {base : Heap} {f g c Pc : Addr} {fd fdg : FuncData}
/-- d_fn where the code object is told -/
theorem d_fnC {x qual : Str} {params : Arguments} {body : List Stmt} {scope : Scope} {N ps : List Str} {k : Nat} {s : DSp} {t : DS} {cd : Value} (F : FunD K x qual params body scope [] [] f fd) (hm : mg x = some (.ref f)) (hcode : fd.code = cd) (S : FnScope N ps scope)
    (hbd : ∀ (kV doc pm : Value) (an : Option Addr) (cdv ct : Value) (us : List Value), us.length = ps.length → bindArgs (PySem.W.fnOf x qual params body scope .none kV doc pm an cdv ct) ⟨us, []⟩ = pure (ps.zip us)) (hs : ∀ ws R, s ws R → ws.length = ps.length)
    (hb : ∀ (A : Around) (outer : List Env) (s : Shared) (H : Hp) (E : XK), Room k (A.deeper (envOfC qual scope s.heap.objs.size f cd)) → PSs (cxOf CX0 P w K mg base N qual scope f cd A outer s H E).nox body (canS T K t))
    (sem : ∀ ws R, s ws R → t { nx := fun _ => R (.d .none), rt := R } (startR N ws)) : Cal P w K mg base (k + 1) x ps (toSp T K s) := by
  have bn := F.bindsN hbd
  refine ⟨f, fd, ?_, hm, F.kp, bn⟩
  obtain ⟨oc, od, dV, kV, doc, pm, an, cdv, ct, osl, rfl, lk, hcd, _, _⟩ := F.ex
  obtain rfl : cdv = cd := hcode
  refine fn_of lk hcd S (fun vs H Q E ⟨ws, R, rs, _, h, _⟩ => by rw [RWs.length rs]; exact hs ws R h) fun A outer s1 H vs Q E hr ⟨ws, R, rs, tb, h, hq⟩ => ?_
  refine ⟨_, (hb A outer s1 H E hr).nox, H, startR N ws, { nx := fun _ => R (.d .none), rt := R }, rep_start rs tb, sem ws R h, fun H9 σ' H' ρ' e9 r' h' => ?_, fun v H' w e rw' nw h' => hq v H' w e rw' nw h', fun _ _ _ _ _ _ z => z.elim, fun _ _ _ _ _ _ z => z.elim⟩
  exact hq .non H' (.d .none) (e9.trans r'.ex) ⟨rfl, .non⟩ (fun z => nomatch z) h'
theorem sc_calls_to_pairs : FnScope ["web", "many"] ["web", "many"] (defScope (top 63)) := ⟨rfl, rfl, rfl, by decide +kernel, rfl, by decide +kernel, by decide +kernel⟩
def qLam : Str := (("calls_to_pairs" : Str) ++ ".<locals>.") ++ "<lambda>"
set_option maxHeartbeats 8000000 in
theorem ok_calls_to_pairs (TX : Txt mg) (F : FunD K "calls_to_pairs" "calls_to_pairs" (defArgs (top 63)) (defBody (top 63)) (defScope (top 63)) [] [] f fd) (hm : mg "calls_to_pairs" = some (.ref f)) (hcode : fd.code = .ref c) (TB : LamX.TabB base mg c Pc) (hT : T = [(Pc, fun _ _ => qLam)])
    (FL : FunD K "least_of" "least_of" (defArgs (top 62)) (defBody (top 62)) (defScope (top 62)) [] [] g fdg) (hg : mg "least_of" = some (.ref g)) (G_need_web : Cal P w K mg base 3 "need_web" ["web"] (toSp T K sp_need_web)) (G_is_in : Cal P w K mg base 2 "is_in" ["value", "least", "most"] (toSp T K sp_is_in))
    (Gp : ∀ B, Cal P w K mg B 1 "pairs_in" ["web"] (toSp T K sp_pairs_in)) (Gc : ∀ B, Cal P w K mg B 1 "choices" ["many"] (toSp T K sp_choices)) (Gt : ∀ B, Cal P w K mg B 2 "told_in" ["web", "called"] (toSp T K sp_told_in)) :
    Cal P w K mg base 4 "calls_to_pairs" ["web", "many"] (toSp T K sp_calls_to_pairs) := by
  refine d_fnC (k := 3) (t := t_calls_to_pairs) F hm hcode sc_calls_to_pairs (fun _ _ _ _ _ _ us hl => match us, hl with | [_, _], _ => rfl) (fun ws R h => by obtain ⟨n, g, m, rfl, _⟩ := h; rfl) (fun A outer s H E hr => ?_) sem_calls_to_pairs
  refine (s_cons (s_expr (x_call G_need_web hr (a_cons (x_var 0) a_nil)))
      (s_cons (s_if (b_not (b_val (x_call G_is_in hr (a_cons (x_var 1) (a_cons x_int (a_cons x_int a_nil)))))) (s_one s_never) s_nil)
      (s_one (s_ret (x_ix o_ixT ix_tup (x_least hg FL.kp (FL.bindsN fun _ _ _ _ _ _ us hl => match us, hl with | [_, _], _ => rfl) (fun B f c' fdl m L hf hb => fn_least TX FL (Gc B) (Gt B) L hf hb) TB rfl hT hr ?L rfl (fun _ _ _ _ _ => rfl) ?B) x_int)))))
  case L => exact lamZ_by (by kernel_rfl)
  case B => exact fun B f c' clo A outer s H E hr => x_cmp o_ge op_ge (x_cb u_len call_len_seq TX.len_ (x_call (Gp B) hr (a_cons (x_var 0) a_nil))) (x_var 1)
end
end Wk

/-! part HY -/
set_option Elab.async false
set_option linter.all false
set_option maxRecDepth 100000
set_option maxHeartbeats 4000000
namespace Wk
open PySem PySem.Spec PyProof.Rows L2 Dw Gg Ik
section
variable {T : List NdefX.NTab} {K : PySem.W.Frag} {P : Program} {w : World} {mg : Str → Option Value} {base : Heap} {f : Addr} {fd : FuncData}
theorem room65 {k : Nat} {A : Around} (r : Room k A) : A.units + 65 < cLine := by
  have := r.un
  omega
theorem sc_law : FnScope ["_law_script", "_law_row", "_law_web_here", "_law_calls", "_law_few", "_law_some", "_law_many", "_law_best", "_law_people", "_law_person", "_law_rule"] ["_law_script"] (defScope (top 69)) := ⟨rfl, rfl, rfl, by decide +kernel, rfl, by decide +kernel, by decide +kernel⟩
def sp_law (T : List NdefX.NTab) (K : PySem.W.Frag) : Sp := fun vs H Q _ => ∃ (a : Addr) (ns : List Int), vs = [.ref a] ∧ SqL K H a (ns.map V.int) ∧ NdefX.TabsN T H ∧ ∀ H', Q (.bl true) H'
def t_lawA (T : List NdefX.NTab) (K : PySem.W.Frag) : TS := tSeq (tAsg (tLst (tCons (tVar 0) (tCons (tC (.int 0)) (tCons (tC (.int 9895)) (tCons (tC (.int 0)) tNil))))) (gName 1))
  (tSeq (tAsg (tCall (sp_lawweb T K) [] E0 (tCons (tVar 1) (tCons (tC (.int 6)) tNil))) (gName 2)) (canS T K t_law))
theorem law_ok (vs : List V) (H : Hp) (Q : VK) (E : XK) (h : sp_law T K vs H Q E) : t_lawA T K { nx := fun _ H' => Q .non H', rt := Q } (L2.start ["_law_script", "_law_row", "_law_web_here", "_law_calls", "_law_few", "_law_some", "_law_many", "_law_best", "_law_people", "_law_person", "_law_rule"] vs) H := by
  obtain ⟨a, ns, rfl, hs, tb, hq⟩ := h
  refine ⟨_, rfl, big_of (show 4 ≤ 100000 by decide), fun r hr => ?_⟩
  have hrow : RowB K (upd H r (.lst [.ref a, .int 0, .int 9895, .int 0])) r a ns := by
    refine ⟨0, 9895, 0, upd_same, Int.le_refl _, ?_⟩
    rcases hs with (h | ⟨q, h⟩) | h
    · have ne : a ≠ r := ne_of_none h hr
      exact .inl ⟨ne, .inl (.inl ((upd_ne ne).trans h))⟩
    · have ne : a ≠ r := ne_of_none h hr
      exact .inl ⟨ne, .inl (.inr ⟨q, (upd_ne ne).trans h⟩)⟩
    · exact .inr fun H' => .inr h
  have tb1 : NdefX.TabsN T (upd H r (.lst [.ref a, .int 0, .int 9895, .int 0])) := (Ext.new hr).tb tb
  refine ⟨_, rfl, r, rfl, ⟨a, ns, hrow⟩, tb1, fun v H2 n g e rw' o => ?_⟩
  refine ⟨strip (upd H r (.lst [.ref a, .int 0, .int 9895, .int 0])) (only r), [none, none, some (.d (gD n g), true), none, none, none, none, none, none, none, none], { nx := fun _ => False, rt := fun w => w = .d (.bool true) }, ?_, sem_law o rfl, fun _ _ _ _ _ _ z => z.elim, fun v' H' w' e2 rw2 _ ew => ?_, fun _ _ _ _ _ _ z => z.elim, fun _ _ _ _ _ _ z => z.elim⟩
  · refine ⟨e, e.tb (tabs_strip upd_same tb1), rfl, fun i w o' h => ?_, fun i j xs ys p e1 _ _ _ => ?_⟩
    · match i, h with
      | 0, h => cases h
      | 1, h => cases h
      | 2, h =>
        cases h
        exact ⟨v, rfl, rw', fun z => (nomatch z)⟩
      | 3, h => cases h
      | 4, h => cases h
      | 5, h => cases h
      | 6, h => cases h
      | 7, h => cases h
      | 8, h => cases h
      | 9, h => cases h
      | 10, h => cases h
      | k + 11, h => cases h
    · match i, e1 with
      | 0, h => cases h
      | 1, h => cases h
      | 2, h => cases h
      | 3, h => cases h
      | 4, h => cases h
      | 5, h => cases h
      | 6, h => cases h
      | 7, h => cases h
      | 8, h => cases h
      | 9, h => cases h
      | 10, h => cases h
      | k + 11, h => cases h
  · subst ew
    obtain rfl := rw_bool rw2
    exact hq H'
set_option maxHeartbeats 16000000 in
theorem ok_law (TX : Txt mg) (F : FunD K "law" "law" (defArgs (top 69)) (defBody (top 69)) (defScope (top 69)) [] [] f fd) (G_web : Cal P w K mg base 2 "_law_web" ["_law_row", "_law_most"] (sp_lawweb T K))
    (G_greedy_row : Cal P w K mg base 4 "greedy_row" ["web"] (toSp T K sp_greedy_row)) (G_calls_to_rest : Cal P w K mg base 5 "calls_to_rest" ["web"] (toSp T K sp_calls_to_rest)) (G_ruled_row : Cal P w K mg base 5 "ruled_row" ["web", "rule"] (toSp T K sp_ruled_row)) (G_after : Cal P w K mg base 4 "after" ["web", "calls"] (toSp T K sp_after)) (G_last_web : Cal P w K mg base 4 "last_web" ["web"] (toSp T K sp_last_web)) (G_cut_people : Cal P w K mg base 4 "cut_people" ["web"] (toSp T K sp_cut_people)) (G_joins_all : Cal P w K mg base 4 "joins_all" ["web", "called"] (toSp T K sp_joins_all)) (G_gains : Cal P w K mg base 4 "gains" ["web", "calls"] (toSp T K sp_gains)) (G_most_new : Cal P w K mg base 4 "most_new" ["web"] (toSp T K sp_most_new)) (G_count_made : Cal P w K mg base 5 "count_made" ["web", "calls"] (toSp T K sp_count_made)) (G_call : Cal P w K mg base 4 "call" ["web", "person"] (toSp T K sp_call)) (G_count_pairs : Cal P w K mg base 4 "count_pairs" ["web"] (toSp T K sp_count_pairs)) (G_most_pairs_by : Cal P w K mg base 4 "most_pairs_by" ["web", "many"] (toSp T K sp_most_pairs_by)) (G_calls_to_pairs : Cal P w K mg base 4 "calls_to_pairs" ["web", "many"] (toSp T K sp_calls_to_pairs)) (G_told : Cal P w K mg base 4 "told" ["web", "called"] (toSp T K sp_told)) (G_best_rule : Cal P w K mg base 5 "best_rule" ["web"] (toSp T K sp_best_rule)) (G_rule_lengths : Cal P w K mg base 5 "rule_lengths" ["web"] (toSp T K sp_rule_lengths)) (G_least_joining : Cal P w K mg base 5 "least_joining" ["web"] (toSp T K sp_least_joining)) :
    FnOk P w K mg base CX0 6 f fd ["_law_script"] (sp_law T K) := by
  refine F.ok (k := 5) sc_law (fun vs H Q E h => by obtain ⟨a, ns, rfl, _⟩ := h; rfl) (fun cdv A outer s H vs Q E hr h => ⟨t_lawA T K, PSs.nox ?_, law_ok vs H Q E h⟩)
  refine pss_cons (ps_set (i := 1) sc_law.nd rfl (by first | exact .inl rfl | exact .inr rfl) (pe_lst (pa_cons (pv 0) (pa_cons pe_int (pa_cons pe_int (pa_cons pe_int pa_nil))))))
    (pss_cons (ps_set (i := 2) sc_law.nd rfl (by first | exact .inl rfl | exact .inr rfl) (h_call G_web hr (pa_cons (pv 1) (pa_cons pe_int pa_nil)))) ?_)
  exact (s_cons (s_parC (i := 3) (j := 4) (ps_asg (pe_tup (pa_cons (x_call G_greedy_row hr (a_cons (x_var 2) a_nil)) (pa_cons (x_call G_calls_to_rest hr (a_cons (x_var 2) a_nil)) pa_nil))) (pg_tup rfl (pgs_cons (pg_name (i := 3) sc_law.nd rfl (by first | exact .inl rfl | exact .inr rfl)) (pgs_cons (pg_name (i := 4) sc_law.nd rfl (by first | exact .inl rfl | exact .inr rfl)) pgs_nil)))))
      (s_cons (s_if (PW.pt (b_or (b_cmp o_ne (op_neD hr.units) (x_var 3) (x_call G_ruled_row hr (a_cons (x_var 2) (a_cons x_str a_nil)))) (b_or1 (b_cmp o_ne (op_neD hr.units) (x_call G_after hr (a_cons (x_var 2) (a_cons (x_var 3) a_nil))) (x_call G_last_web hr (a_cons (x_var 2) a_nil)))))) (s_one (s_ret x_bl)) s_nil)
      (s_cons (s_if (PW.pt (b_or (b_cmp o_lt op_lt (x_cb u_len call_len_seq TX.len_ (x_var 3)) (x_var 4)) (b_or1 (b_cmp o_ne (op_neD hr.units) (x_lenSet TX.len_ TX.set_ (x_var 3)) (x_cb u_len call_len_seq TX.len_ (x_var 3)))))) (s_one (s_ret x_bl)) s_nil)
      (s_cons (s_if (b_cmp o_ne (op_neD hr.units) (x_lc (own := [(PySem.Str.ofString "_law_person", 9)]) (g_name 9) (gw_name (by decide : 9 ∈ [9])) sc_law.nd (i_tup (x_call G_cut_people hr (a_cons (x_var 2) a_nil))) (blkOk_by (own := [(PySem.Str.ofString "_law_person", 9)]) (by kernel_rfl)) (fun _ _ _ _ _ => (pg_name (i := 9) sc_law.nd rfl (by first | exact .inl rfl | exact .inr rfl))) (fun _ _ _ _ _ => (pts_one (b_cmp (o_in true) op_notIn_seq (x_var 9) (x_var 3)))) (fun _ _ _ _ _ => (x_var 9))) (x_lst a_nil)) (s_one (s_ret x_bl)) s_nil)
      (s_cons (s_if (b_not (b_val (x_call G_joins_all hr (a_cons (x_var 2) (a_cons (x_ct u_tuple call_tuple_of TX.tuple_ (x_cb u_sorted (cr_sortD hr.units) TX.sorted_ (x_var 3))) a_nil))))) (s_one (s_ret x_bl)) s_nil)
      (s_cons (s_set 5 sc_law.nd (x_call G_gains hr (a_cons (x_var 2) (a_cons (x_var 3) a_nil))))
      (s_cons (s_if (PW.pt (b_and (b_cmp o_ne (op_neD hr.units) (x_var 3) (x_tup a_nil)) (b_and1 (PW.pt (b_or (b_cmp o_ne (op_neD hr.units) (x_ix o_ixT ix_tup (x_var 5) x_int) (x_ix o_ixT ix_tup (x_call G_most_new hr (a_cons (x_var 2) a_nil)) x_int)) (b_or (b_cmp o_ne (op_neD hr.units) (x_ix o_ixT ix_tup (x_var 3) x_int) (x_ix o_ixT ix_tup (x_call G_most_new hr (a_cons (x_var 2) a_nil)) x_int)) (b_or1 (b_cmp o_lt op_lt (x_cb u_min (cr_minD rfl hr.units) TX.min_ (x_var 5)) x_int)))))))) (s_one (s_ret x_bl)) s_nil)
      (s_cons (s_if (b_cmp o_ne (op_neD hr.units) (x_cb u_sum (cr_sumT rfl) TX.sum_ (x_var 5)) (x_cb u_sum (cr_sumT rfl) TX.sum_ (x_call G_count_made hr (a_cons (x_var 2) (a_cons (x_var 3) a_nil))))) (s_one (s_ret x_bl)) s_nil)
      (s_cons (s_if (PW.pt (b_and (b_cmp o_ne (op_neD hr.units) (x_var 3) (x_tup a_nil)) (b_and1 (b_cmp o_ne (op_neD hr.units) (x_call G_count_pairs hr (a_cons (x_call G_call hr (a_cons (x_var 2) (a_cons (x_ix o_ixT ix_tup (x_var 3) x_int) a_nil))) a_nil)) (x_ix o_ixT ix_tup (x_call G_most_pairs_by hr (a_cons (x_var 2) (a_cons x_int a_nil))) x_int))))) (s_one (s_ret x_bl)) s_nil)
      (s_cons (s_for (g_name 6) (i_rng1 TX.range_ (x_op o_add op_add (x_var 4) x_int)) (pg_name (i := 6) sc_law.nd rfl (by first | exact .inl rfl | exact .inr rfl)) (s_cons (s_asg (g_tup2 7 8) (x_call G_most_pairs_by hr (a_cons (x_var 2) (a_cons (x_var 6) a_nil))) (pg_tup rfl (pgs_cons (pg_name (i := 7) sc_law.nd rfl (by first | exact .inl rfl | exact .inr rfl)) (pgs_cons (pg_name (i := 8) sc_law.nd rfl (by first | exact .inl rfl | exact .inr rfl)) pgs_nil))))
      (s_cons (s_if (PW.pt (b_or (b_cmp o_gt op_gt (x_call G_count_pairs hr (a_cons (x_call G_after hr (a_cons (x_var 2) (a_cons (x_cut (x_var 3) (x_var 6)) a_nil))) a_nil)) (x_var 7)) (b_or1 (b_cmp o_gt op_gt (x_call G_calls_to_pairs hr (a_cons (x_var 2) (a_cons (x_var 7) a_nil))) (x_var 6))))) (s_one (s_ret x_bl)) s_nil)
      (s_one (s_if (b_cmp o_ne (op_neD hr.units) (x_call G_count_pairs hr (a_cons (x_call G_told hr (a_cons (x_var 2) (a_cons (x_var 8) a_nil))) a_nil)) (x_var 7)) (s_one (s_ret x_bl)) s_nil)))))
      (s_cons (s_if (PW.pt (b_or (b_cmp o_lt op_lt (x_ix o_ixT ix_tup (x_call G_best_rule hr (a_cons (x_var 2) a_nil)) x_int) (x_var 4)) (b_or1 (b_cmp o_gt op_gt (x_ix o_ixT ix_tup (x_call G_best_rule hr (a_cons (x_var 2) a_nil)) x_int) (x_cb u_len call_len_seq TX.len_ (x_var 3)))))) (s_one (s_ret x_bl)) s_nil)
      (s_cons (s_if (b_cmp o_notInD (op_notInD (room65 hr)) (x_tup (a_cons (x_cb u_len call_len_seq TX.len_ (x_var 3)) (a_cons x_str a_nil))) (x_lc (own := [(PySem.Str.ofString "_law_rule", 10), (PySem.Str.ofString "_law_many", 6)]) (g_tup2 10 6) (gw_tup2 (by decide : 10 ∈ [10, 6]) (by decide : 6 ∈ [10, 6])) sc_law.nd (i_tup (x_call G_rule_lengths hr (a_cons (x_var 2) a_nil))) (blkOk_by (own := [(PySem.Str.ofString "_law_rule", 10), (PySem.Str.ofString "_law_many", 6)]) (by kernel_rfl)) (fun _ _ _ _ _ => (pg_tup rfl (pgs_cons (pg_name (i := 10) sc_law.nd rfl (by first | exact .inl rfl | exact .inr rfl)) (pgs_cons (pg_name (i := 6) sc_law.nd rfl (by first | exact .inl rfl | exact .inr rfl)) pgs_nil)))) (fun _ _ _ _ _ => t_nil) (fun _ _ _ _ _ => (x_tup (a_cons (x_var 6) (a_cons (x_var 10) a_nil)))))) (s_one (s_ret x_bl)) s_nil)
      (s_cons (s_if (b_cmp o_ne (op_neD hr.units) (x_lc (own := [(PySem.Str.ofString "_law_people", 8)]) (g_name 8) (gw_name (by decide : 8 ∈ [8])) sc_law.nd (i_list (x_call G_least_joining hr (a_cons (x_var 2) a_nil))) (blkOk_by (own := [(PySem.Str.ofString "_law_people", 8)]) (by kernel_rfl)) (fun _ _ _ _ _ => (pg_name (i := 8) sc_law.nd rfl (by first | exact .inl rfl | exact .inr rfl))) (fun _ _ _ _ _ => (pts_one (b_cmp o_gt op_gt (x_cb u_len call_len_seq TX.len_ (x_var 8)) (x_cb u_len call_len_seq TX.len_ (x_var 3))))) (fun _ _ _ _ _ => (x_var 8))) (x_lst a_nil)) (s_one (s_ret x_bl)) s_nil)
      (s_one (s_ret (x_cmp o_eq (op_eqD hr.units) (x_call G_greedy_row hr (a_cons (x_call G_last_web hr (a_cons (x_var 2) a_nil)) a_nil)) (x_tup a_nil)))))))))))))))))
end
end Wk

/-! part HZ -/
set_option Elab.async false
set_option linter.all false
set_option maxRecDepth 100000
set_option maxHeartbeats 4000000
namespace Wk
open PySem PySem.Spec PyProof.Rows L2 Dw Gg Ik
/-- what the head tells -/
structure Zed (K : PySem.W.Frag) (mg : Str → Option Value) : Prop where
  c : He.SaysD fa fn K
  g : ∀ x, (He.Fa.glo x).ok K = true → mg x = some (.ref (He.ga K x))
  tx : Txt mg
  r : ∃ a, Rul mg K a
section
variable {T : List NdefX.NTab} {K : PySem.W.Frag} {P : Program} {w : World} {mg : Str → Option Value}

theorem k_is_integer (Z : Zed K mg) (base : Heap) : Cal P w K mg base 1 "is_integer" ["value"] (toSp T K sp_is_integer) := by
  obtain ⟨fd, F⟩ := Z.c.def_ 0 (d := mkD "is_integer" 1) rfl
  have m := Z.g "is_integer" (Z.c.fact 18 (f := .glo "is_integer") rfl)
  skip
  exact ok_is_integer Z.tx F m  sem_is_integer (fun ws R h => by first | (obtain ⟨_, rfl, _⟩ := h; rfl) | (obtain ⟨_, _, rfl, _⟩ := h; rfl) | (obtain ⟨_, _, _, rfl, _⟩ := h; rfl) | (obtain ⟨_, _, _, _, rfl, _⟩ := h; rfl))

theorem k_is_list (Z : Zed K mg) (base : Heap) : Cal P w K mg base 1 "is_list" ["value", "least", "most"] (toSp T K sp_is_list) := by
  obtain ⟨fd, F⟩ := Z.c.def_ 2 (d := mkD "is_list" 3) rfl
  have m := Z.g "is_list" (Z.c.fact 20 (f := .glo "is_list") rfl)
  skip
  exact ok_is_list Z.tx F m  sem_is_list (fun ws R h => by first | (obtain ⟨_, rfl, _⟩ := h; rfl) | (obtain ⟨_, _, rfl, _⟩ := h; rfl) | (obtain ⟨_, _, _, rfl, _⟩ := h; rfl) | (obtain ⟨_, _, _, _, rfl, _⟩ := h; rfl))

theorem k_pairs_in (Z : Zed K mg) (base : Heap) : Cal P w K mg base 1 "pairs_in" ["web"] (toSp T K sp_pairs_in) := by
  obtain ⟨fd, F⟩ := Z.c.def_ 6 (d := mkD "pairs_in" 18) rfl
  have m := Z.g "pairs_in" (Z.c.fact 24 (f := .glo "pairs_in") rfl)
  skip
  exact ok_pairs_in Z.tx F m  sem_pairs_in (fun ws R h => by first | (obtain ⟨_, rfl, _⟩ := h; rfl) | (obtain ⟨_, _, rfl, _⟩ := h; rfl) | (obtain ⟨_, _, _, rfl, _⟩ := h; rfl) | (obtain ⟨_, _, _, _, rfl, _⟩ := h; rfl))

theorem k_group_in (Z : Zed K mg) (base : Heap) : Cal P w K mg base 1 "group_in" ["web", "person"] (toSp T K sp_group_in) := by
  obtain ⟨fd, F⟩ := Z.c.def_ 9 (d := mkD "group_in" 21) rfl
  have m := Z.g "group_in" (Z.c.fact 27 (f := .glo "group_in") rfl)
  skip
  exact ok_group_in Z.tx F m  sem_group_in (fun ws R h => by first | (obtain ⟨_, rfl, _⟩ := h; rfl) | (obtain ⟨_, _, rfl, _⟩ := h; rfl) | (obtain ⟨_, _, _, rfl, _⟩ := h; rfl) | (obtain ⟨_, _, _, _, rfl, _⟩ := h; rfl))

theorem k_is_table (Z : Zed K mg) (base : Heap) : Cal P w K mg base 1 "is_table" ["web", "people"] (toSp T K sp_is_table) := by
  obtain ⟨fd, F⟩ := Z.c.def_ 11 (d := mkD "is_table" 23) rfl
  have m := Z.g "is_table" (Z.c.fact 29 (f := .glo "is_table") rfl)
  skip
  exact ok_is_table Z.tx F m  sem_is_table (fun ws R h => by first | (obtain ⟨_, rfl, _⟩ := h; rfl) | (obtain ⟨_, _, rfl, _⟩ := h; rfl) | (obtain ⟨_, _, _, rfl, _⟩ := h; rfl) | (obtain ⟨_, _, _, _, rfl, _⟩ := h; rfl))

theorem k_choices (Z : Zed K mg) (base : Heap) : Cal P w K mg base 1 "choices" ["many"] (toSp T K sp_choices) := by
  obtain ⟨fd, F⟩ := Z.c.def_ 25 (d := mkD "choices" 41) rfl
  have m := Z.g "choices" (Z.c.fact 43 (f := .glo "choices") rfl)
  skip
  exact ok_choices Z.tx F m  sem_choices (fun ws R h => by first | (obtain ⟨_, rfl, _⟩ := h; rfl) | (obtain ⟨_, _, rfl, _⟩ := h; rfl) | (obtain ⟨_, _, _, rfl, _⟩ := h; rfl) | (obtain ⟨_, _, _, _, rfl, _⟩ := h; rfl))

theorem k_chain_ends (Z : Zed K mg) (base : Heap) : Cal P w K mg base 1 "chain_ends" ["web", "called", "person"] (toSp T K sp_chain_ends) := by
  obtain ⟨fd, F⟩ := Z.c.def_ 26 (d := mkD "chain_ends" 42) rfl
  have m := Z.g "chain_ends" (Z.c.fact 44 (f := .glo "chain_ends") rfl)
  skip
  exact ok_chain_ends Z.tx F m  sem_chain_ends (fun ws R h => by first | (obtain ⟨_, rfl, _⟩ := h; rfl) | (obtain ⟨_, _, rfl, _⟩ := h; rfl) | (obtain ⟨_, _, _, rfl, _⟩ := h; rfl) | (obtain ⟨_, _, _, _, rfl, _⟩ := h; rfl))

theorem k_need_rule (Z : Zed K mg) (base : Heap) : Cal P w K mg base 1 "need_rule" ["rule"] (toSp T K sp_need_rule) := by
  obtain ⟨fd, F⟩ := Z.c.def_ 36 (d := mkD "need_rule" 55) rfl
  have m := Z.g "need_rule" (Z.c.fact 54 (f := .glo "need_rule") rfl)
  obtain ⟨aR, hR⟩ := Z.r
  exact ok_need_rule Z.tx F m hR  sem_need_rule (fun ws R h => by first | (obtain ⟨_, rfl, _⟩ := h; rfl) | (obtain ⟨_, _, rfl, _⟩ := h; rfl) | (obtain ⟨_, _, _, rfl, _⟩ := h; rfl) | (obtain ⟨_, _, _, _, rfl, _⟩ := h; rfl))

theorem k_web_by (Z : Zed K mg) (base : Heap) : Cal P w K mg base 1 "web_by" ["people", "some"] (toSp T K sp_web_by) := by
  obtain ⟨fd, F⟩ := Z.c.def_ 8 (d := mkD "web_by" 20) rfl
  have m := Z.g "web_by" (Z.c.fact 26 (f := .glo "web_by") rfl)
  skip
  exact ok_web_by Z.tx F m  

theorem k__law_by (Z : Zed K mg) (base : Heap) : Cal P w K mg base 1 "_law_by" ["_law_many", "_law_couples"] (toSp T K sp_web_by) := by
  obtain ⟨fd, F⟩ := Z.c.def_ 46 (d := mkD "_law_by" 67) rfl
  have m := Z.g "_law_by" (Z.c.fact 64 (f := .glo "_law_by") rfl)
  skip
  exact ok_law_by Z.tx F m  

theorem k__law_taken (Z : Zed K mg) (base : Heap) : Cal P w K mg base 1 "_law_taken" ["_law_row", "_law_many"] (sp_taken K) := by
  obtain ⟨fd, F⟩ := Z.c.def_ 45 (d := mkD "_law_taken" 66) rfl
  have m := Z.g "_law_taken" (Z.c.fact 63 (f := .glo "_law_taken") rfl)
  skip
  exact ok_taken Z.tx F m  

theorem k_is_in (Z : Zed K mg) (base : Heap) : Cal P w K mg base 2 "is_in" ["value", "least", "most"] (toSp T K sp_is_in) := by
  obtain ⟨fd, F⟩ := Z.c.def_ 1 (d := mkD "is_in" 2) rfl
  have m := Z.g "is_in" (Z.c.fact 19 (f := .glo "is_in") rfl)
  skip
  exact ok_is_in Z.tx F m (k_is_integer Z base) sem_is_in (fun ws R h => by first | (obtain ⟨_, rfl, _⟩ := h; rfl) | (obtain ⟨_, _, rfl, _⟩ := h; rfl) | (obtain ⟨_, _, _, rfl, _⟩ := h; rfl) | (obtain ⟨_, _, _, _, rfl, _⟩ := h; rfl))

theorem k_groups_in (Z : Zed K mg) (base : Heap) : Cal P w K mg base 2 "groups_in" ["web"] (toSp T K sp_groups_in) := by
  obtain ⟨fd, F⟩ := Z.c.def_ 10 (d := mkD "groups_in" 22) rfl
  have m := Z.g "groups_in" (Z.c.fact 28 (f := .glo "groups_in") rfl)
  skip
  exact ok_groups_in Z.tx F m (k_group_in Z base) sem_groups_in (fun ws R h => by first | (obtain ⟨_, rfl, _⟩ := h; rfl) | (obtain ⟨_, _, rfl, _⟩ := h; rfl) | (obtain ⟨_, _, _, rfl, _⟩ := h; rfl) | (obtain ⟨_, _, _, _, rfl, _⟩ := h; rfl))

theorem k_call_in (Z : Zed K mg) (base : Heap) : Cal P w K mg base 2 "call_in" ["web", "person"] (toSp T K sp_call_in) := by
  obtain ⟨fd, F⟩ := Z.c.def_ 15 (d := mkD "call_in" 29) rfl
  have m := Z.g "call_in" (Z.c.fact 33 (f := .glo "call_in") rfl)
  skip
  exact ok_call_in Z.tx F m (k_pairs_in Z base) (k_web_by Z base) sem_call_in (fun ws R h => by first | (obtain ⟨_, rfl, _⟩ := h; rfl) | (obtain ⟨_, _, rfl, _⟩ := h; rfl) | (obtain ⟨_, _, _, rfl, _⟩ := h; rfl) | (obtain ⟨_, _, _, _, rfl, _⟩ := h; rfl))

theorem k_movers_in (Z : Zed K mg) (base : Heap) : Cal P w K mg base 2 "movers_in" ["web"] (toSp T K sp_movers_in) := by
  obtain ⟨fd, F⟩ := Z.c.def_ 17 (d := mkD "movers_in" 31) rfl
  have m := Z.g "movers_in" (Z.c.fact 35 (f := .glo "movers_in") rfl)
  skip
  exact ok_movers_in Z.tx F m (k_is_table Z base) sem_movers_in (fun ws R h => by first | (obtain ⟨_, rfl, _⟩ := h; rfl) | (obtain ⟨_, _, rfl, _⟩ := h; rfl) | (obtain ⟨_, _, _, rfl, _⟩ := h; rfl) | (obtain ⟨_, _, _, _, rfl, _⟩ := h; rfl))

theorem k_told_in (Z : Zed K mg) (base : Heap) : Cal P w K mg base 2 "told_in" ["web", "called"] (toSp T K sp_told_in) := by
  obtain ⟨fd, F⟩ := Z.c.def_ 27 (d := mkD "told_in" 43) rfl
  have m := Z.g "told_in" (Z.c.fact 45 (f := .glo "told_in") rfl)
  skip
  exact ok_told_in Z.tx F m (k_chain_ends Z base) (k_web_by Z base) sem_told_in (fun ws R h => by first | (obtain ⟨_, rfl, _⟩ := h; rfl) | (obtain ⟨_, _, rfl, _⟩ := h; rfl) | (obtain ⟨_, _, _, rfl, _⟩ := h; rfl) | (obtain ⟨_, _, _, _, rfl, _⟩ := h; rfl))

theorem k_without (Z : Zed K mg) (base : Heap) : Cal P w K mg base 2 "without" ["web", "person"] (toSp T K sp_without) := by
  obtain ⟨fd, F⟩ := Z.c.def_ 33 (d := mkD "without" 50) rfl
  have m := Z.g "without" (Z.c.fact 51 (f := .glo "without") rfl)
  skip
  exact ok_without Z.tx F m (k_pairs_in Z base) (k_web_by Z base) sem_without (fun ws R h => by first | (obtain ⟨_, rfl, _⟩ := h; rfl) | (obtain ⟨_, _, rfl, _⟩ := h; rfl) | (obtain ⟨_, _, _, rfl, _⟩ := h; rfl) | (obtain ⟨_, _, _, _, rfl, _⟩ := h; rfl))

theorem k__law_web (Z : Zed K mg) (base : Heap) : Cal P w K mg base 2 "_law_web" ["_law_row", "_law_most"] (sp_lawweb T K) := by
  obtain ⟨fd, F⟩ := Z.c.def_ 47 (d := mkD "_law_web" 68) rfl
  have m := Z.g "_law_web" (Z.c.fact 65 (f := .glo "_law_web") rfl)
  skip
  exact ok_law_web Z.tx F m (k__law_taken Z base) (k__law_by Z base) 

theorem k_need_web (Z : Zed K mg) (base : Heap) : Cal P w K mg base 3 "need_web" ["web"] (toSp T K sp_need_web) := by
  obtain ⟨fd, F⟩ := Z.c.def_ 3 (d := mkD "need_web" 15) rfl
  have m := Z.g "need_web" (Z.c.fact 21 (f := .glo "need_web") rfl)
  skip
  exact ok_need_web Z.tx F m (k_is_list Z base) (k_is_in Z base) sem_need_web (fun ws R h => by first | (obtain ⟨_, rfl, _⟩ := h; rfl) | (obtain ⟨_, _, rfl, _⟩ := h; rfl) | (obtain ⟨_, _, _, rfl, _⟩ := h; rfl) | (obtain ⟨_, _, _, _, rfl, _⟩ := h; rfl))

theorem k_need_person (Z : Zed K mg) (base : Heap) : Cal P w K mg base 3 "need_person" ["web", "person"] (toSp T K sp_need_person) := by
  obtain ⟨fd, F⟩ := Z.c.def_ 4 (d := mkD "need_person" 16) rfl
  have m := Z.g "need_person" (Z.c.fact 22 (f := .glo "need_person") rfl)
  skip
  exact ok_need_person Z.tx F m (k_is_in Z base) sem_need_person (fun ws R h => by first | (obtain ⟨_, rfl, _⟩ := h; rfl) | (obtain ⟨_, _, rfl, _⟩ := h; rfl) | (obtain ⟨_, _, _, rfl, _⟩ := h; rfl) | (obtain ⟨_, _, _, _, rfl, _⟩ := h; rfl))

theorem k_need_people (Z : Zed K mg) (base : Heap) : Cal P w K mg base 3 "need_people" ["web", "people"] (toSp T K sp_need_people) := by
  obtain ⟨fd, F⟩ := Z.c.def_ 5 (d := mkD "need_people" 17) rfl
  have m := Z.g "need_people" (Z.c.fact 23 (f := .glo "need_people") rfl)
  skip
  exact ok_need_people Z.tx F m (k_is_list Z base) (k_is_in Z base) sem_need_people (fun ws R h => by first | (obtain ⟨_, rfl, _⟩ := h; rfl) | (obtain ⟨_, _, rfl, _⟩ := h; rfl) | (obtain ⟨_, _, _, rfl, _⟩ := h; rfl) | (obtain ⟨_, _, _, _, rfl, _⟩ := h; rfl))

theorem k_rest_of (Z : Zed K mg) (base : Heap) : Cal P w K mg base 3 "rest_of" ["web"] (toSp T K sp_rest_of) := by
  obtain ⟨fd, F⟩ := Z.c.def_ 12 (d := mkD "rest_of" 24) rfl
  have m := Z.g "rest_of" (Z.c.fact 30 (f := .glo "rest_of") rfl)
  skip
  exact ok_rest_of Z.tx F m (k_groups_in Z base) (k_web_by Z base) sem_rest_of (fun ws R h => by first | (obtain ⟨_, rfl, _⟩ := h; rfl) | (obtain ⟨_, _, rfl, _⟩ := h; rfl) | (obtain ⟨_, _, _, rfl, _⟩ := h; rfl) | (obtain ⟨_, _, _, _, rfl, _⟩ := h; rfl))

theorem k_need_calls (Z : Zed K mg) (base : Heap) : Cal P w K mg base 3 "need_calls" ["web", "calls"] (toSp T K sp_need_calls) := by
  obtain ⟨fd, F⟩ := Z.c.def_ 14 (d := mkD "need_calls" 28) rfl
  have m := Z.g "need_calls" (Z.c.fact 32 (f := .glo "need_calls") rfl)
  skip
  exact ok_need_calls Z.tx F m (k_is_list Z base) (k_is_in Z base) sem_need_calls (fun ws R h => by first | (obtain ⟨_, rfl, _⟩ := h; rfl) | (obtain ⟨_, _, rfl, _⟩ := h; rfl) | (obtain ⟨_, _, _, rfl, _⟩ := h; rfl) | (obtain ⟨_, _, _, _, rfl, _⟩ := h; rfl))

theorem k_story_in (Z : Zed K mg) (base : Heap) : Cal P w K mg base 3 "story_in" ["web", "calls"] (toSp T K sp_story_in) := by
  obtain ⟨fd, F⟩ := Z.c.def_ 18 (d := mkD "story_in" 32) rfl
  have m := Z.g "story_in" (Z.c.fact 36 (f := .glo "story_in") rfl)
  skip
  exact ok_story_in Z.tx F m (k_call_in Z base) sem_story_in (fun ws R h => by first | (obtain ⟨_, rfl, _⟩ := h; rfl) | (obtain ⟨_, _, rfl, _⟩ := h; rfl) | (obtain ⟨_, _, _, rfl, _⟩ := h; rfl) | (obtain ⟨_, _, _, _, rfl, _⟩ := h; rfl))

theorem k_cut_in (Z : Zed K mg) (base : Heap) : Cal P w K mg base 3 "cut_in" ["web"] (toSp T K sp_cut_in) := by
  obtain ⟨fd, F⟩ := Z.c.def_ 34 (d := mkD "cut_in" 51) rfl
  have m := Z.g "cut_in" (Z.c.fact 52 (f := .glo "cut_in") rfl)
  skip
  exact ok_cut_in Z.tx F m (k_groups_in Z base) (k_without Z base) sem_cut_in (fun ws R h => by first | (obtain ⟨_, rfl, _⟩ := h; rfl) | (obtain ⟨_, _, rfl, _⟩ := h; rfl) | (obtain ⟨_, _, _, rfl, _⟩ := h; rfl) | (obtain ⟨_, _, _, _, rfl, _⟩ := h; rfl))

theorem k_next_in (Z : Zed K mg) (base : Heap) : Cal P w K mg base 3 "next_in" ["web", "rule"] (toSp T K sp_next_in) := by
  obtain ⟨fd, F⟩ := Z.c.def_ 37 (d := mkD "next_in" 56) rfl
  have m := Z.g "next_in" (Z.c.fact 55 (f := .glo "next_in") rfl)
  skip
  exact ok_next_in Z.tx F m (k_movers_in Z base) (k_call_in Z base) (k_pairs_in Z base) sem_next_in (fun ws R h => by first | (obtain ⟨_, rfl, _⟩ := h; rfl) | (obtain ⟨_, _, rfl, _⟩ := h; rfl) | (obtain ⟨_, _, _, rfl, _⟩ := h; rfl) | (obtain ⟨_, _, _, _, rfl, _⟩ := h; rfl))

theorem k_count_pairs (Z : Zed K mg) (base : Heap) : Cal P w K mg base 4 "count_pairs" ["web"] (toSp T K sp_count_pairs) := by
  obtain ⟨fd, F⟩ := Z.c.def_ 7 (d := mkD "count_pairs" 19) rfl
  have m := Z.g "count_pairs" (Z.c.fact 25 (f := .glo "count_pairs") rfl)
  skip
  exact ok_count_pairs Z.tx F m (k_need_web Z base) (k_pairs_in Z base) sem_count_pairs (fun ws R h => by first | (obtain ⟨_, rfl, _⟩ := h; rfl) | (obtain ⟨_, _, rfl, _⟩ := h; rfl) | (obtain ⟨_, _, _, rfl, _⟩ := h; rfl) | (obtain ⟨_, _, _, _, rfl, _⟩ := h; rfl))

theorem k_last_web (Z : Zed K mg) (base : Heap) : Cal P w K mg base 4 "last_web" ["web"] (toSp T K sp_last_web) := by
  obtain ⟨fd, F⟩ := Z.c.def_ 13 (d := mkD "last_web" 25) rfl
  have m := Z.g "last_web" (Z.c.fact 31 (f := .glo "last_web") rfl)
  skip
  exact ok_last_web Z.tx F m (k_need_web Z base) (k_rest_of Z base) sem_last_web (fun ws R h => by first | (obtain ⟨_, rfl, _⟩ := h; rfl) | (obtain ⟨_, _, rfl, _⟩ := h; rfl) | (obtain ⟨_, _, _, rfl, _⟩ := h; rfl) | (obtain ⟨_, _, _, _, rfl, _⟩ := h; rfl))

theorem k_call (Z : Zed K mg) (base : Heap) : Cal P w K mg base 4 "call" ["web", "person"] (toSp T K sp_call) := by
  obtain ⟨fd, F⟩ := Z.c.def_ 16 (d := mkD "call" 30) rfl
  have m := Z.g "call" (Z.c.fact 34 (f := .glo "call") rfl)
  skip
  exact ok_call Z.tx F m (k_need_web Z base) (k_need_person Z base) (k_call_in Z base) sem_call (fun ws R h => by first | (obtain ⟨_, rfl, _⟩ := h; rfl) | (obtain ⟨_, _, rfl, _⟩ := h; rfl) | (obtain ⟨_, _, _, rfl, _⟩ := h; rfl) | (obtain ⟨_, _, _, _, rfl, _⟩ := h; rfl))

theorem k_after (Z : Zed K mg) (base : Heap) : Cal P w K mg base 4 "after" ["web", "calls"] (toSp T K sp_after) := by
  obtain ⟨fd, F⟩ := Z.c.def_ 19 (d := mkD "after" 33) rfl
  have m := Z.g "after" (Z.c.fact 37 (f := .glo "after") rfl)
  skip
  exact ok_after Z.tx F m (k_need_web Z base) (k_need_calls Z base) (k_story_in Z base) sem_after (fun ws R h => by first | (obtain ⟨_, rfl, _⟩ := h; rfl) | (obtain ⟨_, _, rfl, _⟩ := h; rfl) | (obtain ⟨_, _, _, rfl, _⟩ := h; rfl) | (obtain ⟨_, _, _, _, rfl, _⟩ := h; rfl))

theorem k_gains (Z : Zed K mg) (base : Heap) : Cal P w K mg base 4 "gains" ["web", "calls"] (toSp T K sp_gains) := by
  obtain ⟨fd, F⟩ := Z.c.def_ 20 (d := mkD "gains" 34) rfl
  have m := Z.g "gains" (Z.c.fact 38 (f := .glo "gains") rfl)
  skip
  exact ok_gains Z.tx F m (k_need_web Z base) (k_need_calls Z base) (k_story_in Z base) (k_pairs_in Z base) sem_gains (fun ws R h => by first | (obtain ⟨_, rfl, _⟩ := h; rfl) | (obtain ⟨_, _, rfl, _⟩ := h; rfl) | (obtain ⟨_, _, _, rfl, _⟩ := h; rfl) | (obtain ⟨_, _, _, _, rfl, _⟩ := h; rfl))

theorem k_most_new (Z : Zed K mg) (base : Heap) : Cal P w K mg base 4 "most_new" ["web"] (toSp T K sp_most_new) := by
  obtain ⟨fd, F⟩ := Z.c.def_ 21 (d := mkD "most_new" 35) rfl
  have m := Z.g "most_new" (Z.c.fact 39 (f := .glo "most_new") rfl)
  skip
  exact ok_most_new Z.tx F m (k_need_web Z base) (k_pairs_in Z base) (k_call_in Z base) sem_most_new (fun ws R h => by first | (obtain ⟨_, rfl, _⟩ := h; rfl) | (obtain ⟨_, _, rfl, _⟩ := h; rfl) | (obtain ⟨_, _, _, rfl, _⟩ := h; rfl) | (obtain ⟨_, _, _, _, rfl, _⟩ := h; rfl))

theorem k_made_in (Z : Zed K mg) (base : Heap) : Cal P w K mg base 4 "made_in" ["web", "calls"] (toSp T K sp_made_in) := by
  obtain ⟨fd, F⟩ := Z.c.def_ 22 (d := mkD "made_in" 37) rfl
  have m := Z.g "made_in" (Z.c.fact 40 (f := .glo "made_in") rfl)
  skip
  exact ok_made_in Z.tx F m (k_story_in Z base) (k_pairs_in Z base) sem_made_in (fun ws R h => by first | (obtain ⟨_, rfl, _⟩ := h; rfl) | (obtain ⟨_, _, rfl, _⟩ := h; rfl) | (obtain ⟨_, _, _, rfl, _⟩ := h; rfl) | (obtain ⟨_, _, _, _, rfl, _⟩ := h; rfl))

theorem k_greedy_row (Z : Zed K mg) (base : Heap) : Cal P w K mg base 4 "greedy_row" ["web"] (toSp T K sp_greedy_row) := by
  obtain ⟨fd, F⟩ := Z.c.def_ 24 (d := mkD "greedy_row" 39) rfl
  have m := Z.g "greedy_row" (Z.c.fact 42 (f := .glo "greedy_row") rfl)
  skip
  exact ok_greedy_row Z.tx F m (k_need_web Z base) (k_pairs_in Z base) (k_call_in Z base) sem_greedy_row (fun ws R h => by first | (obtain ⟨_, rfl, _⟩ := h; rfl) | (obtain ⟨_, _, rfl, _⟩ := h; rfl) | (obtain ⟨_, _, _, rfl, _⟩ := h; rfl) | (obtain ⟨_, _, _, _, rfl, _⟩ := h; rfl))

theorem k_told (Z : Zed K mg) (base : Heap) : Cal P w K mg base 4 "told" ["web", "called"] (toSp T K sp_told) := by
  obtain ⟨fd, F⟩ := Z.c.def_ 28 (d := mkD "told" 44) rfl
  have m := Z.g "told" (Z.c.fact 46 (f := .glo "told") rfl)
  skip
  exact ok_told Z.tx F m (k_need_web Z base) (k_need_people Z base) (k_told_in Z base) sem_told (fun ws R h => by first | (obtain ⟨_, rfl, _⟩ := h; rfl) | (obtain ⟨_, _, rfl, _⟩ := h; rfl) | (obtain ⟨_, _, _, rfl, _⟩ := h; rfl) | (obtain ⟨_, _, _, _, rfl, _⟩ := h; rfl))

theorem k_joining_in (Z : Zed K mg) (base : Heap) : Cal P w K mg base 4 "joining_in" ["web"] (toSp T K sp_joining_in) := by
  obtain ⟨fd, F⟩ := Z.c.def_ 29 (d := mkD "joining_in" 46) rfl
  have m := Z.g "joining_in" (Z.c.fact 47 (f := .glo "joining_in") rfl)
  skip
  exact ok_joining_in Z.tx F m (k_rest_of Z base) (k_choices Z base) (k_told_in Z base) sem_joining_in (fun ws R h => by first | (obtain ⟨_, rfl, _⟩ := h; rfl) | (obtain ⟨_, _, rfl, _⟩ := h; rfl) | (obtain ⟨_, _, _, rfl, _⟩ := h; rfl) | (obtain ⟨_, _, _, _, rfl, _⟩ := h; rfl))

theorem k_joins_all (Z : Zed K mg) (base : Heap) : Cal P w K mg base 4 "joins_all" ["web", "called"] (toSp T K sp_joins_all) := by
  obtain ⟨fd, F⟩ := Z.c.def_ 30 (d := mkD "joins_all" 47) rfl
  have m := Z.g "joins_all" (Z.c.fact 48 (f := .glo "joins_all") rfl)
  skip
  exact ok_joins_all Z.tx F m (k_need_web Z base) (k_need_people Z base) (k_told_in Z base) (k_rest_of Z base) sem_joins_all (fun ws R h => by first | (obtain ⟨_, rfl, _⟩ := h; rfl) | (obtain ⟨_, _, rfl, _⟩ := h; rfl) | (obtain ⟨_, _, _, rfl, _⟩ := h; rfl) | (obtain ⟨_, _, _, _, rfl, _⟩ := h; rfl))

theorem k_cut_people (Z : Zed K mg) (base : Heap) : Cal P w K mg base 4 "cut_people" ["web"] (toSp T K sp_cut_people) := by
  obtain ⟨fd, F⟩ := Z.c.def_ 35 (d := mkD "cut_people" 52) rfl
  have m := Z.g "cut_people" (Z.c.fact 53 (f := .glo "cut_people") rfl)
  skip
  exact ok_cut_people Z.tx F m (k_need_web Z base) (k_cut_in Z base) sem_cut_people (fun ws R h => by first | (obtain ⟨_, rfl, _⟩ := h; rfl) | (obtain ⟨_, _, rfl, _⟩ := h; rfl) | (obtain ⟨_, _, _, rfl, _⟩ := h; rfl) | (obtain ⟨_, _, _, _, rfl, _⟩ := h; rfl))

theorem k_row_in (Z : Zed K mg) (base : Heap) : Cal P w K mg base 4 "row_in" ["web", "rule"] (toSp T K sp_row_in) := by
  obtain ⟨fd, F⟩ := Z.c.def_ 38 (d := mkD "row_in" 57) rfl
  have m := Z.g "row_in" (Z.c.fact 56 (f := .glo "row_in") rfl)
  skip
  exact ok_row_in Z.tx F m (k_movers_in Z base) (k_next_in Z base) (k_call_in Z base) sem_row_in (fun ws R h => by first | (obtain ⟨_, rfl, _⟩ := h; rfl) | (obtain ⟨_, _, rfl, _⟩ := h; rfl) | (obtain ⟨_, _, _, rfl, _⟩ := h; rfl) | (obtain ⟨_, _, _, _, rfl, _⟩ := h; rfl))

theorem k_most_pairs_by (Z : Zed K mg) (base : Heap) : Cal P w K mg base 4 "most_pairs_by" ["web", "many"] (toSp T K sp_most_pairs_by) := by
  obtain ⟨fd, F⟩ := Z.c.def_ 44 (d := mkD "most_pairs_by" 64) rfl
  have m := Z.g "most_pairs_by" (Z.c.fact 62 (f := .glo "most_pairs_by") rfl)
  skip
  exact ok_most_pairs_by Z.tx F m (k_need_web Z base) (k_is_in Z base) (k_choices Z base) (k_told_in Z base) (k_pairs_in Z base) sem_most_pairs_by (fun ws R h => by first | (obtain ⟨_, rfl, _⟩ := h; rfl) | (obtain ⟨_, _, rfl, _⟩ := h; rfl) | (obtain ⟨_, _, _, rfl, _⟩ := h; rfl) | (obtain ⟨_, _, _, _, rfl, _⟩ := h; rfl))

theorem k_count_made (Z : Zed K mg) (base : Heap) : Cal P w K mg base 5 "count_made" ["web", "calls"] (toSp T K sp_count_made) := by
  obtain ⟨fd, F⟩ := Z.c.def_ 23 (d := mkD "count_made" 38) rfl
  have m := Z.g "count_made" (Z.c.fact 41 (f := .glo "count_made") rfl)
  skip
  exact ok_count_made Z.tx F m (k_need_web Z base) (k_need_calls Z base) (k_made_in Z base) sem_count_made (fun ws R h => by first | (obtain ⟨_, rfl, _⟩ := h; rfl) | (obtain ⟨_, _, rfl, _⟩ := h; rfl) | (obtain ⟨_, _, _, rfl, _⟩ := h; rfl) | (obtain ⟨_, _, _, _, rfl, _⟩ := h; rfl))

theorem k_calls_to_rest (Z : Zed K mg) (base : Heap) : Cal P w K mg base 5 "calls_to_rest" ["web"] (toSp T K sp_calls_to_rest) := by
  obtain ⟨fd, F⟩ := Z.c.def_ 31 (d := mkD "calls_to_rest" 48) rfl
  have m := Z.g "calls_to_rest" (Z.c.fact 49 (f := .glo "calls_to_rest") rfl)
  skip
  exact ok_calls_to_rest Z.tx F m (k_need_web Z base) (k_joining_in Z base) sem_calls_to_rest (fun ws R h => by first | (obtain ⟨_, rfl, _⟩ := h; rfl) | (obtain ⟨_, _, rfl, _⟩ := h; rfl) | (obtain ⟨_, _, _, rfl, _⟩ := h; rfl) | (obtain ⟨_, _, _, _, rfl, _⟩ := h; rfl))

theorem k_least_joining (Z : Zed K mg) (base : Heap) : Cal P w K mg base 5 "least_joining" ["web"] (toSp T K sp_least_joining) := by
  obtain ⟨fd, F⟩ := Z.c.def_ 32 (d := mkD "least_joining" 49) rfl
  have m := Z.g "least_joining" (Z.c.fact 50 (f := .glo "least_joining") rfl)
  skip
  exact ok_least_joining Z.tx F m (k_need_web Z base) (k_joining_in Z base) sem_least_joining (fun ws R h => by first | (obtain ⟨_, rfl, _⟩ := h; rfl) | (obtain ⟨_, _, rfl, _⟩ := h; rfl) | (obtain ⟨_, _, _, rfl, _⟩ := h; rfl) | (obtain ⟨_, _, _, _, rfl, _⟩ := h; rfl))

theorem k_ruled_row (Z : Zed K mg) (base : Heap) : Cal P w K mg base 5 "ruled_row" ["web", "rule"] (toSp T K sp_ruled_row) := by
  obtain ⟨fd, F⟩ := Z.c.def_ 39 (d := mkD "ruled_row" 58) rfl
  have m := Z.g "ruled_row" (Z.c.fact 57 (f := .glo "ruled_row") rfl)
  skip
  exact ok_ruled_row Z.tx F m (k_need_web Z base) (k_need_rule Z base) (k_row_in Z base) sem_ruled_row (fun ws R h => by first | (obtain ⟨_, rfl, _⟩ := h; rfl) | (obtain ⟨_, _, rfl, _⟩ := h; rfl) | (obtain ⟨_, _, _, rfl, _⟩ := h; rfl) | (obtain ⟨_, _, _, _, rfl, _⟩ := h; rfl))

theorem k_rule_lengths (Z : Zed K mg) (base : Heap) : Cal P w K mg base 5 "rule_lengths" ["web"] (toSp T K sp_rule_lengths) := by
  obtain ⟨fd, F⟩ := Z.c.def_ 40 (d := mkD "rule_lengths" 59) rfl
  have m := Z.g "rule_lengths" (Z.c.fact 58 (f := .glo "rule_lengths") rfl)
  obtain ⟨aR, hR⟩ := Z.r
  exact ok_rule_lengths Z.tx F m hR (k_need_web Z base) (k_row_in Z base) sem_rule_lengths (fun ws R h => by first | (obtain ⟨_, rfl, _⟩ := h; rfl) | (obtain ⟨_, _, rfl, _⟩ := h; rfl) | (obtain ⟨_, _, _, rfl, _⟩ := h; rfl) | (obtain ⟨_, _, _, _, rfl, _⟩ := h; rfl))

theorem k_best_rule (Z : Zed K mg) (base : Heap) : Cal P w K mg base 5 "best_rule" ["web"] (toSp T K sp_best_rule) := by
  obtain ⟨fd, F⟩ := Z.c.def_ 41 (d := mkD "best_rule" 60) rfl
  have m := Z.g "best_rule" (Z.c.fact 59 (f := .glo "best_rule") rfl)
  obtain ⟨aR, hR⟩ := Z.r
  exact ok_best_rule Z.tx F m hR (k_need_web Z base) (k_row_in Z base) sem_best_rule (fun ws R h => by first | (obtain ⟨_, rfl, _⟩ := h; rfl) | (obtain ⟨_, _, rfl, _⟩ := h; rfl) | (obtain ⟨_, _, _, rfl, _⟩ := h; rfl) | (obtain ⟨_, _, _, _, rfl, _⟩ := h; rfl))

/-- the table of calls_to_pairs's code object -/
def cP (K : PySem.W.Frag) : Addr × Addr := He.cT K ("calls_to_pairs", none)
def TT0 (K : PySem.W.Frag) : List NdefX.NTab := [((cP K).2, fun _ _ => qLam)]
theorem k_calls_to_pairs (Z : Zed K mg) (base : Heap) (TB : LamX.TabB base mg (cP K).1 (cP K).2) : Cal P w K mg base 4 "calls_to_pairs" ["web", "many"] (toSp (TT0 K) K sp_calls_to_pairs) := by
  obtain ⟨fd, F⟩ := Z.c.def_ 43 (d := mkD "calls_to_pairs" 63) rfl
  obtain ⟨fdL, FL⟩ := Z.c.def_ 42 (d := mkD "least_of" 62) rfl
  have m := Z.g "calls_to_pairs" (Z.c.fact 61 (f := .glo "calls_to_pairs") rfl)
  have mL := Z.g "least_of" (Z.c.fact 60 (f := .glo "least_of") rfl)
  have hc : fd.code = .ref (cP K).1 := by
    obtain ⟨oc, od, dV, kV, doc, pm, an, cdv, ct, osl, e, lk, hcd, _, _⟩ := F.ex
    obtain ⟨c0, ec⟩ := He.codeIn_ref hcd
    have e2 : fd.code = .ref c0 := by
      rw [e]
      exact ec
    rw [e2, show (cP K).1 = c0 from He.codeOf_eq lk e2]
  exact ok_calls_to_pairs Z.tx F m hc TB rfl FL mL (k_need_web Z base) (k_is_in Z base) (fun B => k_pairs_in Z B) (fun B => k_choices Z B) (fun B => k_told_in Z B)

theorem law_at {f : Addr} (Z : Zed K mg) (hf : mg "law" = some (.ref f)) : ∃ fd : FuncData, (∀ (s : Shared) (v : Value), BindsTo s fd ⟨[v], []⟩ [("_law_script", v)]) ∧ ∀ base : Heap, LamX.TabB base mg (cP K).1 (cP K).2 → FnOk P w K mg base CX0 6 f fd ["_law_script"] (sp_law (TT0 K) K) := by
  obtain ⟨fd, F⟩ := Z.c.def_ 48 (d := mkD "law" 69) rfl
  have m := Z.g "law" (Z.c.fact 66 (f := .glo "law") rfl)
  rw [m] at hf
  cases hf
  have b := FunD.bindsA (ps := ["_law_script"]) F fun _ _ _ _ _ _ us hl => match us, hl with | [_], _ => rfl
  exact ⟨fd, fun s v => b s [v] rfl, fun base TB => ok_law Z.tx F (k__law_web Z base) (k_greedy_row Z base) (k_calls_to_rest Z base) (k_ruled_row Z base) (k_after Z base) (k_last_web Z base) (k_cut_people Z base) (k_joins_all Z base) (k_gains Z base) (k_most_new Z base) (k_count_made Z base) (k_call Z base) (k_count_pairs Z base) (k_most_pairs_by Z base) (k_calls_to_pairs Z base TB) (k_told Z base) (k_best_rule Z base) (k_rule_lengths Z base) (k_least_joining Z base)⟩
theorem zed_of {h : Heap} (X : K.In h) (G : h.Ns mainGlobals mg) (c : He.SaysX fa fn [] tf ex w h K) : Zed K mg := by
  have d := c.t.d
  refine ⟨d, fun x hx => He.glo_ok X G hx, ?_, ⟨He.ga K "RULES", He.glo_ok X G (d.fact 17 (f := .glo "RULES") rfl), fun H => ?_⟩⟩
  · exact ⟨He.free_ok X G (d.fact 0 (f := .free "isinstance") rfl), He.free_ok X G (d.fact 1 (f := .free "int") rfl), He.free_ok X G (d.fact 2 (f := .free "bool") rfl), He.free_ok X G (d.fact 3 (f := .free "tuple") rfl), He.free_ok X G (d.fact 4 (f := .free "str") rfl), He.free_ok X G (d.fact 5 (f := .free "len") rfl), He.free_ok X G (d.fact 6 (f := .free "enumerate") rfl), He.free_ok X G (d.fact 7 (f := .free "all") rfl), He.free_ok X G (d.fact 8 (f := .free "any") rfl), He.free_ok X G (d.fact 9 (f := .free "list") rfl), He.free_ok X G (d.fact 10 (f := .free "sorted") rfl), He.free_ok X G (d.fact 11 (f := .free "set") rfl), He.free_ok X G (d.fact 12 (f := .free "range") rfl), He.free_ok X G (d.fact 13 (f := .free "min") rfl), He.free_ok X G (d.fact 14 (f := .free "sum") rfl), He.int_ok X G (d.fact 15 (f := .int "MOST_PEOPLE" 8) rfl), He.int_ok X G (d.fact 16 (f := .int "MOST_CALLS" 60) rfl)⟩
  · have h := He.tupB_ok (x := "RULES") c.more H
    exact .tup h (dpAll_strs rulesL)
end
theorem law_here {w : World} {h : Heap} {f : Addr} {mg : Str → Option Value} (Y : hk.says w h) (G : h.Ns mainGlobals mg) (hf : mg ("law" : Str) = some (.ref f)) : ∃ K : PySem.W.Frag, K.In h ∧ LamX.LawAtS PySem.Challenge.rw_introducers_k95_whole_greedy_rows w K CX0 6 63 "_law_script" mg f h := by
  obtain ⟨K, X, c⟩ := Y
  have Z := zed_of X G c
  obtain ⟨fd, hb, hF⟩ := law_at (P := PySem.Challenge.rw_introducers_k95_whole_greedy_rows.prog) (w := w) Z hf
  have hp : ∀ p ∈ [cP K], p = cP K := fun p hp => List.mem_singleton.mp hp
  have ht : ((("calls_to_pairs" : Str), none) : He.Defn) ∈ tf := List.mem_singleton.mpr rfl
  refine ⟨K, X, fd, [cP K], sp_law (TT0 K) K, fun p h => ?_, fun p h => ?_, fun p h => ?_, hb, fun H a ns _ _ hT hS => ⟨a, ns, rfl, hS, fun p h => ?_, fun _ => rfl⟩, fun base _ _ TB => hF base (TB _ (List.mem_singleton.mpr rfl))⟩
  · rw [hp p h]
    exact c.empty _ ht
  · rw [hp p h]
    exact c.out _ ht
  · rw [hp p h]
    exact PySem.W.codeHd_of_K X (c.hd _ ht)
  · obtain rfl := List.mem_singleton.mp h
    exact NdefX.TabN.nil (hT _ (List.mem_singleton.mpr rfl))
end Wk

/-! part HEnd -/
set_option Elab.async false
set_option linter.all false
set_option maxRecDepth 100000
set_option maxHeartbeats 0
open PySem PySem.W PySem.Calls PyProof.Rows
theorem PySem.Challenge.cw_introducers_k95_whole_greedy_rows_holds : PySem.Challenge.rw_introducers_k95_whole_greedy_rows.Holds := by
  w_on; o_law
  refine HandSHeadRun.head_any (r := OpenLaw.row PySem.Challenge.rw_introducers_k95_whole_greedy_rows) (q := view (OpenLaw.row PySem.Challenge.rw_introducers_k95_whole_greedy_rows).prog [69]) (H := Ik.hk) (ob := Ik.ob) (M := 4000) (loose := Ik.loose) (d := HandSHeadRun.topDef (OpenLaw.row PySem.Challenge.rw_introducers_k95_whole_greedy_rows).prog 69) (kwd := []) Ik.ob_eq
    (by kernel_rfl) (fun s => by kernel_rfl) Ik.run (by kernel_rfl) (by kernel_rfl) (by kernel_rfl) (by rfl) (by first | assumption | decide +kernel) (by decide +kernel) ⟨rfl, rfl, rfl, rfl, rfl, by decide +kernel⟩ ?hw ?hc
  case hw => w_witness2
  case hc =>
    refine LamX.walk_ofTsE (l := PySem.Challenge.rw_introducers_k95_whole_greedy_rows) (n := 63) (k := 6) (x := "_law_script") (CX := fun _ => L2.CX0) rfl (by decide) (by kernel_rfl) ⟨rfl, by decide, by decide⟩ ?F (fun _ _ _ _ _ z => z)
    intro w mg fa h Y G hmg0
    have hmg : mg ("law" : PySem.Str) = some (.ref fa) := by
      have e : (HandSHeadRun.topDef (OpenLaw.row PySem.Challenge.rw_introducers_k95_whole_greedy_rows).prog 69).name = ("law" : PySem.Str) := by kernel_rfl
      rw [← e]
      exact hmg0
    exact Wk.law_here Y G hmg
