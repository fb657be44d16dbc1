import PyProof.Rows.All
import Wide.All
import OpenK.AllK
import Wide.FinOn
import HandS.ForMost
import HandS.TupAny
import HandS.Deep
import HandS.Flow
import HandS.Style
import HandS.IsInst
import HandS.Conv
import HandS.Wide
import KE.SortData
import HandS.WideBits
import HandS.Zip
import HandS.TupSets
import KE.KeyNested
import HandS.SetKeys
import HandS.TupLen
import KE.KDictPairs
import KE.KDictSum
import HandS.EndBits
import PySem.Challenge.RW_leaguewise_k55_whole_breaks_of_all_plans

section T_DA
set_option Elab.async false
set_option linter.all false
set_option maxRecDepth 100000
set_option maxHeartbeats 1000000
set_option autoImplicit false
/-! DD: a layer of deep data over HandS. Values are plain data (PyData); what a piece of Python does is told by a tree T
    (a value, a draw from the pool, a step of the pool, a failure); lists that a def grows are owned by a slot. -/
namespace DD
open PySem PySem.Spec L2
open PyProof.Rows hiding St

abbrev D := PyData

inductive T (α : Type) : Type where
  | ret (a : α)
  | draw (n : Nat) (k : Nat → T α)
  | next (k : T α)
  | fail

namespace T
variable {α β γ : Type}
def bind : T α → (α → T β) → T β
  | .ret a, f => f a
  | .draw n k, f => .draw n fun v => (k v).bind f
  | .next k, f => .next (k.bind f)
  | .fail, _ => .fail
def map (f : α → β) (t : T α) : T β := t.bind fun a => .ret (f a)
@[simp] theorem ret_bind (a : α) (f : α → T β) : (T.ret a).bind f = f a := rfl
@[simp] theorem fail_bind (f : α → T β) : (T.fail : T α).bind f = .fail := rfl
@[simp] theorem draw_bind (n : Nat) (k : Nat → T α) (f : α → T β) : (T.draw n k).bind f = .draw n fun v => (k v).bind f := rfl
@[simp] theorem next_bind (k : T α) (f : α → T β) : (T.next k).bind f = .next (k.bind f) := rfl
theorem bind_assoc (t : T α) (f : α → T β) (g : β → T γ) : (t.bind f).bind g = t.bind fun a => (f a).bind g := by
  induction t with
  | ret a => rfl
  | fail => rfl
  | draw n k ih => simp only [draw_bind]; congr 1; funext v; exact ih v
  | next k ih => simp only [next_bind]; congr 1
theorem bind_ret (t : T α) : t.bind (fun a => .ret a) = t := by
  induction t with
  | ret a => rfl
  | fail => rfl
  | draw n k ih => simp only [draw_bind]; congr 1; funext v; exact ih v
  | next k ih => simp only [next_bind]; congr 1
/-- every end is good, g steps of the pool suffice -/
def ok : T α → Nat → (α → Nat → Prop) → Prop
  | .ret a, g, Q => Q a g
  | .draw n k, g, Q => 0 < n ∧ n < 1073741824 ∧ ∃ g', g = g' + 1 ∧ ∀ v, v < n → (k v).ok g' Q
  | .next k, g, Q => ∃ g', g = g' + 1 ∧ k.ok g' Q
  | .fail, _, _ => False
theorem ok_mono {t : T α} : ∀ {g : Nat} {Q R : α → Nat → Prop}, t.ok g Q → (∀ a g', Q a g' → R a g') → t.ok g R := by
  induction t with
  | ret a => exact fun h k => k _ _ h
  | fail => exact fun h _ => h
  | draw n k ih => exact fun ⟨h1, h2, g', e, h⟩ q => ⟨h1, h2, g', e, fun v hv => ih v (h v hv) q⟩
  | next k ih => exact fun ⟨g', e, h⟩ q => ⟨g', e, ih h q⟩
theorem ok_bind {t : T α} {f : α → T β} : ∀ {g : Nat} {Q : β → Nat → Prop}, (t.bind f).ok g Q ↔ t.ok g fun a g' => (f a).ok g' Q := by
  induction t with
  | ret a => exact Iff.rfl
  | fail => exact Iff.rfl
  | draw n k ih =>
    exact ⟨fun ⟨h1, h2, g', e, h⟩ => ⟨h1, h2, g', e, fun v hv => (ih v).mp (h v hv)⟩, fun ⟨h1, h2, g', e, h⟩ => ⟨h1, h2, g', e, fun v hv => (ih v).mpr (h v hv)⟩⟩
  | next k ih => exact ⟨fun ⟨g', e, h⟩ => ⟨g', e, ih.mp h⟩, fun ⟨g', e, h⟩ => ⟨g', e, ih.mpr h⟩⟩
/-- a size that is asked -/
def chk (n : Nat) (t : T α) : T α := if n < 16777216 then t else .fail
theorem chk_pos {n : Nat} (t : T α) (h : n < 16777216) : chk n t = t := if_pos h
theorem ok_chk {n : Nat} {t : T α} {g : Nat} {Q : α → Nat → Prop} (h : (chk n t).ok g Q) : n < 16777216 ∧ t.ok g Q := by
  unfold chk at h
  split at h
  · exact ⟨by assumption, h⟩
  · exact h.elim
/-- a condition that is asked -/
def need (b : Bool) (t : T α) : T α := if b then t else .fail
theorem ok_need {b : Bool} {t : T α} {g : Nat} {Q : α → Nat → Prop} (h : (need b t).ok g Q) : b = true ∧ t.ok g Q := by
  cases b with
  | true => exact ⟨rfl, h⟩
  | false => exact h.elim
@[simp] theorem need_true (t : T α) : need true t = t := rfl
def mapM (f : α → T β) : List α → T (List β)
  | [] => .ret []
  | a :: l => (f a).bind fun b => (mapM f l).bind fun bs => .ret (b :: bs)
/-- some of them -/
def filtM (f : α → T (Option β)) : List α → T (List β)
  | [] => .ret []
  | a :: l => (f a).bind fun o => (filtM f l).bind fun bs => .ret (match o with | some b => b :: bs | none => bs)
def foldM (f : α → β → T β) : List α → β → T β
  | [], s => .ret s
  | a :: l, s => (f a s).bind fun s' => foldM f l s'
end T

/-! ### the heap that stands, the pool -/
/-- the pool: what it draws from, all within bounds as long as g steps are left -/
def PoolAt (K : PySem.W.Frag) (Hb H : Hp) (q : Addr) (g : Nat) : Prop :=
  ∃ (sc : Addr) (ns : List Int) (pl r f : Int), H q = some (.lst [.ref sc, .int pl, .int r, .int f]) ∧ SqL K Hb sc (ns.map V.int) ∧ ns.length ≤ 63 ∧ (∀ n ∈ ns, n.natAbs < 2 ^ 1048576) ∧
    0 ≤ pl ∧ pl + g ≤ 2 ^ 60 ∧ 0 ≤ f ∧ f + g ≤ 2 ^ 60 ∧ 0 ≤ r
structure Ok (K : PySem.W.Frag) (q : Option Addr) (Hb H : Hp) (g : Nat) : Prop where
  sub : Same Hb H
  pool : ∀ a, q = some a → Hb a = Option.none ∧ PoolAt K Hb H a g
structure Step (q : Option Addr) (Hb H Hb' H' : Hp) : Prop where
  ext : Same Hb Hb'
  keep : ∀ b o, H b = some o → q ≠ some b → H' b = some o
  stay : ∀ b o, H b = some o → Hb b = Option.none → Hb' b = Option.none
section
variable {K : PySem.W.Frag} {q : Option Addr} {Hb H Hb1 H1 Hb2 H2 : Hp} {g : Nat}
theorem Step.refl : Step q Hb H Hb H := ⟨Same.refl _, fun _ _ h _ => h, fun _ _ _ h => h⟩
theorem Step.trans (ok1 : Ok K q Hb1 H1 g) (a : Step q Hb H Hb1 H1) (b : Step q Hb1 H1 Hb2 H2) : Step q Hb H Hb2 H2 := by
  refine ⟨a.ext.trans b.ext, fun c o h n => b.keep c o (a.keep c o h n) n, fun c o h n => ?_⟩
  by_cases hq : q = some c
  · obtain ⟨_, sc, ns, pl, r, f, e, _⟩ := ok1.pool c hq
    exact b.stay c _ e (a.stay c o h n)
  · exact b.stay c o (a.keep c o h hq) (a.stay c o h n)
/-- the pool's word stands while its object does -/
theorem PoolAt.keep {a : Addr} (h : PoolAt K Hb H a g) (s : Same Hb Hb1) (k : ∀ o, H a = some o → H1 a = some o) : PoolAt K Hb1 H1 a g := by
  obtain ⟨sc, ns, pl, r, f, e, hs, rest⟩ := h
  exact ⟨sc, ns, pl, r, f, k _ e, s.seq hs, rest⟩
theorem PoolAt.there {a : Addr} (h : PoolAt K Hb H a g) : ∃ o, H a = some o := by
  obtain ⟨sc, ns, pl, r, f, e, _⟩ := h
  exact ⟨_, e⟩
theorem same_upd {p : Addr} {o : HO} (hp : H p = Option.none) : Same H (upd H p o) := fun b u hb => by rw [upd_ne (ne_of_none hb hp)]; exact hb
theorem Ok.new (k : Ok K q Hb H g) {p : Addr} {o : HO} (hp : H p = Option.none) : Ok K q (upd Hb p o) (upd H p o) g := by
  refine ⟨fun b u hb => ?_, fun a ha => ?_⟩
  · by_cases e : b = p
    · subst e; rw [upd_same] at hb ⊢; exact hb
    · rw [upd_ne e] at hb ⊢; exact k.sub _ _ hb
  · obtain ⟨h1, h2⟩ := k.pool a ha
    obtain ⟨u, e⟩ := h2.there
    refine ⟨?_, h2.keep (same_upd (k.sub.free hp)) fun u hu => same_upd hp a u hu⟩
    rw [upd_ne (ne_of_none e hp)]
    exact h1
theorem Step.new (k : Ok K q Hb H g) {p : Addr} {o : HO} (hp : H p = Option.none) : Step q Hb H (upd Hb p o) (upd H p o) := by
  refine ⟨same_upd (k.sub.free hp), fun b u hb _ => same_upd hp b u hb, fun b u hb hn => ?_⟩
  rw [upd_ne (ne_of_none hb hp)]
  exact hn
/-- a new object that is not frozen yet -/
theorem Ok.own (k : Ok K q Hb H g) {p : Addr} {o : HO} (hp : H p = Option.none) : Ok K q Hb (upd H p o) g :=
  ⟨k.sub.trans (same_upd hp), fun a ha => ⟨(k.pool a ha).1, (k.pool a ha).2.keep (Same.refl _) fun u hu => same_upd hp a u hu⟩⟩
theorem Step.own {p : Addr} {o : HO} (hp : H p = Option.none) : Step q Hb H Hb (upd H p o) :=
  ⟨Same.refl _, fun b u hb _ => same_upd hp b u hb, fun _ _ _ h => h⟩
/-- an object that is there is frozen -/
theorem Ok.frz (k : Ok K q Hb H g) {p : Addr} {o : HO} (hp : H p = some o) (hb : Hb p = Option.none) (hq : q ≠ some p) : Ok K q (upd Hb p o) H g := by
  refine ⟨fun b u h => ?_, fun a ha => ⟨?_, (k.pool a ha).2.keep (same_upd hb) fun _ hu => hu⟩⟩
  · by_cases e : b = p
    · subst e; rw [upd_same] at h; rw [hp]; exact h
    · rw [upd_ne e] at h; exact k.sub _ _ h
  · rw [upd_ne (fun e => hq (by rw [ha, e]))]
    exact (k.pool a ha).1
end

/-! ### data in the heap -/
theorem sqT_mono {K : PySem.W.Frag} {H H' : Hp} {a : Addr} {xs : List V} (e : Same H H') (h : SqT K H a xs) : SqT K H' a xs := by
  rcases h with (h | ⟨o, h⟩) | h
  · exact .inl (.inl (e _ _ h))
  · exact .inl (.inr ⟨o, e _ _ h⟩)
  · exact .inr h
mutual
/-- the value v stands for the data d -/
inductive Dn (K : PySem.W.Frag) (H : Hp) : V → PyData → Prop
  | non : Dn K H .non .none
  | bl (b : Bool) : Dn K H (.bl b) (.bool b)
  | int (i : Int) : Dn K H (.int i) (.int i)
  | str (x : Str) : Dn K H (.str x) (.str x)
  | lst {a : Addr} {xs : List V} {ds : List PyData} : H a = some (.lst xs) → DnAll K H xs ds → Dn K H (.ref a) (.list ds)
  | tup {a : Addr} {xs : List V} {ds : List PyData} : SqT K H a xs → DnAll K H xs ds → Dn K H (.ref a) (.tuple ds)
inductive DnAll (K : PySem.W.Frag) (H : Hp) : List V → List PyData → Prop
  | nil : DnAll K H [] []
  | cons {v : V} {vs : List V} {d : PyData} {ds : List PyData} : Dn K H v d → DnAll K H vs ds → DnAll K H (v :: vs) (d :: ds)
end
mutual
theorem dn_mono {K : PySem.W.Frag} {H H' : Hp} (e : Same H H') : ∀ (d : PyData) (v : V), Dn K H v d → Dn K H' v d
  | .none, _, h => by cases h; exact .non
  | .bool _, _, h => by cases h; exact .bl _
  | .int _, _, h => by cases h; exact .int _
  | .str _, _, h => by cases h; exact .str _
  | .list ds, _, h => by
    cases h with
    | lst h1 h2 => exact .lst (e _ _ h1) (dnAll_mono e ds _ h2)
  | .tuple ds, _, h => by
    cases h with
    | tup h1 h2 => exact .tup (sqT_mono e h1) (dnAll_mono e ds _ h2)
  | .dict _, _, h => nomatch h
theorem dnAll_mono {K : PySem.W.Frag} {H H' : Hp} (e : Same H H') : ∀ (ds : List PyData) (vs : List V), DnAll K H vs ds → DnAll K H' vs ds
  | [], _, h => by cases h; exact .nil
  | d :: ds, _, h => by
    cases h with
    | cons h1 h2 => exact .cons (dn_mono e d _ h1) (dnAll_mono e ds _ h2)
end
mutual
theorem Dn.dp {K : PySem.W.Frag} {H : Hp} : ∀ (d : PyData) (v : V), Dn K H v d → Dp K H v d
  | .none, _, h => by cases h; exact .non
  | .bool _, _, h => by cases h; exact .bl _
  | .int _, _, h => by cases h; exact .int _
  | .str _, _, h => by cases h; exact .str _
  | .list ds, _, h => by
    cases h with
    | lst h1 h2 => exact .lst (SqL.of h1) (DnAll.dp ds _ h2)
  | .tuple ds, _, h => by
    cases h with
    | tup h1 h2 => exact .tup h1 (DnAll.dp ds _ h2)
  | .dict _, _, h => nomatch h
theorem DnAll.dp {K : PySem.W.Frag} {H : Hp} : ∀ (ds : List PyData) (vs : List V), DnAll K H vs ds → DpAll K H vs ds
  | [], _, h => by cases h; exact .nil
  | d :: ds, _, h => by
    cases h with
    | cons h1 h2 => exact .cons (Dn.dp d _ h1) (DnAll.dp ds _ h2)
end
theorem DnAll.len {K : PySem.W.Frag} {H : Hp} : ∀ {vs : List V} {ds : List PyData}, DnAll K H vs ds → vs.length = ds.length
  | _, _, .nil => rfl
  | _, _, .cons _ t => congrArg (· + 1) (DnAll.len t)
theorem DnAll.get {K : PySem.W.Frag} {H : Hp} : ∀ {vs : List V} {ds : List PyData} {i : Nat} {d : PyData}, DnAll K H vs ds → ds[i]? = some d → ∃ v, vs[i]? = some v ∧ Dn K H v d
  | _, _, _, _, .nil, e => by simp at e
  | _, _, 0, _, .cons h _, e => by simp at e; subst e; exact ⟨_, rfl, h⟩
  | _, _, i + 1, d, .cons _ t, e => by
    obtain ⟨v, h1, h2⟩ := DnAll.get (i := i) (d := d) t (by simpa using e)
    exact ⟨v, by simpa using h1, h2⟩
theorem DnAll.getV {K : PySem.W.Frag} {H : Hp} : ∀ {vs : List V} {ds : List PyData} {i : Nat} {v : V}, DnAll K H vs ds → vs[i]? = some v → ∃ d, ds[i]? = some d ∧ Dn K H v d
  | _, _, _, _, .nil, e => by simp at e
  | _, _, 0, _, .cons h _, e => by simp at e; subst e; exact ⟨_, rfl, h⟩
  | _, _, i + 1, v, .cons _ t, e => by
    obtain ⟨d, h1, h2⟩ := DnAll.getV (i := i) (v := v) t (by simpa using e)
    exact ⟨d, by simpa using h1, h2⟩
theorem DnAll.app {K : PySem.W.Frag} {H : Hp} : ∀ {vs ws : List V} {ds es : List PyData}, DnAll K H vs ds → DnAll K H ws es → DnAll K H (vs ++ ws) (ds ++ es)
  | _, _, _, _, .nil, h => h
  | _, _, _, _, .cons h t, h' => .cons h (DnAll.app t h')
theorem DnAll.one {K : PySem.W.Frag} {H : Hp} {v : V} {d : PyData} (h : Dn K H v d) : DnAll K H [v] [d] := .cons h .nil
theorem DnAll.drop {K : PySem.W.Frag} {H : Hp} : ∀ {vs : List V} {ds : List PyData} (n : Nat), DnAll K H vs ds → DnAll K H (vs.drop n) (ds.drop n)
  | _, _, 0, h => h
  | _, _, _ + 1, .nil => .nil
  | _, _, n + 1, .cons _ t => DnAll.drop n t
theorem DnAll.take {K : PySem.W.Frag} {H : Hp} : ∀ {vs : List V} {ds : List PyData} (n : Nat), DnAll K H vs ds → DnAll K H (vs.take n) (ds.take n)
  | _, _, 0, _ => .nil
  | _, _, _ + 1, .nil => .nil
  | _, _, n + 1, .cons h t => .cons h (DnAll.take n t)
theorem DnAll.rev {K : PySem.W.Frag} {H : Hp} : ∀ {vs : List V} {ds : List PyData}, DnAll K H vs ds → DnAll K H vs.reverse ds.reverse
  | _, _, .nil => .nil
  | _, _, .cons h t => by rw [List.reverse_cons, List.reverse_cons]; exact DnAll.app (DnAll.rev t) (DnAll.one h)

/-! ### slots -/
inductive Sl where
  /-- nothing is known -/
  | un
  /-- a value that stands -/
  | va (d : D)
  /-- a list that this def grows -/
  | ow (ds : List D)
  /-- the pool -/
  | po
  /-- a list of ints that is only read -/
  | fz (ns : List Int)
def SlR (K : PySem.W.Frag) (q : Option Addr) (Hb H : Hp) : Sl → Option V → Prop
  | .un, _ => True
  | .va d, s => ∃ v, s = some v ∧ Dn K Hb v d
  | .ow ds, s => ∃ p vs, s = some (V.ref p) ∧ H p = some (.lst vs) ∧ Hb p = Option.none ∧ DnAll K Hb vs ds ∧ q ≠ some p
  | .po, s => ∃ a, q = some a ∧ s = some (V.ref a)
  | .fz ns, s => ∃ a, s = some (V.ref a) ∧ SqL K Hb a (ns.map V.int)
/-- p is owned by a slot -/
def OwnP (ρ : List Sl) (σ : St) (p : Addr) : Prop := ∃ (i : Nat) (ds : List D), ρ[i]? = some (Sl.ow ds) ∧ σ[i]? = some (some (V.ref p))
structure Sls (K : PySem.W.Frag) (q : Option Addr) (Hb H : Hp) (ρ : List Sl) (σ : St) : Prop where
  len : ρ.length = σ.length
  rel : ∀ (i : Nat) sl, ρ[i]? = some sl → ∃ s, σ[i]? = some s ∧ SlR K q Hb H sl s
  sep : ∀ (i j : Nat) ds es p, ρ[i]? = some (Sl.ow ds) → ρ[j]? = some (Sl.ow es) → σ[i]? = some (some (V.ref p)) → σ[j]? = some (some (V.ref p)) → i = j
section
variable {K : PySem.W.Frag} {q : Option Addr} {Hb H Hb1 H1 : Hp} {ρ : List Sl} {σ : St} {g : Nat}
theorem SlR.step {sl : Sl} {s : Option V} (h : SlR K q Hb H sl s) (st : Step q Hb H Hb1 H1) : SlR K q Hb1 H1 sl s := by
  cases sl with
  | un => trivial
  | va d => obtain ⟨v, e, h⟩ := h; exact ⟨v, e, dn_mono st.ext _ _ h⟩
  | ow ds => obtain ⟨p, vs, e, h1, h2, h3, h4⟩ := h; exact ⟨p, vs, e, st.keep _ _ h1 h4, st.stay _ _ h1 h2, dnAll_mono st.ext _ _ h3, h4⟩
  | po => exact h
  | fz ns => obtain ⟨a, e, h⟩ := h; exact ⟨a, e, st.ext.seq h⟩
theorem Sls.step (h : Sls K q Hb H ρ σ) (st : Step q Hb H Hb1 H1) : Sls K q Hb1 H1 ρ σ :=
  ⟨h.len, fun i sl e => let ⟨s, e1, r⟩ := h.rel i sl e; ⟨s, e1, r.step st⟩, h.sep⟩
theorem Sls.va {i : Nat} {d : D} (h : Sls K q Hb H ρ σ) (e : ρ[i]? = some (Sl.va d)) : ∃ v, σ[i]? = some (some v) ∧ Dn K Hb v d := by
  obtain ⟨s, e1, v, e2, h2⟩ := h.rel i _ e
  exact ⟨v, by rw [e1, e2], h2⟩
/-- a slot is set to a value -/
theorem Sls.setVa (h : Sls K q Hb H ρ σ) {i : Nat} {d : D} {v : V} (hd : Dn K Hb v d) : Sls K q Hb H (ρ.set i (.va d)) (σ.set i (some v)) := by
  refine ⟨by simp [h.len], fun j sl e => ?_, fun j k ds es p e1 e2 e3 e4 => ?_⟩
  · by_cases hj : i = j
    · subst hj
      rw [List.getElem?_set] at e ⊢
      by_cases hl : i < ρ.length
      · simp [hl] at e; subst e
        exact ⟨some v, by simp [← h.len, hl], v, rfl, hd⟩
      · simp [hl] at e
    · rw [List.getElem?_set_ne hj] at e ⊢
      exact h.rel j sl e
  · have n1 : i ≠ j := by
      rintro rfl
      rw [List.getElem?_set] at e1
      split at e1 <;> (try split at e1) <;> simp_all
    have n2 : i ≠ k := by
      rintro rfl
      rw [List.getElem?_set] at e2
      split at e2 <;> (try split at e2) <;> simp_all
    rw [List.getElem?_set_ne n1] at e1 e3
    rw [List.getElem?_set_ne n2] at e2 e4
    exact h.sep j k ds es p e1 e2 e3 e4
/-- a slot is forgotten -/
theorem Sls.setUn (h : Sls K q Hb H ρ σ) {i : Nat} {s : Option V} : Sls K q Hb H (ρ.set i .un) (σ.set i s) := by
  refine ⟨by simp [h.len], fun j sl e => ?_, fun j k ds es p e1 e2 e3 e4 => ?_⟩
  · by_cases hj : i = j
    · subst hj
      rw [List.getElem?_set] at e ⊢
      by_cases hl : i < ρ.length
      · simp [hl] at e; subst e
        exact ⟨s, by simp [← h.len, hl], trivial⟩
      · simp [hl] at e
    · rw [List.getElem?_set_ne hj] at e ⊢
      exact h.rel j sl e
  · have n1 : i ≠ j := by
      rintro rfl
      rw [List.getElem?_set] at e1
      split at e1 <;> (try split at e1) <;> simp_all
    have n2 : i ≠ k := by
      rintro rfl
      rw [List.getElem?_set] at e2
      split at e2 <;> (try split at e2) <;> simp_all
    rw [List.getElem?_set_ne n1] at e1 e3
    rw [List.getElem?_set_ne n2] at e2 e4
    exact h.sep j k ds es p e1 e2 e3 e4
/-- a slot is set to an owned list that no slot owns -/
theorem Sls.setOw (h : Sls K q Hb H ρ σ) {i : Nat} {ds : List D} {p : Addr} {vs : List V} (h1 : H p = some (.lst vs)) (h2 : Hb p = Option.none) (h3 : DnAll K Hb vs ds) (h4 : q ≠ some p)
    (hn : ∀ (j : Nat) es, j ≠ i → ρ[j]? = some (Sl.ow es) → σ[j]? ≠ some (some (V.ref p))) : Sls K q Hb H (ρ.set i (.ow ds)) (σ.set i (some (V.ref p))) := by
  refine ⟨by simp [h.len], fun j sl e => ?_, fun j k ds' es p' e1 e2 e3 e4 => ?_⟩
  · by_cases hj : i = j
    · subst hj
      rw [List.getElem?_set] at e ⊢
      by_cases hl : i < ρ.length
      · simp [hl] at e; subst e
        exact ⟨some (.ref p), by simp [← h.len, hl], p, vs, rfl, h1, h2, h3, h4⟩
      · simp [hl] at e
    · rw [List.getElem?_set_ne hj] at e ⊢
      exact h.rel j sl e
  · by_cases n1 : i = j
    · by_cases n2 : i = k
      · exact n1.symm.trans n2
      · subst n1
        rw [List.getElem?_set_ne n2] at e2 e4
        rw [List.getElem?_set] at e3
        split at e3
        · split at e3
          · simp at e3; subst e3
            exact absurd e4 (hn k es (Ne.symm n2) e2)
          · simp at e3
        · exact absurd rfl (by assumption)
    · by_cases n2 : i = k
      · subst n2
        rw [List.getElem?_set_ne n1] at e1 e3
        rw [List.getElem?_set] at e4
        split at e4
        · split at e4
          · simp at e4; subst e4
            exact absurd e3 (hn j ds' (Ne.symm n1) e1)
          · simp at e4
        · exact absurd rfl (by assumption)
      · rw [List.getElem?_set_ne n1] at e1 e3
        rw [List.getElem?_set_ne n2] at e2 e4
        exact h.sep j k ds' es p' e1 e2 e3 e4
end
end DD
end T_DA

section T_DB
set_option Elab.async false
set_option linter.all false
set_option maxRecDepth 100000
set_option maxHeartbeats 1000000
set_option autoImplicit false
namespace DD
open PySem PySem.Spec L2
open PyProof.Rows hiding St

/-! ### contexts: what is the same in a def's body, and what varies -/
structure Ctx where
  P : Program
  w : World
  K : PySem.W.Frag
  mg : Str → Option Value
  A : Around
  N : List Str
  sc : Scope
  fn : Str → Bool
structure Rst (X : Ctx) where
  base : Heap
  s_0 : Shared
  H_0 : Hp
  env : Env
  outer : List Env
  stack : List Env
  ex : List Addr
  pn : List (Addr × Obj)
  hsc : env.scope = X.sc
@[reducible] def Ctx.at (X : Ctx) (r : Rst X) : Cx := { prog := X.P, w := X.w, K := X.K, mg := X.mg, base := r.base, A := X.A, N := X.N, s_0 := r.s_0, H_0 := r.H_0, env := r.env, outer := r.outer, stack := r.stack, ex := r.ex, fn := X.fn, calm := true, pn := r.pn, xe := fun _ _ => False }
/-- a name of the module, or built in -/
def Gb (X : Ctx) (x : Str) : Prop := X.sc.names.lookup x = some .globalImplicit
theorem Gb.gl {X : Ctx} {x : Str} (h : Gb X x) (z : Rst X) : Gl (X.at z) x := by
  show z.env.scope.names.lookup x = _
  rw [z.hsc]
  exact h

/-! ### weakest readings -/
def wE (X : Ctx) (e : Expr) : TE := fun σ H Q => ∃ u : TE, (∀ z, PE (X.at z) e u) ∧ u σ H Q
def wT (X : Ctx) (e : Expr) : TT := fun σ H Q => ∃ u : TT, (∀ z, PT (X.at z) e u) ∧ u σ H Q
def wW (X : Ctx) (e : Expr) : TT := fun σ H Q => ∃ u : TT, (∀ z, PW (X.at z) e u) ∧ u σ H Q
def wA (X : Ctx) (es : List Expr) : TA := fun σ H Q => ∃ u : TA, (∀ z, PA (X.at z) es u) ∧ u σ H Q
def wS (X : Ctx) (st : Stmt) : TS := fun D σ H => ∃ u : TS, (∀ z, PS (X.at z) st u) ∧ u D σ H
def wSs (X : Ctx) (st : List Stmt) : TS := fun D σ H => ∃ u : TS, (∀ z, PSs (X.at z) st u) ∧ u D σ H
def wI (X : Ctx) (tg iter : Expr) : TI := fun σ H R => ∃ u : TI, (∀ z, PI (X.at z) tg iter u) ∧ u σ H R
def wO (X : Ctx) (f : Value → Value → Sem Value) : R2 := fun x y H Q => ∃ r : R2, (∀ z, OpR (X.at z) f r) ∧ r x y H Q
def wC (X : Ctx) (f : Value) : List V → Hp → VK → Prop := fun xs H Q => ∃ r : List V → Hp → VK → Prop, (∀ z, CallR (X.at z) f r) ∧ r xs H Q
section
variable {X : Ctx} {z : Rst X}
theorem pe_w {e : Expr} : PE (X.at z) e (wE X e) := ⟨fun pins s σ H Q I ⟨_, h, q⟩ => (h z).run pins s σ H Q I q⟩
theorem pt_w {e : Expr} : PT (X.at z) e (wT X e) := ⟨fun pins s σ H Q I ⟨_, h, q⟩ => (h z).run pins s σ H Q I q⟩
theorem pw_w {e : Expr} : PW (X.at z) e (wW X e) := ⟨fun wh pins s σ H Q I ⟨_, h, q⟩ => (h z).run wh pins s σ H Q I q⟩
theorem pa_w {es : List Expr} : PA (X.at z) es (wA X es) := ⟨fun pos pins s σ H Q I ⟨_, h, q⟩ => (h z).run pos pins s σ H Q I q⟩
theorem ps_w {st : Stmt} : PS (X.at z) st (wS X st) := ⟨fun pins s σ H D I ⟨_, h, q⟩ => (h z).run pins s σ H D I q⟩
theorem pss_w {st : List Stmt} : PSs (X.at z) st (wSs X st) := ⟨fun pins s σ H D I ⟨_, h, q⟩ => (h z).run pins s σ H D I q⟩
theorem pi_w {tg iter : Expr} : PI (X.at z) tg iter (wI X tg iter) := ⟨fun pins s σ H R I ⟨_, h, q⟩ => (h z).run pins s σ H R I q⟩
theorem or_w {f : Value → Value → Sem Value} : OpR (X.at z) f (wO X f) := fun pins s σ H x y v u Q I rx ry ⟨_, h, q⟩ => h z pins s σ H x y v u Q I rx ry q
theorem cr_w {f : Value} : CallR (X.at z) f (wC X f) := fun pins s σ H xs us Q I r ⟨_, h, q⟩ => h z pins s σ H xs us Q I r q
end

/-! ### what is wanted, by data -/
section
variable (K : PySem.W.Frag) (q : Option Addr) (Hb H : Hp)
def PD (Q : V → Hp → Prop) : D → Nat → Prop := fun d g => ∀ v Hb' H', Step q Hb H Hb' H' → Ok K q Hb' H' g → Dn K Hb' v d → Q v H'
def PB (Q : Bool → Hp → Prop) : Bool → Nat → Prop := fun b g => ∀ Hb' H', Step q Hb H Hb' H' → Ok K q Hb' H' g → Q b H'
def PL (Q : List V → Hp → Prop) : List D → Nat → Prop := fun ds g => ∀ vs Hb' H', Step q Hb H Hb' H' → Ok K q Hb' H' g → DnAll K Hb' vs ds → Q vs H'
/-- a new list that nobody holds yet -/
def PF (Q : V → Hp → Prop) : List D → Nat → Prop := fun ds g => ∀ p vs Hb' H', Step q Hb H Hb' H' → Ok K q Hb' H' g → Hb' p = Option.none → H p = Option.none → H' p = some (.lst vs) → DnAll K Hb' vs ds → Q (.ref p) H'
end
section
variable (X : Ctx) (q : Option Addr) (ρ : List Sl)
def DX (e : Expr) (t : T D) : Prop := ∀ σ Hb H g Q, Ok X.K q Hb H g → Sls X.K q Hb H ρ σ → t.ok g (PD X.K q Hb H Q) → wE X e σ H Q
def DF (e : Expr) (t : T (List D)) : Prop := ∀ σ Hb H g Q, Ok X.K q Hb H g → Sls X.K q Hb H ρ σ → t.ok g (PF X.K q Hb H Q) → wE X e σ H Q
def DT (e : Expr) (t : T Bool) : Prop := ∀ σ Hb H g Q, Ok X.K q Hb H g → Sls X.K q Hb H ρ σ → t.ok g (PB X.K q Hb H Q) → wT X e σ H Q
def DW (e : Expr) (t : T Bool) : Prop := ∀ σ Hb H g Q, Ok X.K q Hb H g → Sls X.K q Hb H ρ σ → t.ok g (PB X.K q Hb H Q) → wW X e σ H Q
def DA (es : List Expr) (t : T (List D)) : Prop := ∀ σ Hb H g Q, Ok X.K q Hb H g → Sls X.K q Hb H ρ σ → t.ok g (PL X.K q Hb H Q) → wA X es σ H Q
def DO (f : Value → Value → Sem Value) (m : D → D → T D) : Prop := ∀ x y dx dy Hb H g Q, Ok X.K q Hb H g → Dn X.K Hb x dx → Dn X.K Hb y dy → (m dx dy).ok g (PD X.K q Hb H Q) → wO X f x y H Q
def DC (f : Value) (m : List D → T D) : Prop := ∀ xs ds Hb H g Q, Ok X.K q Hb H g → DnAll X.K Hb xs ds → (m ds).ok g (PD X.K q Hb H Q) → wC X f xs H Q
end

section
variable {X : Ctx} {q : Option Addr} {ρ : List Sl} {pos : Pos}
theorem pd_after {K : PySem.W.Frag} {Hb H Hb1 H1 : Hp} {Q : V → Hp → Prop} {d : D} {g g1 : Nat} (ok1 : Ok K q Hb1 H1 g1) (s : Step q Hb H Hb1 H1) (h : PD K q Hb H Q d g) : PD K q Hb1 H1 Q d g := fun v Hb' H' s' o' dv => h v Hb' H' (s.trans ok1 s') o' dv
theorem pb_after {K : PySem.W.Frag} {Hb H Hb1 H1 : Hp} {Q : Bool → Hp → Prop} {d : Bool} {g g1 : Nat} (ok1 : Ok K q Hb1 H1 g1) (s : Step q Hb H Hb1 H1) (h : PB K q Hb H Q d g) : PB K q Hb1 H1 Q d g := fun Hb' H' s' o' => h Hb' H' (s.trans ok1 s') o'
theorem pl_after {K : PySem.W.Frag} {Hb H Hb1 H1 : Hp} {Q : List V → Hp → Prop} {d : List D} {g g1 : Nat} (ok1 : Ok K q Hb1 H1 g1) (s : Step q Hb H Hb1 H1) (h : PL K q Hb H Q d g) : PL K q Hb1 H1 Q d g := fun v Hb' H' s' o' dv => h v Hb' H' (s.trans ok1 s') o' dv
theorem step_free {K : PySem.W.Frag} {Hb H Hb1 H1 : Hp} {g : Nat} (ok0 : Ok K q Hb H g) (s : Step q Hb H Hb1 H1) {p : Addr} (hq : q ≠ some p) (h : H1 p = Option.none) : H p = Option.none := by
  cases e : H p with
  | none => rfl
  | some o => rw [s.keep p o e hq] at h; cases h
theorem free_nq {K : PySem.W.Frag} {Hb H : Hp} {g : Nat} (ok0 : Ok K q Hb H g) {p : Addr} (h : H p = Option.none) : q ≠ some p := by
  intro e
  obtain ⟨u, e2⟩ := (ok0.pool p e).2.there
  rw [h] at e2; cases e2
theorem pf_after {K : PySem.W.Frag} {Hb H Hb1 H1 : Hp} {Q : V → Hp → Prop} {d : List D} {g g0 g1 : Nat} (ok0 : Ok K q Hb H g0) (ok1 : Ok K q Hb1 H1 g1) (s : Step q Hb H Hb1 H1) (h : PF K q Hb H Q d g) : PF K q Hb1 H1 Q d g :=
  fun p vs Hb' H' s' o' n1 n2 e dv => h p vs Hb' H' (s.trans ok1 s') o' n1 (step_free ok0 s (free_nq ok1 n2) n2) e dv

/-- an expression's value, then the rest -/
theorem DX.run {e : Expr} {t : T D} (h : DX X q ρ e t) {σ : St} {Hb H : Hp} {g : Nat} {Q : V → Hp → Prop} {C : D → Nat → Prop} (ok0 : Ok X.K q Hb H g) (sl : Sls X.K q Hb H ρ σ) (ht : t.ok g C)
    (k : ∀ d g' v Hb' H', C d g' → Step q Hb H Hb' H' → Ok X.K q Hb' H' g' → Sls X.K q Hb' H' ρ σ → Dn X.K Hb' v d → Q v H') : wE X e σ H Q :=
  h σ Hb H g Q ok0 sl (T.ok_mono ht fun d g' c v Hb' H' s o dv => k d g' v Hb' H' c s o (sl.step s) dv)
theorem DT.run {e : Expr} {t : T Bool} (h : DT X q ρ e t) {σ : St} {Hb H : Hp} {g : Nat} {Q : Bool → Hp → Prop} {C : Bool → Nat → Prop} (ok0 : Ok X.K q Hb H g) (sl : Sls X.K q Hb H ρ σ) (ht : t.ok g C)
    (k : ∀ d g' Hb' H', C d g' → Step q Hb H Hb' H' → Ok X.K q Hb' H' g' → Sls X.K q Hb' H' ρ σ → Q d H') : wT X e σ H Q :=
  h σ Hb H g Q ok0 sl (T.ok_mono ht fun d g' c Hb' H' s o => k d g' Hb' H' c s o (sl.step s))
theorem DW.run {e : Expr} {t : T Bool} (h : DW X q ρ e t) {σ : St} {Hb H : Hp} {g : Nat} {Q : Bool → Hp → Prop} {C : Bool → Nat → Prop} (ok0 : Ok X.K q Hb H g) (sl : Sls X.K q Hb H ρ σ) (ht : t.ok g C)
    (k : ∀ d g' Hb' H', C d g' → Step q Hb H Hb' H' → Ok X.K q Hb' H' g' → Sls X.K q Hb' H' ρ σ → Q d H') : wW X e σ H Q :=
  h σ Hb H g Q ok0 sl (T.ok_mono ht fun d g' c Hb' H' s o => k d g' Hb' H' c s o (sl.step s))
theorem DA.run {es : List Expr} {t : T (List D)} (h : DA X q ρ es t) {σ : St} {Hb H : Hp} {g : Nat} {Q : List V → Hp → Prop} {C : List D → Nat → Prop} (ok0 : Ok X.K q Hb H g) (sl : Sls X.K q Hb H ρ σ) (ht : t.ok g C)
    (k : ∀ d g' v Hb' H', C d g' → Step q Hb H Hb' H' → Ok X.K q Hb' H' g' → Sls X.K q Hb' H' ρ σ → DnAll X.K Hb' v d → Q v H') : wA X es σ H Q :=
  h σ Hb H g Q ok0 sl (T.ok_mono ht fun d g' c v Hb' H' s o dv => k d g' v Hb' H' c s o (sl.step s) dv)
theorem DF.run {e : Expr} {t : T (List D)} (h : DF X q ρ e t) {σ : St} {Hb H : Hp} {g : Nat} {Q : V → Hp → Prop} {C : List D → Nat → Prop} (ok0 : Ok X.K q Hb H g) (sl : Sls X.K q Hb H ρ σ) (ht : t.ok g C)
    (k : ∀ d g' p vs Hb' H', C d g' → Step q Hb H Hb' H' → Ok X.K q Hb' H' g' → Sls X.K q Hb' H' ρ σ → Hb' p = Option.none → H p = Option.none → H' p = some (.lst vs) → DnAll X.K Hb' vs d → Q (.ref p) H') : wE X e σ H Q :=
  h σ Hb H g Q ok0 sl (T.ok_mono ht fun d g' c p vs Hb' H' s o n1 n2 e dv => k d g' p vs Hb' H' c s o (sl.step s) n1 n2 e dv)

/-! ### names, constants -/
theorem dx_va (i : Nat) {d : D} {x : Str} (e : ρ[i]? = some (Sl.va d)) (hN : X.N[i]? = some x) (hv : Vis X.sc x) (hd : (x == ("__debug__" : Str)) = false := by decide)
    (hcd : (x == ("__classdict__" : Str)) = false := by decide) : DX X q ρ (.Name x pos) (.ret d) := fun σ Hb H g Q ok0 sl ht => by
  obtain ⟨v, e1, dv⟩ := sl.va e
  exact ⟨_, fun z => pe_var hN (by rw [z.hsc]; exact hv) hd hcd, v, e1, ht v Hb H .refl ok0 dv⟩
theorem dx_int {i : Int} {j : Nat} : DX X q ρ (.Constant (.int i) j pos) (.ret (.int i)) := fun _ Hb H _ _ ok0 _ ht => ⟨_, fun z => pe_int, ht _ Hb H .refl ok0 (.int i)⟩
theorem dx_bl {b : Bool} {j : Nat} : DX X q ρ (.Constant (.bool b) j pos) (.ret (.bool b)) := fun _ Hb H _ _ ok0 _ ht => ⟨_, fun z => pe_bl, ht _ Hb H .refl ok0 (.bl b)⟩
theorem dx_non {j : Nat} : DX X q ρ (.Constant .none j pos) (.ret .none) := fun _ Hb H _ _ ok0 _ ht => ⟨_, fun z => pe_non, ht _ Hb H .refl ok0 .non⟩
theorem dx_str {x : Str} {j : Nat} : DX X q ρ (.Constant (.str x) j pos) (.ret (.str x)) := fun _ Hb H _ _ ok0 _ ht => ⟨_, fun z => pe_str, ht _ Hb H .refl ok0 (.str x)⟩
/-- a constant of the module -/
theorem dx_glob {x : Str} {v : V} {u : Value} {d : D} (hg : Gb X x) (hm : X.mg x = some u) (r : RelV v u) (hd : ∀ H, Dn X.K H v d) (hdb : (x == ("__debug__" : Str)) = false := by decide) : DX X q ρ (.Name x pos) (.ret d) :=
  fun _ Hb H _ _ ok0 _ ht => ⟨_, fun z => pe_glob (hg.gl z) hm r hdb, ht _ Hb H .refl ok0 (hd Hb)⟩

/-! ### argument lists, displays -/
theorem da_nil : DA X q ρ [] (.ret []) := fun _ Hb H _ _ ok0 _ ht => ⟨_, fun z => pa_nil, ht _ Hb H .refl ok0 .nil⟩
theorem da_cons {e : Expr} {es : List Expr} {t : T D} {ts : T (List D)} (h : DX X q ρ e t) (hs : DA X q ρ es ts) (hst : ∀ env : Env, starEach (e :: es) env = (false, eval e env) :: starEach es env := by intro _; rfl) :
    DA X q ρ (e :: es) (t.bind fun d => ts.bind fun ds => .ret (d :: ds)) := fun σ Hb H g Q ok0 sl ht => by
  refine ⟨_, fun z => pa_cons pe_w pa_w (hst _), ?_⟩
  refine h.run ok0 sl (T.ok_bind.mp ht) fun d g1 v Hb1 H1 c1 s1 ok1 sl1 d1 => ?_
  refine hs.run ok1 sl1 (T.ok_bind.mp c1) fun ds g2 vs Hb2 H2 c2 s2 ok2 sl2 d2 => ?_
  exact c2 _ Hb2 H2 (s1.trans ok1 s2) ok2 (.cons (dn_mono s2.ext _ _ d1) d2)
theorem ok_line {n : Nat} (h : n < 16777216) : n ≤ sizeLine := by rw [sizeLine_eq]; omega
theorem dx_tup {es : List Expr} {x1 : Nat} {ts : T (List D)} (h : DA X q ρ es ts) : DX X q ρ (.Tuple es x1 pos) (ts.bind fun ds => .chk ds.length (.ret (.tuple ds))) := fun σ Hb H g Q ok0 sl ht => by
  refine ⟨_, fun z => pe_tup pa_w, ?_⟩
  refine h.run ok0 sl (T.ok_bind.mp ht) fun ds g1 vs Hb1 H1 c1 s1 ok1 sl1 d1 => ?_
  obtain ⟨hz, c1⟩ := T.ok_chk c1
  refine ⟨by rw [DnAll.len d1]; exact ok_line hz, fun p hp => ?_⟩
  exact c1 _ _ _ (s1.trans ok1 (.new ok1 hp)) (ok1.new hp) (.tup (SqT.of upd_same) (dnAll_mono (same_upd (ok1.sub.free hp)) _ _ d1))
theorem df_lst {es : List Expr} {ts : T (List D)} (h : DA X q ρ es ts) : DF X q ρ (.List es pos) (ts.bind fun ds => .chk ds.length (.ret ds)) := fun σ Hb H g Q ok0 sl ht => by
  refine ⟨_, fun z => pe_lst pa_w, ?_⟩
  refine h.run ok0 sl (T.ok_bind.mp ht) fun ds g1 vs Hb1 H1 c1 s1 ok1 sl1 d1 => ?_
  obtain ⟨hz, c1⟩ := T.ok_chk c1
  refine ⟨by rw [DnAll.len d1]; exact ok_line hz, fun p hp => ?_⟩
  exact c1 p vs Hb1 _ (s1.trans ok1 (.own hp)) (ok1.own hp) (ok1.sub.free hp) (step_free ok0 s1 (free_nq ok1 hp) hp) upd_same d1
/-- a new list as a value that stands -/
theorem dx_of_df {e : Expr} {t : T (List D)} (h : DF X q ρ e t) : DX X q ρ e (t.bind fun ds => .ret (.list ds)) := fun σ Hb H g Q ok0 sl ht => by
  refine h.run ok0 sl (T.ok_bind.mp ht) fun ds g1 p vs Hb1 H1 c1 s1 ok1 sl1 n1 n2 e1 d1 => ?_
  have nq : q ≠ some p := free_nq ok0 n2
  refine c1 _ (upd Hb1 p (.lst vs)) H1 ⟨s1.ext.trans (same_upd n1), s1.keep, fun b o hb hn => ?_⟩ (ok1.frz e1 n1 nq) (.lst upd_same (dnAll_mono (same_upd n1) _ _ d1))
  rw [upd_ne (ne_of_none hb n2)]
  exact s1.stay b o hb hn
theorem chk_lit {α : Type} {n : Nat} {t : T α} (h : decide (n < 16777216) = true) : T.chk n t = t := if_pos (of_decide_eq_true h)
section
variable {e1 e2 e3 e4 : Expr} {t1 t2 t3 t4 : T D} {x1 : Nat}
theorem dx_tup0 : DX X q ρ (.Tuple [] x1 pos) (.ret (.tuple [])) := dx_tup da_nil
theorem dx_tup1 (h1 : DX X q ρ e1 t1) (hs1 : ∀ env : Env, starEach [e1] env = (false, eval e1 env) :: starEach [] env := by intro _; rfl) : DX X q ρ (.Tuple [e1] x1 pos) (t1.bind fun a => .ret (.tuple [a])) := by
  have h := dx_tup (x1 := x1) (pos := pos) (da_cons h1 da_nil hs1)
  simp only [T.bind_assoc, T.ret_bind] at h
  exact h
theorem dx_tup2 (h1 : DX X q ρ e1 t1) (h2 : DX X q ρ e2 t2) (hs1 : ∀ env : Env, starEach [e1, e2] env = (false, eval e1 env) :: starEach [e2] env := by intro _; rfl) (hs2 : ∀ env : Env, starEach [e2] env = (false, eval e2 env) :: starEach [] env := by intro _; rfl) :
    DX X q ρ (.Tuple [e1, e2] x1 pos) (t1.bind fun a => t2.bind fun b => .ret (.tuple [a, b])) := by
  have h := dx_tup (x1 := x1) (pos := pos) (da_cons h1 (da_cons h2 da_nil hs2) hs1)
  simp only [T.bind_assoc, T.ret_bind] at h
  exact h
theorem dx_tup3 (h1 : DX X q ρ e1 t1) (h2 : DX X q ρ e2 t2) (h3 : DX X q ρ e3 t3) (hs1 : ∀ env : Env, starEach [e1, e2, e3] env = (false, eval e1 env) :: starEach [e2, e3] env := by intro _; rfl)
    (hs2 : ∀ env : Env, starEach [e2, e3] env = (false, eval e2 env) :: starEach [e3] env := by intro _; rfl) (hs3 : ∀ env : Env, starEach [e3] env = (false, eval e3 env) :: starEach [] env := by intro _; rfl) :
    DX X q ρ (.Tuple [e1, e2, e3] x1 pos) (t1.bind fun a => t2.bind fun b => t3.bind fun c => .ret (.tuple [a, b, c])) := by
  have h := dx_tup (x1 := x1) (pos := pos) (da_cons h1 (da_cons h2 (da_cons h3 da_nil hs3) hs2) hs1)
  simp only [T.bind_assoc, T.ret_bind] at h
  exact h
theorem dx_tup4 (h1 : DX X q ρ e1 t1) (h2 : DX X q ρ e2 t2) (h3 : DX X q ρ e3 t3) (h4 : DX X q ρ e4 t4) (hs1 : ∀ env : Env, starEach [e1, e2, e3, e4] env = (false, eval e1 env) :: starEach [e2, e3, e4] env := by intro _; rfl)
    (hs2 : ∀ env : Env, starEach [e2, e3, e4] env = (false, eval e2 env) :: starEach [e3, e4] env := by intro _; rfl) (hs3 : ∀ env : Env, starEach [e3, e4] env = (false, eval e3 env) :: starEach [e4] env := by intro _; rfl)
    (hs4 : ∀ env : Env, starEach [e4] env = (false, eval e4 env) :: starEach [] env := by intro _; rfl) :
    DX X q ρ (.Tuple [e1, e2, e3, e4] x1 pos) (t1.bind fun a => t2.bind fun b => t3.bind fun c => t4.bind fun d => .ret (.tuple [a, b, c, d])) := by
  have h := dx_tup (x1 := x1) (pos := pos) (da_cons h1 (da_cons h2 (da_cons h3 (da_cons h4 da_nil hs4) hs3) hs2) hs1)
  simp only [T.bind_assoc, T.ret_bind] at h
  exact h
theorem df_lst0 : DF X q ρ (.List [] pos) (.ret []) := df_lst da_nil
theorem df_lst1 (h1 : DX X q ρ e1 t1) (hs1 : ∀ env : Env, starEach [e1] env = (false, eval e1 env) :: starEach [] env := by intro _; rfl) : DF X q ρ (.List [e1] pos) (t1.bind fun a => .ret [a]) := by
  have h := df_lst (pos := pos) (da_cons h1 da_nil hs1)
  simp only [T.bind_assoc, T.ret_bind] at h
  exact h
theorem df_lst2 (h1 : DX X q ρ e1 t1) (h2 : DX X q ρ e2 t2) (hs1 : ∀ env : Env, starEach [e1, e2] env = (false, eval e1 env) :: starEach [e2] env := by intro _; rfl) (hs2 : ∀ env : Env, starEach [e2] env = (false, eval e2 env) :: starEach [] env := by intro _; rfl) :
    DF X q ρ (.List [e1, e2] pos) (t1.bind fun a => t2.bind fun b => .ret [a, b]) := by
  have h := df_lst (pos := pos) (da_cons h1 (da_cons h2 da_nil hs2) hs1)
  simp only [T.bind_assoc, T.ret_bind] at h
  exact h
end

/-! ### operators, comparisons, tests -/
section
variable {a b c : Expr} {ta tb tc : T D}
theorem dx_op {op : Operator} {m : D → D → T D} (ho : DO X q (binaryOp op) m) (ha : DX X q ρ a ta) (hb : DX X q ρ b tb) : DX X q ρ (.BinOp a op b pos) (ta.bind fun x => tb.bind fun y => m x y) := fun σ Hb H g Q ok0 sl ht => by
  refine ⟨_, fun z => pe_op or_w pe_w pe_w, ?_⟩
  refine ha.run ok0 sl (T.ok_bind.mp ht) fun d g1 v Hb1 H1 c1 s1 ok1 sl1 d1 => ?_
  refine hb.run ok1 sl1 (T.ok_bind.mp c1) fun d' g2 v' Hb2 H2 c2 s2 ok2 sl2 d2 => ?_
  exact ho _ _ _ _ Hb2 H2 g2 _ ok2 (dn_mono s2.ext _ _ d1) d2 (T.ok_mono c2 fun d g' h => pd_after ok2 (s1.trans ok1 s2) h)
/-- a comparison that gives a Bool -/
def DOB (X : Ctx) (q : Option Addr) (f : Value → Value → Sem Value) (m : D → D → T Bool) : Prop := DO X q f fun x y => (m x y).bind fun b => .ret (.bool b)
theorem dx_cmp {op : CmpOp} {m : D → D → T Bool} (ho : DOB X q (compareOp op) m) (ha : DX X q ρ a ta) (hb : DX X q ρ b tb) (hm : behindInMarks op b = false) :
    DX X q ρ (.Compare a [op] [b] pos) (ta.bind fun x => tb.bind fun y => (m x y).bind fun b => .ret (.bool b)) := fun σ Hb H g Q ok0 sl ht => by
  refine ⟨_, fun z => pe_cmpR or_w pe_w pe_w hm, ?_⟩
  refine ha.run ok0 sl (T.ok_bind.mp ht) fun d g1 v Hb1 H1 c1 s1 ok1 sl1 d1 => ?_
  refine hb.run ok1 sl1 (T.ok_bind.mp c1) fun d' g2 v' Hb2 H2 c2 s2 ok2 sl2 d2 => ?_
  exact ho _ _ _ _ Hb2 H2 g2 _ ok2 (dn_mono s2.ext _ _ d1) d2 (T.ok_mono c2 fun d g' h => pd_after ok2 (s1.trans ok1 s2) h)
theorem dt_cmp {op : CmpOp} {m : D → D → T Bool} (ho : DOB X q (compareOp op) m) (ha : DX X q ρ a ta) (hb : DX X q ρ b tb) (hm : behindInMarks op b = false) :
    DT X q ρ (.Compare a [op] [b] pos) (ta.bind fun x => tb.bind fun y => m x y) := fun σ Hb H g Q ok0 sl ht => by
  refine ⟨_, fun z => pt_cmpR or_w pe_w pe_w hm, ?_⟩
  refine ha.run ok0 sl (T.ok_bind.mp ht) fun d g1 v Hb1 H1 c1 s1 ok1 sl1 d1 => ?_
  refine hb.run ok1 sl1 (T.ok_bind.mp c1) fun d' g2 v' Hb2 H2 c2 s2 ok2 sl2 d2 => ?_
  refine ho _ _ _ _ Hb2 H2 g2 _ ok2 (dn_mono s2.ext _ _ d1) d2 (T.ok_bind.mpr (T.ok_mono c2 fun d g' h => ?_))
  intro v3 Hb3 H3 s3 ok3 d3
  cases d3
  exact ⟨_, rfl, h Hb3 H3 ((s1.trans ok1 s2).trans ok2 s3) ok3⟩
/-- a op b op' c -/
def chainT (m m' : D → D → T Bool) (ta tb tc : T D) : T Bool := ta.bind fun x => tb.bind fun y => (m x y).bind fun k => if k then tc.bind fun z => m' y z else .ret false
theorem dx_chain {op op' : CmpOp} {m m' : D → D → T Bool} (ho : DOB X q (compareOp op) m) (ho' : DOB X q (compareOp op') m') (ha : DX X q ρ a ta) (hb : DX X q ρ b tb) (hc : DX X q ρ c tc)
    (hm : lastMarks [op, op'] [b, c] = false := by with_unfolding_all rfl) : DX X q ρ (.Compare a [op, op'] [b, c] pos) ((chainT m m' ta tb tc).bind fun b => .ret (.bool b)) := fun σ Hb H g Q ok0 sl ht => by
  refine ⟨_, fun z => pe_chain or_w or_w pe_w pe_w pe_w hm, ?_⟩
  unfold chainT at ht
  simp only [T.bind_assoc] at ht
  refine ha.run ok0 sl (T.ok_bind.mp ht) fun d g1 v Hb1 H1 c1 s1 ok1 sl1 d1 => ?_
  refine hb.run ok1 sl1 (T.ok_bind.mp c1) fun d' g2 v' Hb2 H2 c2 s2 ok2 sl2 d2 => ?_
  have s12 := s1.trans ok1 s2
  refine ho _ _ _ _ Hb2 H2 g2 _ ok2 (dn_mono s2.ext _ _ d1) d2 (T.ok_bind.mpr (T.ok_mono (T.ok_bind.mp c2) fun k g3 c3 => ?_))
  intro v3 Hb3 H3 s3 ok3 d3
  cases d3
  refine ⟨_, rfl, ?_⟩
  have s13 := s12.trans ok2 s3
  cases k with
  | false => exact iteF (c3 _ Hb3 H3 s13 ok3 (.bl false))
  | true =>
    refine iteT ?_
    simp only [if_true, T.bind_assoc] at c3
    refine hc.run ok3 (sl2.step s3) (T.ok_bind.mp c3) fun d4 g4 v4 Hb4 H4 c4 s4 ok4 sl4 d4' => ?_
    exact ho' _ _ _ _ Hb4 H4 g4 _ ok4 (dn_mono (s3.ext.trans s4.ext) _ _ d2) d4' (T.ok_mono c4 fun d g' h => pd_after ok4 (s13.trans ok3 s4) h)
theorem dt_chain {op op' : CmpOp} {m m' : D → D → T Bool} (ho : DOB X q (compareOp op) m) (ho' : DOB X q (compareOp op') m') (ha : DX X q ρ a ta) (hb : DX X q ρ b tb) (hc : DX X q ρ c tc)
    (hm : lastMarks [op, op'] [b, c] = false := by with_unfolding_all rfl) : DT X q ρ (.Compare a [op, op'] [b, c] pos) (chainT m m' ta tb tc) := fun σ Hb H g Q ok0 sl ht => by
  refine ⟨_, fun z => pt_chain or_w or_w pe_w pe_w pe_w hm, ?_⟩
  unfold chainT at ht
  refine ha.run ok0 sl (T.ok_bind.mp ht) fun d g1 v Hb1 H1 c1 s1 ok1 sl1 d1 => ?_
  refine hb.run ok1 sl1 (T.ok_bind.mp c1) fun d' g2 v' Hb2 H2 c2 s2 ok2 sl2 d2 => ?_
  have s12 := s1.trans ok1 s2
  refine ho _ _ _ _ Hb2 H2 g2 _ ok2 (dn_mono s2.ext _ _ d1) d2 (T.ok_bind.mpr (T.ok_mono (T.ok_bind.mp c2) fun k g3 c3 => ?_))
  intro v3 Hb3 H3 s3 ok3 d3
  cases d3
  refine ⟨_, rfl, ?_⟩
  have s13 := s12.trans ok2 s3
  cases k with
  | false => exact iteF ⟨_, rfl, c3 Hb3 H3 s13 ok3⟩
  | true =>
    refine iteT ?_
    simp only [if_true] at c3
    refine hc.run ok3 (sl2.step s3) (T.ok_bind.mp c3) fun d4 g4 v4 Hb4 H4 c4 s4 ok4 sl4 d4' => ?_
    refine ho' _ _ _ _ Hb4 H4 g4 _ ok4 (dn_mono (s3.ext.trans s4.ext) _ _ d2) d4' (T.ok_bind.mpr (T.ok_mono c4 fun b5 g5 c5 => ?_))
    intro v5 Hb5 H5 s5 ok5 d5
    cases d5
    exact ⟨_, rfl, c5 Hb5 H5 ((s13.trans ok3 s4).trans ok4 s5) ok5⟩
/-- a value that is a Bool, as a test -/
theorem dt_val {e : Expr} {t : T Bool} (h : DX X q ρ e (t.bind fun b => .ret (.bool b))) (he : ∀ (env : Env) (whole : Sem Value), isTrue e env whole = (do let v ← whole; standAt e.pos; holding [v] (truthy v)) := by intro _ _; rfl) : DT X q ρ e t := fun σ Hb H g Q ok0 sl ht => by
  refine ⟨_, fun z => pt_val pe_w (he _), ?_⟩
  refine h.run ok0 sl (C := fun d g' => ∃ b, d = .bool b ∧ PB X.K q Hb H Q b g') (T.ok_bind.mpr (T.ok_mono ht fun b g' h => ⟨b, rfl, h⟩)) fun d g1 v Hb1 H1 ⟨b, e1, c1⟩ s1 ok1 sl1 d1 => ?_
  subst e1
  cases d1
  exact ⟨b, rfl, c1 Hb1 H1 s1 ok1⟩
/-- truth -/
def truth : D → T Bool
  | .none => .ret false
  | .bool b => .ret b
  | .int i => .ret (i != 0)
  | .list ds => .ret (!ds.isEmpty)
  | .tuple ds => .ret (!ds.isEmpty)
  | .str s => .chk s.length (.ret ((s.length : Int) != 0))
  | .dict _ => .fail
theorem isEmpty_dn {K : PySem.W.Frag} {H : Hp} {vs : List V} {ds : List D} (h : DnAll K H vs ds) : vs.isEmpty = ds.isEmpty := by cases h <;> rfl
theorem truth_ok {K : PySem.W.Frag} {Hb H : Hp} {d : D} {v : V} {g : Nat} {C : Bool → Nat → Prop} (hs : Same Hb H) (h : Dn K Hb v d) (ht : (truth d).ok g C) : ∃ k, TruV K v H k ∧ C k g := by
  cases h with
  | non => exact ⟨false, rfl, ht⟩
  | bl b => exact ⟨b, rfl, ht⟩
  | int i => exact ⟨_, rfl, ht⟩
  | str s => obtain ⟨h1, h2⟩ := T.ok_chk ht; exact ⟨_, ⟨ok_line h1, rfl⟩, h2⟩
  | lst h1 h2 => exact ⟨_, .inl ⟨_, SqL.of (hs _ _ h1), rfl⟩, by rw [isEmpty_dn h2]; exact ht⟩
  | tup h1 h2 => exact ⟨_, .inr (.inl ⟨_, sqT_mono hs h1, rfl⟩), by rw [isEmpty_dn h2]; exact ht⟩
theorem dt_truth {e : Expr} {t : T D} (h : DX X q ρ e t) (he : ∀ (env : Env) (whole : Sem Value), isTrue e env whole = (do let v ← whole; standAt e.pos; holding [v] (truthy v)) := by intro _ _; rfl) : DT X q ρ e (t.bind truth) := fun σ Hb H g Q ok0 sl ht => by
  refine ⟨fun σ H Q => wE X e σ H fun x H' => ∃ k, TruV X.K x H' k ∧ Q k H', fun z => pt_truth pe_w (he _), ?_⟩
  refine h.run ok0 sl (T.ok_bind.mp ht) fun d g1 v Hb1 H1 c1 s1 ok1 sl1 d1 => ?_
  obtain ⟨k, e1, c2⟩ := truth_ok ok1.sub d1 c1
  exact ⟨k, e1, c2 Hb1 H1 s1 ok1⟩
end
section
variable {a b : Expr} {rest : List Expr} {ta tb : T Bool}
def andT (s t : T Bool) : T Bool := s.bind fun k => if k then t else .ret false
def orT (s t : T Bool) : T Bool := s.bind fun k => if k then .ret true else t
def notT (s : T Bool) : T Bool := s.bind fun k => .ret (!k)
theorem dt_of_dw {e : Expr} {t : T Bool} (h : DW X q ρ e t) : DT X q ρ e t := fun σ Hb H g Q ok0 sl ht => by
  obtain ⟨u, h1, h2⟩ := h σ Hb H g Q ok0 sl ht
  exact ⟨u, fun z => (h1 z).pt, h2⟩
theorem dw_and1 (h : DT X q ρ a ta) : DW X q ρ (.BoolOp .And [a] pos) ta := fun σ Hb H g Q ok0 sl ht => by
  obtain ⟨u, h1, h2⟩ := h σ Hb H g Q ok0 sl ht
  exact ⟨u, fun z => pw_and1 (h1 z), h2⟩
theorem dw_or1 (h : DT X q ρ a ta) : DW X q ρ (.BoolOp .Or [a] pos) ta := fun σ Hb H g Q ok0 sl ht => by
  obtain ⟨u, h1, h2⟩ := h σ Hb H g Q ok0 sl ht
  exact ⟨u, fun z => pw_or1 (h1 z), h2⟩
theorem dw_and (h : DT X q ρ a ta) (h2 : DW X q ρ (.BoolOp .And (b :: rest) pos) tb) : DW X q ρ (.BoolOp .And (a :: b :: rest) pos) (andT ta tb) := fun σ Hb H g Q ok0 sl ht => by
  refine ⟨_, fun z => pw_and pt_w pw_w, ?_⟩
  refine h.run ok0 sl (T.ok_bind.mp ht) fun k g1 Hb1 H1 c1 s1 ok1 sl1 => ?_
  cases k with
  | false => exact iteF (c1 Hb1 H1 s1 ok1)
  | true =>
    refine iteT ?_
    simp only [if_true] at c1
    exact h2.run ok1 sl1 c1 fun k2 g2 Hb2 H2 c2 s2 ok2 _ => c2 Hb2 H2 (s1.trans ok1 s2) ok2
theorem dw_or (h : DT X q ρ a ta) (h2 : DW X q ρ (.BoolOp .Or (b :: rest) pos) tb) : DW X q ρ (.BoolOp .Or (a :: b :: rest) pos) (orT ta tb) := fun σ Hb H g Q ok0 sl ht => by
  refine ⟨_, fun z => pw_or pt_w pw_w, ?_⟩
  refine h.run ok0 sl (T.ok_bind.mp ht) fun k g1 Hb1 H1 c1 s1 ok1 sl1 => ?_
  cases k with
  | true => exact iteT (c1 Hb1 H1 s1 ok1)
  | false =>
    refine iteF ?_
    simp only [Bool.false_eq_true, if_false] at c1
    exact h2.run ok1 sl1 c1 fun k2 g2 Hb2 H2 c2 s2 ok2 _ => c2 Hb2 H2 (s1.trans ok1 s2) ok2
theorem dt_not (h : DT X q ρ a ta) : DT X q ρ (.UnaryOp .Not a pos) (notT ta) := fun σ Hb H g Q ok0 sl ht => by
  refine ⟨_, fun z => pt_not pt_w, ?_⟩
  exact h.run ok0 sl (T.ok_bind.mp ht) fun k g1 Hb1 H1 c1 s1 ok1 _ => c1 Hb1 H1 s1 ok1
/-- as values -/
abbrev bo (t : T Bool) : T D := t.bind fun b => .ret (.bool b)
theorem dx_and1 {t : T D} (h : DX X q ρ a t) : DX X q ρ (.BoolOp .And [a] pos) t := fun σ Hb H g Q ok0 sl ht => by
  obtain ⟨u, h1, h2⟩ := h σ Hb H g Q ok0 sl ht
  exact ⟨u, fun z => pe_one (h1 z), h2⟩
theorem dx_or1 {t : T D} (h : DX X q ρ a t) : DX X q ρ (.BoolOp .Or [a] pos) t := fun σ Hb H g Q ok0 sl ht => by
  obtain ⟨u, h1, h2⟩ := h σ Hb H g Q ok0 sl ht
  exact ⟨u, fun z => pe_one (h1 z), h2⟩
theorem dx_and (h : DX X q ρ a (bo ta)) (h2 : DX X q ρ (.BoolOp .And (b :: rest) pos) (bo tb)) : DX X q ρ (.BoolOp .And (a :: b :: rest) pos) (bo (andT ta tb)) := fun σ Hb H g Q ok0 sl ht => by
  refine ⟨_, fun z => pe_and pe_w pe_w, ?_⟩
  unfold bo andT at ht
  rw [T.bind_assoc] at ht
  refine h.run ok0 sl (C := fun d g' => ∃ k, d = .bool k ∧ ((if k = true then tb else T.ret false).bind fun b => T.ret (PyData.bool b)).ok g' (PD X.K q Hb H Q)) (T.ok_bind.mpr (T.ok_mono (T.ok_bind.mp ht) fun b g' h => ⟨b, rfl, h⟩)) fun d g1 v Hb1 H1 ⟨k, e1, c1⟩ s1 ok1 sl1 d1 => ?_
  subst e1
  cases d1
  refine ⟨k, rfl, ?_⟩
  cases k with
  | false => exact iteF (c1 _ Hb1 H1 s1 ok1 (.bl false))
  | true =>
    refine iteT (h2 σ Hb1 H1 g1 Q ok1 sl1 ?_)
    simp only [if_true] at c1
    exact T.ok_mono c1 fun d g' h => pd_after ok1 s1 h
theorem dx_or (h : DX X q ρ a (bo ta)) (h2 : DX X q ρ (.BoolOp .Or (b :: rest) pos) (bo tb)) : DX X q ρ (.BoolOp .Or (a :: b :: rest) pos) (bo (orT ta tb)) := fun σ Hb H g Q ok0 sl ht => by
  refine ⟨_, fun z => pe_or pe_w pe_w, ?_⟩
  unfold bo orT at ht
  rw [T.bind_assoc] at ht
  refine h.run ok0 sl (C := fun d g' => ∃ k, d = .bool k ∧ ((if k = true then T.ret true else tb).bind fun b => T.ret (PyData.bool b)).ok g' (PD X.K q Hb H Q)) (T.ok_bind.mpr (T.ok_mono (T.ok_bind.mp ht) fun b g' h => ⟨b, rfl, h⟩)) fun d g1 v Hb1 H1 ⟨k, e1, c1⟩ s1 ok1 sl1 d1 => ?_
  subst e1
  cases d1
  refine ⟨k, rfl, ?_⟩
  cases k with
  | true => exact iteT (c1 _ Hb1 H1 s1 ok1 (.bl true))
  | false =>
    refine iteF (h2 σ Hb1 H1 g1 Q ok1 sl1 ?_)
    simp only [Bool.false_eq_true, if_false] at c1
    exact T.ok_mono c1 fun d g' h => pd_after ok1 s1 h
theorem dx_not (h : DX X q ρ a (bo ta)) : DX X q ρ (.UnaryOp .Not a pos) (bo (notT ta)) := fun σ Hb H g Q ok0 sl ht => by
  refine ⟨_, fun z => pe_not pe_w, ?_⟩
  unfold bo notT at ht
  rw [T.bind_assoc] at ht
  refine h.run ok0 sl (C := fun d g' => ∃ k, d = .bool k ∧ PD X.K q Hb H Q (.bool (!k)) g') (T.ok_bind.mpr (T.ok_mono (T.ok_bind.mp ht) fun b g' h => ⟨b, rfl, h⟩)) fun d g1 v Hb1 H1 ⟨k, e1, c1⟩ s1 ok1 sl1 d1 => ?_
  subst e1
  cases d1
  exact ⟨k, rfl, c1 _ Hb1 H1 s1 ok1 (.bl _)⟩
theorem dx_ifExp {c x y : Expr} {tc : T Bool} {tx ty : T D} (hc : DT X q ρ c tc) (hx : DX X q ρ x tx) (hy : DX X q ρ y ty) : DX X q ρ (.IfExp c x y pos) (tc.bind fun k => if k then tx else ty) := fun σ Hb H g Q ok0 sl ht => by
  refine ⟨_, fun z => pe_ifExp pt_w pe_w pe_w, ?_⟩
  refine hc.run ok0 sl (T.ok_bind.mp ht) fun k g1 Hb1 H1 c1 s1 ok1 sl1 => ?_
  cases k with
  | true =>
    refine iteT (hx σ Hb1 H1 g1 Q ok1 sl1 (T.ok_mono c1 fun d g' h => pd_after ok1 s1 h))
  | false =>
    refine iteF (hy σ Hb1 H1 g1 Q ok1 sl1 (T.ok_mono c1 fun d g' h => pd_after ok1 s1 h))
end
end
end DD
end T_DB

section T_DC
set_option Elab.async false
set_option linter.all false
set_option maxRecDepth 100000
set_option maxHeartbeats 1000000
set_option autoImplicit false
namespace DD
open PySem PySem.Spec L2
open PyProof.Rows hiding St

/-! ### operators on data -/
def addD : D → D → T D
  | .int i, .int j => .ret (.int (i + j))
  | .str s, .str t => .chk (s.length + t.length) (.ret (.str (s ++ t)))
  | .tuple xs, .tuple ys => .chk (xs.length + ys.length) (.ret (.tuple (xs ++ ys)))
  | _, _ => .fail
def catD : D → D → T (List D)
  | .list xs, .list ys => .chk (xs.length + ys.length) (.ret (xs ++ ys))
  | _, _ => .fail
def subD : D → D → T D
  | .int i, .int j => .ret (.int (i - j))
  | _, _ => .fail
def small64 (i : Int) : Bool := decide (-18446744073709551616 < i) && decide (i < 18446744073709551616)
/-- factors that can be multiplied -/
def mulOk (i j : Int) : Bool := small64 i || small64 j || decide ((Builtin.Int.intBits i : Int) + (Builtin.Int.intBits j : Int) ≤ 134217728)
def mulD : D → D → T D
  | .int i, .int j => .need (mulOk i j) (.ret (.int (i * j)))
  | _, _ => .fail
def powD : D → D → T D
  | .int i, .int j => .need (small64 i && decide (0 ≤ j) && decide (j ≤ 1000)) (.ret (.int (i ^ j.toNat)))
  | _, _ => .fail
def divD : D → D → T D
  | .int i, .int j => .need (decide (0 < j) && decide (j < 1073741824)) (.ret (.int (i / j)))
  | _, _ => .fail
def modD : D → D → T D
  | .int i, .int j => .need (decide (0 < j)) (.ret (.int (i % j)))
  | _, _ => .fail
def ltD : D → D → T Bool
  | .int i, .int j => .ret (decide (i < j))
  | _, _ => .fail
def leD : D → D → T Bool
  | .int i, .int j => .ret (decide (i ≤ j))
  | _, _ => .fail
def gtD : D → D → T Bool
  | .int i, .int j => .ret (decide (j < i))
  | _, _ => .fail
def geD : D → D → T Bool
  | .int i, .int j => .ret (decide (j ≤ i))
  | _, _ => .fail
def eqD (x y : D) : T Bool := .need (SeqAt.shaped x && SeqAt.shaped y) (.ret (PyData.eqv x y))
def neD (x y : D) : T Bool := .need (SeqAt.shaped x && SeqAt.shaped y) (.ret (!PyData.eqv x y))
def anyD (ds : List D) (x : D) : Bool := ds.any fun z => PyData.eqv z x
def inD : D → D → T Bool
  | x, .list ds => .need (SeqAt.shaped x && SeqAt.shaped (.list ds)) (.ret (anyD ds x))
  | x, .tuple ds => .need (SeqAt.shaped x && SeqAt.shaped (.tuple ds)) (.ret (anyD ds x))
  | .str c, .str z => match c.cps.toList with
    | [n] => .ret (decide (n ∈ z.cps.toList))
    | _ => .fail
  | _, _ => .fail
theorem inD_list (x : D) (ds : List D) : inD x (.list ds) = .need (SeqAt.shaped x && SeqAt.shaped (.list ds)) (.ret (anyD ds x)) := by cases x <;> rfl
theorem inD_tup (x : D) (ds : List D) : inD x (.tuple ds) = .need (SeqAt.shaped x && SeqAt.shaped (.tuple ds)) (.ret (anyD ds x)) := by cases x <;> rfl
def ninD (x y : D) : T Bool := (inD x y).bind fun b => .ret (!b)
def isNon : D → Bool
  | .none => true
  | _ => false
def isD : D → D → T Bool
  | x, .none => .ret (isNon x)
  | .bool a, .bool b => .ret (a == b)
  | _, _ => .fail
def nisD (x y : D) : T Bool := (isD x y).bind fun b => .ret (!b)
def negD : D → T D
  | .int i => .ret (.int (-i))
  | _ => .fail

section
variable {X : Ctx} {q : Option Addr}
theorem do_sub : DO X q (binaryOp .Sub) subD := fun x y dx dy Hb H g Q ok0 h1 h2 ht => by
  cases h1 <;> cases h2 <;> first
    | exact ht.elim
    | exact ⟨_, fun z => op_sub, _, _, rfl, rfl, ht _ Hb H .refl ok0 (.int _)⟩
theorem do_add : DO X q (binaryOp .Add) addD := fun x y dx dy Hb H g Q ok0 h1 h2 ht => by
  cases h1 with
  | int i =>
    cases h2 with
    | int j => exact ⟨_, fun z => op_add, _, _, rfl, rfl, ht _ Hb H .refl ok0 (.int _)⟩
    | _ => exact ht.elim
  | str i =>
    cases h2 with
    | str j =>
      obtain ⟨hz, ht⟩ := T.ok_chk ht
      exact ⟨_, fun z => op_add_str, _, _, rfl, rfl, ok_line hz, ht _ Hb H .refl ok0 (.str _)⟩
    | _ => exact ht.elim
  | tup e1 a1 =>
    cases h2 with
    | tup e2 a2 =>
      rename_i t1 vs1 ds1 t2 vs2 ds2
      obtain ⟨hz, ht⟩ := T.ok_chk ht
      refine ⟨rCatA X.K, fun z => op_catA, _, _, _, _, rfl, rfl, sqT_mono ok0.sub e1, sqT_mono ok0.sub e2, by rw [DnAll.len a1, DnAll.len a2]; exact ok_line hz, fun z => ?_, fun _ z => ?_, fun _ _ p hp => ?_⟩
      · subst z; cases a1
        exact ht _ Hb H .refl ok0 (.tup e2 a2)
      · subst z; cases a2
        rw [List.append_nil] at ht
        exact ht _ Hb H .refl ok0 (.tup e1 a1)
      · have m := same_upd (o := .tup (vs1 ++ vs2)) (ok0.sub.free hp)
        exact ht _ _ _ (.new ok0 hp) (ok0.new hp) (.tup (SqT.of upd_same) (DnAll.app (dnAll_mono m _ _ a1) (dnAll_mono m _ _ a2)))
    | _ => exact ht.elim
  | _ => exact ht.elim
theorem small_ok {i : Int} (h : small64 i = true) : -(2 ^ 64) < i ∧ i < 2 ^ 64 := by
  unfold small64 at h
  rw [Bool.and_eq_true, decide_eq_true_eq, decide_eq_true_eq] at h
  exact ⟨by have := h.1; omega, by have := h.2; omega⟩
theorem do_mul : DO X q (binaryOp .Mult) mulD := fun x y dx dy Hb H g Q ok0 h1 h2 ht => by
  cases h1 <;> cases h2 <;> first
    | exact ht.elim
    | (obtain ⟨hz, ht⟩ := T.ok_need ht
       unfold mulOk at hz
       rw [Bool.or_eq_true, Bool.or_eq_true, decide_eq_true_eq] at hz
       rcases hz with hz | hz
       · exact ⟨_, fun z => op_mul, _, _, rfl, rfl, hz.imp small_ok small_ok, ht _ Hb H .refl ok0 (.int _)⟩
       · exact ⟨_, fun z => op_mulX, _, _, rfl, rfl, hz, ht _ Hb H .refl ok0 (.int _)⟩)
theorem do_pow : DO X q (binaryOp .Pow) powD := fun x y dx dy Hb H g Q ok0 h1 h2 ht => by
  cases h1 <;> cases h2 <;> first
    | exact ht.elim
    | (obtain ⟨hz, ht⟩ := T.ok_need ht
       rw [Bool.and_eq_true, Bool.and_eq_true, decide_eq_true_eq, decide_eq_true_eq] at hz
       have hs := small_ok hz.1.1
       exact ⟨_, fun z => op_pow, _, _, rfl, rfl, ⟨hz.1.2, by have := hz.2; omega, by omega⟩, ht _ Hb H .refl ok0 (.int _)⟩)
theorem do_div : DO X q (binaryOp .FloorDiv) divD := fun x y dx dy Hb H g Q ok0 h1 h2 ht => by
  cases h1 <;> cases h2 <;> first
    | exact ht.elim
    | (obtain ⟨hz, ht⟩ := T.ok_need ht
       rw [Bool.and_eq_true, decide_eq_true_eq, decide_eq_true_eq] at hz
       exact ⟨_, fun z => op_fdiv, _, _, rfl, rfl, hz, ht _ Hb H .refl ok0 (.int _)⟩)
theorem do_mod : DO X q (binaryOp .Mod) modD := fun x y dx dy Hb H g Q ok0 h1 h2 ht => by
  cases h1 <;> cases h2 <;> first
    | exact ht.elim
    | (obtain ⟨hz, ht⟩ := T.ok_need ht
       rw [decide_eq_true_eq] at hz
       exact ⟨_, fun z => op_mod, _, _, rfl, rfl, hz, ht _ Hb H .refl ok0 (.int _)⟩)
theorem do_lt : DOB X q (compareOp .Lt) ltD := fun x y dx dy Hb H g Q ok0 h1 h2 ht => by
  cases h1 <;> cases h2 <;> first
    | exact ht.elim
    | exact ⟨_, fun z => op_lt, _, _, rfl, rfl, ht _ Hb H .refl ok0 (.bl _)⟩
theorem do_le : DOB X q (compareOp .LtE) leD := fun x y dx dy Hb H g Q ok0 h1 h2 ht => by
  cases h1 <;> cases h2 <;> first
    | exact ht.elim
    | exact ⟨_, fun z => op_le, _, _, rfl, rfl, ht _ Hb H .refl ok0 (.bl _)⟩
theorem do_gt : DOB X q (compareOp .Gt) gtD := fun x y dx dy Hb H g Q ok0 h1 h2 ht => by
  cases h1 <;> cases h2 <;> first
    | exact ht.elim
    | exact ⟨_, fun z => op_gt, _, _, rfl, rfl, ht _ Hb H .refl ok0 (.bl _)⟩
theorem do_ge : DOB X q (compareOp .GtE) geD := fun x y dx dy Hb H g Q ok0 h1 h2 ht => by
  cases h1 <;> cases h2 <;> first
    | exact ht.elim
    | exact ⟨_, fun z => op_ge, _, _, rfl, rfl, ht _ Hb H .refl ok0 (.bl _)⟩
theorem do_eq (hu : X.A.units + 64 < cLine) : DOB X q (compareOp .Eq) eqD := fun x y dx dy Hb H g Q ok0 h1 h2 ht => by
  obtain ⟨hz, ht⟩ := T.ok_need (T.ok_bind.mp ht)
  rw [Bool.and_eq_true] at hz
  exact ⟨rEqD X.K, fun z => op_eqD hu, _, _, Dn.dp _ _ (dn_mono ok0.sub _ _ h1), Dn.dp _ _ (dn_mono ok0.sub _ _ h2), hz.1, hz.2, ht _ Hb H .refl ok0 (.bl _)⟩
theorem do_ne (hu : X.A.units + 64 < cLine) : DOB X q (compareOp .NotEq) neD := fun x y dx dy Hb H g Q ok0 h1 h2 ht => by
  obtain ⟨hz, ht⟩ := T.ok_need (T.ok_bind.mp ht)
  rw [Bool.and_eq_true] at hz
  exact ⟨rNeD X.K, fun z => op_neD hu, _, _, Dn.dp _ _ (dn_mono ok0.sub _ _ h1), Dn.dp _ _ (dn_mono ok0.sub _ _ h2), hz.1, hz.2, ht _ Hb H .refl ok0 (.bl _)⟩
/-- x in a tuple, of data -/
def rInDT (K : PySem.W.Frag) (neg : Bool) : R2 := fun x y H Q => ∃ d ds, Dp K H x d ∧ Dp K H y (.tuple ds) ∧ SeqAt.shaped d = true ∧ SeqAt.shaped (.tuple ds) = true ∧ Q (.bl (if neg then !anyD ds d else anyD ds d)) H
theorem op_inDT {X : Cx} (hu : X.A.units + 65 < cLine) : OpR X (compareOp .In) (rInDT X.K false) := by
  intro pins s σ H x y v u Q I rx ry h
  obtain ⟨d, ds, hd, he, sd, se, k⟩ := h
  obtain ⟨as, r1⟩ := Dp.reads I d x v hd rx
  obtain ⟨bs, r2⟩ := Dp.reads I (.tuple ds) y u he ry
  exact SeqAt.in_tuple_reads r2 r1 (SeqAt.canLay_of_shaped se) (SeqAt.canLay_of_shaped sd) (room_in_shaped sd hu) ⟨.bl _, H, I, rfl, k⟩
theorem op_ninDT {X : Cx} (hu : X.A.units + 65 < cLine) : OpR X (compareOp .NotIn) (rInDT X.K true) := by
  intro pins s σ H x y v u Q I rx ry h
  obtain ⟨d, ds, hd, he, sd, se, k⟩ := h
  obtain ⟨as, r1⟩ := Dp.reads I d x v hd rx
  obtain ⟨bs, r2⟩ := Dp.reads I (.tuple ds) y u he ry
  exact SeqAt.notIn_tuple_reads r2 r1 (SeqAt.canLay_of_shaped se) (SeqAt.canLay_of_shaped sd) (room_in_shaped sd hu) ⟨.bl _, H, I, rfl, k⟩
theorem str_one {c : Str} {n : Nat} (h : c.cps.toList = [n]) : c = ⟨#[n]⟩ := by
  obtain ⟨a⟩ := c
  have e : a = #[n] := by
    have := congrArg List.toArray h
    simpa using this
  rw [e]
theorem do_in (hu : X.A.units + 65 < cLine) : DOB X q (compareOp .In) inD := fun x y dx dy Hb H g Q ok0 h1 h2 ht => by
  have h1' := dn_mono ok0.sub _ _ h1
  have h2' := dn_mono ok0.sub _ _ h2
  dsimp only at ht
  cases h2 with
  | lst e2 a2 =>
    rw [inD_list] at ht
    obtain ⟨hz, ht⟩ := T.ok_need (T.ok_bind.mp ht)
    rw [Bool.and_eq_true] at hz
    exact ⟨rInD X.K, fun z => op_inD hu, _, _, Dn.dp _ _ h1', Dn.dp _ _ h2', hz.1, hz.2, ht _ Hb H .refl ok0 (.bl _)⟩
  | tup e2 a2 =>
    rw [inD_tup] at ht
    obtain ⟨hz, ht⟩ := T.ok_need (T.ok_bind.mp ht)
    rw [Bool.and_eq_true] at hz
    exact ⟨rInDT X.K false, fun z => op_inDT hu, _, _, Dn.dp _ _ h1', Dn.dp _ _ h2', hz.1, hz.2, ht _ Hb H .refl ok0 (.bl _)⟩
  | str z =>
    cases h1 with
    | str c =>
      have ht : ((match c.cps.toList with
        | [n] => T.ret (decide (n ∈ z.cps.toList))
        | _ => T.fail).bind fun b => T.ret (PyData.bool b)).ok g (PD X.K q Hb H Q) := ht
      split at ht
      · rename_i n e
        exact ⟨_, fun z => op_in_sign, n, z, by rw [str_one e], rfl, ht _ Hb H .refl ok0 (.bl _)⟩
      · exact ht.elim
    | _ => exact ht.elim
  | _ => cases h1 <;> exact ht.elim
theorem do_nin (hu : X.A.units + 65 < cLine) : DOB X q (compareOp .NotIn) ninD := fun x y dx dy Hb H g Q ok0 h1 h2 ht => by
  have h1' := dn_mono ok0.sub _ _ h1
  have h2' := dn_mono ok0.sub _ _ h2
  dsimp only at ht
  unfold ninD at ht
  rw [T.bind_assoc] at ht
  cases h2 with
  | lst e2 a2 =>
    rw [inD_list] at ht
    obtain ⟨hz, ht⟩ := T.ok_need (T.ok_bind.mp ht)
    rw [Bool.and_eq_true] at hz
    exact ⟨rNotInD X.K, fun z => op_notInD hu, _, _, Dn.dp _ _ h1', Dn.dp _ _ h2', hz.1, hz.2, ht _ Hb H .refl ok0 (.bl _)⟩
  | tup e2 a2 =>
    rw [inD_tup] at ht
    obtain ⟨hz, ht⟩ := T.ok_need (T.ok_bind.mp ht)
    rw [Bool.and_eq_true] at hz
    exact ⟨rInDT X.K true, fun z => op_ninDT hu, _, _, Dn.dp _ _ h1', Dn.dp _ _ h2', hz.1, hz.2, ht _ Hb H .refl ok0 (.bl _)⟩
  | str z =>
    cases h1 with
    | str c =>
      have ht : ((match c.cps.toList with
        | [n] => T.ret (decide (n ∈ z.cps.toList))
        | _ => T.fail).bind fun b => T.ret (PyData.bool !b)).ok g (PD X.K q Hb H Q) := ht
      split at ht
      · rename_i n e
        exact ⟨_, fun z => op_notIn_sign, n, z, by rw [str_one e], rfl, ht _ Hb H .refl ok0 (.bl _)⟩
      · exact ht.elim
    | _ => exact ht.elim
  | _ => cases h1 <;> exact ht.elim
theorem isNon_dn {K : PySem.W.Frag} {H : Hp} {v : V} {d : D} (h : Dn K H v d) : decide (v = .non) = isNon d := by cases h <;> rfl
theorem do_is : DOB X q (compareOp .Is) isD := fun x y dx dy Hb H g Q ok0 h1 h2 ht => by
  cases h2 with
  | non =>
    have ht : ((T.ret (isNon dx)).bind fun b => T.ret (PyData.bool b)).ok g (PD X.K q Hb H Q) := by cases h1 <;> exact ht
    exact ⟨_, fun z => op_isN, rfl, by rw [isNon_dn h1]; exact ht _ Hb H .refl ok0 (.bl _)⟩
  | bl b =>
    cases h1 with
    | bl a =>
      refine ⟨_, fun z => op_isBl, a, b, rfl, rfl, ?_⟩
      have e : decide (a = b) = (a == b) := by cases a <;> cases b <;> rfl
      rw [e]
      exact ht _ Hb H .refl ok0 (.bl _)
    | _ => exact ht.elim
  | _ => cases h1 <;> exact ht.elim
theorem do_nis : DOB X q (compareOp .IsNot) nisD := fun x y dx dy Hb H g Q ok0 h1 h2 ht => by
  dsimp only at ht
  unfold nisD at ht
  rw [T.bind_assoc] at ht
  cases h2 with
  | non =>
    have ht : ((T.ret (isNon dx)).bind fun b => T.ret (PyData.bool !b)).ok g (PD X.K q Hb H Q) := by cases h1 <;> exact ht
    exact ⟨_, fun z => op_notN, rfl, by rw [isNon_dn h1]; exact ht _ Hb H .refl ok0 (.bl _)⟩
  | bl b =>
    cases h1 with
    | bl a =>
      refine ⟨_, fun z => op_notBl, a, b, rfl, rfl, ?_⟩
      have e : (!decide (a = b)) = (!(a == b)) := by cases a <;> cases b <;> rfl
      rw [e]
      exact ht _ Hb H .refl ok0 (.bl _)
    | _ => exact ht.elim
  | _ => cases h1 <;> exact ht.elim
variable {ρ : List Sl} {pos : Pos}
theorem dx_neg {a : Expr} {ta : T D} (h : DX X q ρ a ta) : DX X q ρ (.UnaryOp .USub a pos) (ta.bind negD) := fun σ Hb H g Q ok0 sl ht => by
  refine ⟨_, fun z => pe_un un_neg pe_w, ?_⟩
  refine h.run ok0 sl (T.ok_bind.mp ht) fun d g1 v Hb1 H1 c1 s1 ok1 sl1 d1 => ?_
  cases d1 <;> first
    | exact c1.elim
    | exact ⟨_, rfl, c1 _ Hb1 H1 s1 ok1 (.int _)⟩
/-- xs + ys: a new list -/
theorem df_cat {a b : Expr} {ta tb : T D} (ha : DX X q ρ a ta) (hb : DX X q ρ b tb) : DF X q ρ (.BinOp a .Add b pos) (ta.bind fun x => tb.bind fun y => catD x y) := fun σ Hb H g Q ok0 sl ht => by
  refine ⟨_, fun z => pe_op op_cat pe_w pe_w, ?_⟩
  refine ha.run ok0 sl (T.ok_bind.mp ht) fun d g1 v Hb1 H1 c1 s1 ok1 sl1 d1 => ?_
  refine hb.run ok1 sl1 (T.ok_bind.mp c1) fun d' g2 v' Hb2 H2 c2 s2 ok2 sl2 d2 => ?_
  have d1 := dn_mono s2.ext _ _ d1
  cases d1 with
  | lst e1 a1 =>
    cases d2 with
    | lst e2 a2 =>
      obtain ⟨hz, c2⟩ := T.ok_chk c2
      have s12 := s1.trans ok1 s2
      refine ⟨_, _, _, _, rfl, rfl, ok2.sub _ _ e1, ok2.sub _ _ e2, by rw [DnAll.len a1, DnAll.len a2]; exact ok_line hz, fun p hp => ?_⟩
      exact c2 p _ Hb2 _ (s12.trans ok2 (.own hp)) (ok2.own hp) (ok2.sub.free hp) (step_free ok0 s12 (free_nq ok2 hp) hp) upd_same (DnAll.app a1 a2)
    | _ => exact c2.elim
  | _ => exact c2.elim
/-- xs * k: a new list -/
def repD : D → D → T (List D)
  | .list xs, .int k => .need (decide (-(2 ^ 63) ≤ k) && decide (k < 2 ^ 63)) (.chk (xs.length * k.toNat) (.ret (List.replicate k.toNat xs).flatten))
  | _, _ => .fail
theorem DnAll.flat {K : PySem.W.Frag} {H : Hp} {vs : List V} {ds : List D} (h : DnAll K H vs ds) : ∀ n : Nat, DnAll K H (List.replicate n vs).flatten (List.replicate n ds).flatten
  | 0 => .nil
  | n + 1 => by
    rw [List.replicate_succ, List.replicate_succ, List.flatten_cons, List.flatten_cons]
    exact DnAll.app h (DnAll.flat h n)
theorem df_rep {a b : Expr} {ta tb : T D} (ha : DX X q ρ a ta) (hb : DX X q ρ b tb) : DF X q ρ (.BinOp a .Mult b pos) (ta.bind fun x => tb.bind fun y => repD x y) := fun σ Hb H g Q ok0 sl ht => by
  refine ⟨_, fun z => pe_op op_rep pe_w pe_w, ?_⟩
  refine ha.run ok0 sl (T.ok_bind.mp ht) fun d g1 v Hb1 H1 c1 s1 ok1 sl1 d1 => ?_
  refine hb.run ok1 sl1 (T.ok_bind.mp c1) fun d' g2 v' Hb2 H2 c2 s2 ok2 sl2 d2 => ?_
  have d1 := dn_mono s2.ext _ _ d1
  cases d1 with
  | lst e1 a1 =>
    cases d2 with
    | int k =>
      obtain ⟨hk, c2⟩ := T.ok_need c2
      obtain ⟨hz, c2⟩ := T.ok_chk c2
      rw [Bool.and_eq_true, decide_eq_true_eq, decide_eq_true_eq] at hk
      have s12 := s1.trans ok1 s2
      refine ⟨_, _, _, rfl, rfl, ok2.sub _ _ e1, hk.1, hk.2, by rw [DnAll.len a1]; exact ok_line hz, fun p hp => ?_⟩
      exact c2 p _ Hb2 _ (s12.trans ok2 (.own hp)) (ok2.own hp) (ok2.sub.free hp) (step_free ok0 s12 (free_nq ok2 hp) hp) upd_same (DnAll.flat a1 _)
    | _ => exact c2.elim
  | _ => exact c2.elim

/-! ### items, slices -/
def ixD : D → D → T D
  | .list ds, .int i => match atI ds i with | some d => .ret d | none => .fail
  | .tuple ds, .int i => match atI ds i with | some d => .ret d | none => .fail
  | .str z, .int i => match atI z.cps.toList i with | some c => .chk z.length (.ret (.str ⟨#[c]⟩)) | none => .fail
  | _, _ => .fail
theorem DnAll.at {K : PySem.W.Frag} {H : Hp} {vs : List V} {ds : List D} {i : Int} {d : D} (h : DnAll K H vs ds) (e : atI ds i = some d) : ∃ v, atI vs i = some v ∧ Dn K H v d := by
  unfold atI at e ⊢
  rw [DnAll.len h]
  cases q : ixN ds.length i with
  | none => rw [q] at e; cases e
  | some j =>
    rw [q] at e
    obtain ⟨v, h1, h2⟩ := DnAll.get h (show ds[j]? = some d from e)
    exact ⟨v, h1, h2⟩
theorem dx_ix {a b : Expr} {ta tb : T D} (ha : DX X q ρ a ta) (hb : DX X q ρ b tb) (hs : PlainIx b := by exact fun _ _ => rfl) : DX X q ρ (.Subscript a b pos) (ta.bind fun x => tb.bind fun y => ixD x y) := fun σ Hb H g Q ok0 sl ht => by
  refine ⟨tOp (rIx X.K) (wE X a) (wE X b), fun z => pe_ix ix_seq pe_w pe_w hs, ?_⟩
  refine ha.run ok0 sl (T.ok_bind.mp ht) fun d g1 v Hb1 H1 c1 s1 ok1 sl1 d1 => ?_
  refine hb.run ok1 sl1 (T.ok_bind.mp c1) fun d' g2 v' Hb2 H2 c2 s2 ok2 sl2 d2 => ?_
  have d1 := dn_mono s2.ext _ _ d1
  have s12 := s1.trans ok1 s2
  cases d1 with
  | lst e1 a1 =>
    cases d2 with
    | int k =>
      simp only [ixD] at c2
      split at c2
      · rename_i dd e
        obtain ⟨w, h1, h2⟩ := DnAll.at a1 e
        exact .inl ⟨_, _, _, w, rfl, rfl, SqL.of (ok2.sub _ _ e1), h1, c2 w Hb2 H2 s12 ok2 h2⟩
      · exact c2.elim
    | _ => exact c2.elim
  | tup e1 a1 =>
    cases d2 with
    | int k =>
      simp only [ixD] at c2
      split at c2
      · rename_i dd e
        obtain ⟨w, h1, h2⟩ := DnAll.at a1 e
        exact .inr (.inl ⟨_, _, _, w, rfl, rfl, sqT_mono ok2.sub e1, h1, c2 w Hb2 H2 s12 ok2 h2⟩)
      · exact c2.elim
    | _ => exact c2.elim
  | str z =>
    cases d2 with
    | int k =>
      simp only [ixD] at c2
      split at c2
      · rename_i cc e
        obtain ⟨hz, c2⟩ := T.ok_chk c2
        exact .inr (.inr ⟨_, _, cc, rfl, rfl, ok_line hz, e, c2 _ Hb2 H2 s12 ok2 (.str _)⟩)
      · exact c2.elim
    | _ => exact c2.elim
  | _ => exact c2.elim
def wPO (X : Ctx) (e : Option Expr) : TO := fun σ H Q => ∃ u : TO, (∀ z, PO (X.at z) e u) ∧ u σ H Q
theorem po_w {X : Ctx} {z : Rst X} {e : Option Expr} : PO (X.at z) e (wPO X e) := ⟨fun pins s σ H Q I ⟨_, h, k⟩ => (h z).run pins s σ H Q I k⟩
/-- a part of a slice -/
def DP (X : Ctx) (q : Option Addr) (ρ : List Sl) (e : Option Expr) (t : T (Option Int)) : Prop :=
  ∀ σ Hb H g (Q : Option Int → Hp → Prop), Ok X.K q Hb H g → Sls X.K q Hb H ρ σ → t.ok g (fun o g' => ∀ Hb' H', Step q Hb H Hb' H' → Ok X.K q Hb' H' g' → Q o H') → wPO X e σ H Q
theorem dp_none : DP X q ρ none (.ret none) := fun σ Hb H g Q ok0 sl ht => ⟨_, fun z => po_none, ht Hb H .refl ok0⟩
def partD : D → T (Option Int)
  | .int i => .ret (some i)
  | _ => .fail
theorem dp_some {e : Expr} {t : T D} (h : DX X q ρ e t) : DP X q ρ (some e) (t.bind partD) := fun σ Hb H g Q ok0 sl ht => by
  refine ⟨_, fun z => po_some pe_w, ?_⟩
  refine h.run ok0 sl (T.ok_bind.mp ht) fun d g1 v Hb1 H1 c1 s1 ok1 sl1 d1 => ?_
  cases d1 <;> first
    | exact c1.elim
    | exact ⟨_, rfl, c1 Hb1 H1 s1 ok1⟩
def cutD {α : Type} (xs : List α) (lo hi : Option Int) : List α := (xs.drop (HT.sIx xs.length 0 lo)).take (HT.sIx xs.length xs.length hi - HT.sIx xs.length 0 lo)
theorem DnAll.cut {K : PySem.W.Frag} {H : Hp} {vs : List V} {ds : List D} (h : DnAll K H vs ds) (lo hi : Option Int) : DnAll K H (cutV vs lo hi) (cutD ds lo hi) := by
  unfold cutV cutD
  rw [DnAll.len h]
  exact DnAll.take _ (DnAll.drop _ h)
def slD : D → Option Int → Option Int → T D
  | .tuple ds, lo, hi => .ret (.tuple (cutD ds lo hi))
  | _, _, _ => .fail
def slLD : D → Option Int → Option Int → T (List D)
  | .list ds, lo, hi => .ret (cutD ds lo hi)
  | _, _, _ => .fail
variable {e : Expr} {lo hi : Option Expr} {p2 : Pos} {te : T D} {tl th : T (Option Int)}
theorem cut_whole {α : Type} {xs : List α} {lo hi : Option Int} (h : HT.sIx xs.length 0 lo = 0 ∧ HT.sIx xs.length xs.length hi = xs.length) : cutD xs lo hi = xs := by
  unfold cutD
  rw [h.1, h.2, List.drop_zero, Nat.sub_zero, List.take_length]
/-- t[lo:hi] of a tuple -/
theorem dx_sl (he : DX X q ρ e te) (hl : DP X q ρ lo tl) (hh : DP X q ρ hi th) : DX X q ρ (.Subscript e (.Slice lo hi none p2) pos) (te.bind fun x => tl.bind fun l => th.bind fun u => slD x l u) := fun σ Hb H g Q ok0 sl ht => by
  refine ⟨tSl (rSlA X.K) (wE X e) (wPO X lo) (wPO X hi), fun z => pe_slice sl_tupA pe_w po_w po_w, ?_⟩
  refine he.run ok0 sl (T.ok_bind.mp ht) fun d g1 v Hb1 H1 c1 s1 ok1 sl1 d1 => ?_
  refine hl σ Hb1 H1 g1 _ ok1 sl1 (T.ok_mono (T.ok_bind.mp c1) fun l g2 c2 Hb2 H2 s2 ok2 => ?_)
  refine hh σ Hb2 H2 g2 _ ok2 (sl1.step s2) (T.ok_mono (T.ok_bind.mp c2) fun u g3 c3 Hb3 H3 s3 ok3 => ?_)
  have d1 := dn_mono (s2.ext.trans s3.ext) _ _ d1
  have s13 := (s1.trans ok1 s2).trans ok2 s3
  cases d1 with
  | tup e1 a1 =>
    refine ⟨_, _, rfl, sqT_mono ok3.sub e1, fun hw => ?_, fun hw p hp => ?_⟩
    · rw [DnAll.len a1] at hw
      have c3 := c3
      simp only [slD, cut_whole hw] at c3
      exact c3 _ Hb3 H3 s13 ok3 (.tup e1 a1)
    · exact c3 _ _ _ (s13.trans ok3 (.new ok3 hp)) (ok3.new hp) (.tup (SqT.of upd_same) (dnAll_mono (same_upd (ok3.sub.free hp)) _ _ (DnAll.cut a1 _ _)))
  | _ => exact c3.elim
/-- xs[lo:hi] of a list: a new list -/
theorem df_sl (he : DX X q ρ e te) (hl : DP X q ρ lo tl) (hh : DP X q ρ hi th) : DF X q ρ (.Subscript e (.Slice lo hi none p2) pos) (te.bind fun x => tl.bind fun l => th.bind fun u => slLD x l u) := fun σ Hb H g Q ok0 sl ht => by
  refine ⟨tSl (rSlL X.K) (wE X e) (wPO X lo) (wPO X hi), fun z => pe_slice sl_list pe_w po_w po_w, ?_⟩
  refine he.run ok0 sl (T.ok_bind.mp ht) fun d g1 v Hb1 H1 c1 s1 ok1 sl1 d1 => ?_
  refine hl σ Hb1 H1 g1 _ ok1 sl1 (T.ok_mono (T.ok_bind.mp c1) fun l g2 c2 Hb2 H2 s2 ok2 => ?_)
  refine hh σ Hb2 H2 g2 _ ok2 (sl1.step s2) (T.ok_mono (T.ok_bind.mp c2) fun u g3 c3 Hb3 H3 s3 ok3 => ?_)
  have d1 := dn_mono (s2.ext.trans s3.ext) _ _ d1
  have s13 := (s1.trans ok1 s2).trans ok2 s3
  cases d1 with
  | lst e1 a1 =>
    refine ⟨_, _, rfl, SqL.of (ok3.sub _ _ e1), fun p hp => ?_⟩
    exact c3 p _ Hb3 _ (s13.trans ok3 (.own hp)) (ok3.own hp) (ok3.sub.free hp) (step_free ok0 s13 (free_nq ok3 hp) hp) upd_same (DnAll.cut a1 _ _)
  | _ => exact c3.elim
end
end DD
end T_DC

section T_DE
set_option Elab.async false
set_option linter.all false
set_option maxRecDepth 100000
set_option maxHeartbeats 1000000
set_option autoImplicit false
namespace DD
open PySem PySem.Spec L2
open PyProof.Rows hiding St

/-! ### calls of built-ins -/
section
variable {X : Ctx} {q : Option Addr} {ρ : List Sl} {pos p : Pos} {x : Str} {e e1 e2 : Expr} {es : List Expr}
/-- f(e, ..), f a built-in function, by what it makes of data -/
theorem dx_callB {id : String} {m : List D → T D} {ts : T (List D)} (hc : DC X q (.builtin id) m) (hg : Gb X x) (hm : X.mg x = none) (hv : bootBuiltins x = some (.builtin id)) (ha : DA X q ρ (e :: es) ts) (hn : x ≠ "__name__" := by decide) (hdb : (x == ("__debug__" : Str)) = false := by decide)
    (he : ∀ env : Env, starEach (e :: es) env = (false, eval e env) :: starEach es env := by intro _; rfl) (hpl : ∀ env : Env, (backTo pos (starEach es env)).any (·.1) = false := by intro _; rfl) : DX X q ρ (.Call (.Name x p) (e :: es) [] pos) (ts.bind m) := fun σ Hb H g Q ok0 sl ht => by
  refine ⟨_, fun z => pe_callB cr_w (hg.gl z) hm hv pa_w hn hdb (he _) (hpl _), ?_⟩
  refine ha.run ok0 sl (T.ok_bind.mp ht) fun ds g1 vs Hb1 H1 c1 s1 ok1 sl1 d1 => ?_
  exact hc _ _ Hb1 H1 g1 _ ok1 d1 (T.ok_mono c1 fun d g' h => pd_after ok1 s1 h)
theorem dx_callTy {n : String} {m : List D → T D} {ts : T (List D)} (hc : DC X q (.type n) m) (hg : Gb X x) (hm : X.mg x = none) (hv : bootBuiltins x = some (.type n)) (ha : DA X q ρ (e :: es) ts) (hn : x ≠ "__name__" := by decide) (hdb : (x == ("__debug__" : Str)) = false := by decide)
    (he : ∀ env : Env, starEach (e :: es) env = (false, eval e env) :: starEach es env := by intro _; rfl) (hpl : ∀ env : Env, (backTo pos (starEach es env)).any (·.1) = false := by intro _; rfl) : DX X q ρ (.Call (.Name x p) (e :: es) [] pos) (ts.bind m) := fun σ Hb H g Q ok0 sl ht => by
  refine ⟨_, fun z => pe_callTy cr_w (hg.gl z) hm hv pa_w hn hdb (he _) (hpl _), ?_⟩
  refine ha.run ok0 sl (T.ok_bind.mp ht) fun ds g1 vs Hb1 H1 c1 s1 ok1 sl1 d1 => ?_
  exact hc _ _ Hb1 H1 g1 _ ok1 d1 (T.ok_mono c1 fun d g' h => pd_after ok1 s1 h)
/-- one argument -/
def arg1 (m : D → T D) : List D → T D
  | [d] => m d
  | _ => .fail
def DC1 (X : Ctx) (q : Option Addr) (f : Value) (m : D → T D) : Prop := DC X q f (arg1 m)
theorem dx_b1 {id : String} {m : D → T D} {t : T D} (hc : DC1 X q (.builtin id) m) (hg : Gb X x) (hm : X.mg x = none) (hv : bootBuiltins x = some (.builtin id)) (h : DX X q ρ e t) (hn : x ≠ "__name__" := by decide) (hdb : (x == ("__debug__" : Str)) = false := by decide)
    (he : ∀ env : Env, starEach [e] env = (false, eval e env) :: starEach [] env := by intro _; rfl) (hpl : ∀ env : Env, (backTo pos (starEach [] env)).any (·.1) = false := by intro _; rfl) : DX X q ρ (.Call (.Name x p) [e] [] pos) (t.bind m) := by
  have k := dx_callB (p := p) (pos := pos) hc hg hm hv (da_cons h da_nil he) hn hdb he hpl
  simp only [T.bind_assoc, T.ret_bind] at k
  exact k
theorem dx_ty1 {n : String} {m : D → T D} {t : T D} (hc : DC1 X q (.type n) m) (hg : Gb X x) (hm : X.mg x = none) (hv : bootBuiltins x = some (.type n)) (h : DX X q ρ e t) (hn : x ≠ "__name__" := by decide) (hdb : (x == ("__debug__" : Str)) = false := by decide)
    (he : ∀ env : Env, starEach [e] env = (false, eval e env) :: starEach [] env := by intro _; rfl) (hpl : ∀ env : Env, (backTo pos (starEach [] env)).any (·.1) = false := by intro _; rfl) : DX X q ρ (.Call (.Name x p) [e] [] pos) (t.bind m) := by
  have k := dx_callTy (p := p) (pos := pos) hc hg hm hv (da_cons h da_nil he) hn hdb he hpl
  simp only [T.bind_assoc, T.ret_bind] at k
  exact k
theorem one_of {K : PySem.W.Frag} {Hb H : Hp} {vs : List V} {ds : List D} {m : D → T D} {g : Nat} {C : D → Nat → Prop} (h : DnAll K Hb vs ds) (ht : (arg1 m ds).ok g C) : ∃ v d, vs = [v] ∧ ds = [d] ∧ Dn K Hb v d ∧ (m d).ok g C := by
  cases h with
  | nil => exact ht.elim
  | cons h1 t =>
    cases t with
    | nil => exact ⟨_, _, rfl, rfl, h1, ht⟩
    | cons _ _ => exact ht.elim
def lenD : D → T D
  | .list ds => .ret (.int ds.length)
  | .tuple ds => .ret (.int ds.length)
  | .str s => .chk s.length (.ret (.int s.length))
  | _ => .fail
theorem dc_len : DC1 X q (.builtin "len") lenD := fun xs ds Hb H g Q ok0 hd ht => by
  obtain ⟨v, d, rfl, rfl, h1, ht⟩ := one_of (H := H) hd ht
  cases h1 with
  | lst e1 a1 => exact ⟨fun xs H Q => ∃ x n, xs = [x] ∧ LenV X.K x H n ∧ Q (.int n) H, fun z => call_len, _, _, rfl, .inl ⟨_, SqL.of (ok0.sub _ _ e1), rfl⟩, by rw [DnAll.len a1]; exact ht _ Hb H .refl ok0 (.int _)⟩
  | tup e1 a1 => exact ⟨fun xs H Q => ∃ x n, xs = [x] ∧ LenV X.K x H n ∧ Q (.int n) H, fun z => call_len, _, _, rfl, .inr ⟨_, sqT_mono ok0.sub e1, rfl⟩, by rw [DnAll.len a1]; exact ht _ Hb H .refl ok0 (.int _)⟩
  | str s =>
    obtain ⟨hz, ht⟩ := T.ok_chk ht
    exact ⟨fun xs H Q => ∃ x n, xs = [x] ∧ LenV X.K x H n ∧ Q (.int n) H, fun z => call_len, _, _, rfl, ⟨ok_line hz, rfl⟩, ht _ Hb H .refl ok0 (.int _)⟩
  | _ => exact ht.elim
def intD : D → T D
  | .int i => .ret (.int i)
  | .bool b => .ret (.int (if b then 1 else 0))
  | _ => .fail
theorem dc_int : DC1 X q (.type "int") intD := fun xs ds Hb H g Q ok0 hd ht => by
  obtain ⟨v, d, rfl, rfl, h1, ht⟩ := one_of (H := H) hd ht
  cases h1 with
  | int i => exact ⟨_, fun z => call_int1, .inl ⟨_, rfl, ht _ Hb H .refl ok0 (.int _)⟩⟩
  | bl b => exact ⟨_, fun z => call_int1, .inr ⟨_, rfl, ht _ Hb H .refl ok0 (.int _)⟩⟩
  | _ => exact ht.elim
def tupleD : D → T D
  | .list ds => .ret (.tuple ds)
  | .tuple ds => .ret (.tuple ds)
  | _ => .fail
theorem dc_tuple : DC1 X q (.type "tuple") tupleD := fun xs ds Hb H g Q ok0 hd ht => by
  obtain ⟨v, d, rfl, rfl, h1, ht⟩ := one_of (H := H) hd ht
  cases h1 with
  | lst e1 a1 =>
    exact ⟨fun xs H Q => ∃ p ys, xs = [.ref p] ∧ ((SqL X.K H p ys ∧ ∀ l, H l = none → Q (.ref l) (upd H l (.tup ys))) ∨ (SqT X.K H p ys ∧ Q (.ref p) H)), fun z => call_tuple_of, _, _, rfl, .inl ⟨SqL.of (ok0.sub _ _ e1), fun p hp => ht _ _ _ (.new ok0 hp) (ok0.new hp) (.tup (SqT.of upd_same) (dnAll_mono (same_upd (ok0.sub.free hp)) _ _ a1))⟩⟩
  | tup e1 a1 => exact ⟨fun xs H Q => ∃ p ys, xs = [.ref p] ∧ ((SqL X.K H p ys ∧ ∀ l, H l = none → Q (.ref l) (upd H l (.tup ys))) ∨ (SqT X.K H p ys ∧ Q (.ref p) H)), fun z => call_tuple_of, _, _, rfl, .inr ⟨sqT_mono ok0.sub e1, ht _ Hb H .refl ok0 (.tup e1 a1)⟩⟩
  | _ => exact ht.elim
/-- what a list of Bools holds -/
def boolsD : List D → Option (List Bool)
  | [] => some []
  | .bool b :: l => (boolsD l).map (b :: ·)
  | _ :: _ => none
theorem boolsD_map (bs : List Bool) : boolsD (bs.map .bool) = some bs := by
  induction bs with
  | nil => rfl
  | cons b bs ih => simp only [List.map_cons, boolsD, ih, Option.map_some]
theorem bools_dn {K : PySem.W.Frag} {H : Hp} : ∀ (ds : List D) {vs : List V} {bs : List Bool}, DnAll K H vs ds → boolsD ds = some bs → vs = bs.map V.bl
  | [], _, bs, h, e => by cases h; cases e; rfl
  | d :: ds, _, bs, h, e => by
    cases h with
    | cons h1 t =>
      cases h1 with
      | bl b =>
        cases z : boolsD ds with
        | none => simp only [boolsD, z] at e; cases e
        | some bs' =>
          simp only [boolsD, z, Option.map_some, Option.some.injEq] at e
          subst e
          rw [List.map_cons, bools_dn ds t z]
      | _ => cases e
def allD : D → T Bool
  | .list ds => match boolsD ds with | some bs => .ret (bs.all id) | none => .fail
  | _ => .fail
def anyB : D → T Bool
  | .list ds => match boolsD ds with | some bs => .ret (bs.any id) | none => .fail
  | _ => .fail
theorem dc_all : DC1 X q (.builtin "all") fun d => bo (allD d) := fun xs ds Hb H g Q ok0 hd ht => by
  obtain ⟨v, d, rfl, rfl, h1, ht⟩ := one_of (H := H) hd ht
  have ht := T.ok_bind.mp ht
  cases h1 with
  | lst e1 a1 =>
    simp only [allD] at ht
    split at ht
    · rename_i bs e
      have := bools_dn _ a1 e
      subst this
      exact ⟨rAll X.K, fun z => cr_all rfl, _, bs, rfl, SqL.of (ok0.sub _ _ e1), ht _ Hb H .refl ok0 (.bl _)⟩
    · exact ht.elim
  | _ => exact ht.elim
theorem dc_any : DC1 X q (.builtin "any") fun d => bo (anyB d) := fun xs ds Hb H g Q ok0 hd ht => by
  obtain ⟨v, d, rfl, rfl, h1, ht⟩ := one_of (H := H) hd ht
  have ht := T.ok_bind.mp ht
  cases h1 with
  | lst e1 a1 =>
    simp only [anyB] at ht
    split at ht
    · rename_i bs e
      have := bools_dn _ a1 e
      subst this
      exact ⟨rAny X.K, fun z => cr_any rfl, _, bs, rfl, SqL.of (ok0.sub _ _ e1), ht _ Hb H .refl ok0 (.bl _)⟩
    · exact ht.elim
  | _ => exact ht.elim
/-- what a list of ints holds -/
def intsD : List D → Option (List Int)
  | [] => some []
  | .int b :: l => (intsD l).map (b :: ·)
  | _ :: _ => none
theorem intsD_map (bs : List Int) : intsD (bs.map .int) = some bs := by
  induction bs with
  | nil => rfl
  | cons b bs ih => simp only [List.map_cons, intsD, ih, Option.map_some]
theorem ints_dn {K : PySem.W.Frag} {H : Hp} : ∀ (ds : List D) {vs : List V} {bs : List Int}, DnAll K H vs ds → intsD ds = some bs → vs = bs.map V.int
  | [], _, bs, h, e => by cases h; cases e; rfl
  | d :: ds, _, bs, h, e => by
    cases h with
    | cons h1 t =>
      cases h1 with
      | int b =>
        cases z : intsD ds with
        | none => simp only [intsD, z] at e; cases e
        | some bs' =>
          simp only [intsD, z, Option.map_some, Option.some.injEq] at e
          subst e
          rw [List.map_cons, ints_dn ds t z]
      | _ => cases e
def sumD : D → T D
  | .list ds => match intsD ds with | some bs => .ret (.int bs.sum) | none => .fail
  | _ => .fail
theorem dc_sum : DC1 X q (.builtin "sum") sumD := fun xs ds Hb H g Q ok0 hd ht => by
  obtain ⟨v, d, rfl, rfl, h1, ht⟩ := one_of (H := H) hd ht
  cases h1 with
  | lst e1 a1 =>
    simp only [sumD] at ht
    split at ht
    · rename_i bs e
      have := ints_dn _ a1 e
      subst this
      exact ⟨rSum X.K, fun z => cr_sum rfl, _, bs, rfl, SqL.of (ok0.sub _ _ e1), ht _ Hb H .refl ok0 (.int _)⟩
    · exact ht.elim
  | _ => exact ht.elim
/-- all(e), any(e) as tests and values -/
theorem dx_all {t : T D} (hg : Gb X "all") (hm : X.mg "all" = none) (h : DX X q ρ e t)
    (he : ∀ env : Env, starEach [e] env = (false, eval e env) :: starEach [] env := by intro _; rfl) (hpl : ∀ env : Env, (backTo pos (starEach [] env)).any (·.1) = false := by intro _; rfl) : DX X q ρ (.Call (.Name "all" p) [e] [] pos) (bo (t.bind allD)) := by
  have k := dx_b1 (p := p) (pos := pos) dc_all hg hm (by decide +kernel) h (by decide) (by decide) he hpl
  rw [← T.bind_assoc] at k
  exact k
theorem dx_any {t : T D} (hg : Gb X "any") (hm : X.mg "any" = none) (h : DX X q ρ e t)
    (he : ∀ env : Env, starEach [e] env = (false, eval e env) :: starEach [] env := by intro _; rfl) (hpl : ∀ env : Env, (backTo pos (starEach [] env)).any (·.1) = false := by intro _; rfl) : DX X q ρ (.Call (.Name "any" p) [e] [] pos) (bo (t.bind anyB)) := by
  have k := dx_b1 (p := p) (pos := pos) dc_any hg hm (by decide +kernel) h (by decide) (by decide) he hpl
  rw [← T.bind_assoc] at k
  exact k
/-- list(x): a new list -/
def listD : D → T (List D)
  | .list ds => .ret ds
  | .tuple ds => .ret ds
  | _ => .fail
theorem df_list {t : T D} (hg : Gb X "list") (hm : X.mg "list" = none) (h : DX X q ρ e t) (he : ∀ env : Env, starEach [e] env = (false, eval e env) :: starEach [] env := by intro _; rfl)
    (hpl : ∀ env : Env, (backTo pos (starEach [] env)).any (·.1) = false := by intro _; rfl) : DF X q ρ (.Call (.Name "list" p) [e] [] pos) (t.bind listD) := fun σ Hb H g Q ok0 sl ht => by
  refine ⟨tCB (fun xs H Q => ∃ p ys, xs = [.ref p] ∧ (SqL X.K H p ys ∨ SqT X.K H p ys) ∧ ∀ l, H l = none → Q (.ref l) (upd H l (.lst ys))) (tCons (wE X e) tNil), fun z => pe_callTy call_list_of (hg.gl z) hm (by decide +kernel) (pa_cons pe_w pa_nil (he _)) (by decide) (by decide) (he _) (hpl _), ?_⟩
  refine h.run ok0 sl (T.ok_bind.mp ht) fun d g1 v Hb1 H1 c1 s1 ok1 sl1 d1 => ?_
  cases d1 with
  | lst e1 a1 => exact ⟨_, _, rfl, .inl (SqL.of (ok1.sub _ _ e1)), fun l hl => c1 l _ Hb1 _ (s1.trans ok1 (.own hl)) (ok1.own hl) (ok1.sub.free hl) (step_free ok0 s1 (free_nq ok1 hl) hl) upd_same a1⟩
  | tup e1 a1 => exact ⟨_, _, rfl, .inr (sqT_mono ok1.sub e1), fun l hl => c1 l _ Hb1 _ (s1.trans ok1 (.own hl)) (ok1.own hl) (ok1.sub.free hl) (step_free ok0 s1 (free_nq ok1 hl) hl) upd_same a1⟩
  | _ => exact c1.elim
/-- isinstance(x, T) of a built-in type -/
def tyD : D → String
  | .none => "NoneType"
  | .bool _ => "bool"
  | .int _ => "int"
  | .str _ => "str"
  | .list _ => "list"
  | .tuple _ => "tuple"
  | .dict _ => "dict"
def isiD (n : String) (d : D) : Bool := (tyD d == n) || (n == "int" && tyD d == "bool")
theorem tyX_dn {K : PySem.W.Frag} {Hb H : Hp} {v : V} {d : D} (hs : Same Hb H) (h : Dn K Hb v d) : TyX K H v (.type (tyD d)) := by
  cases h with
  | non => exact .base .non
  | bl b => exact .base (.bl b)
  | int i => exact .base (.int i)
  | str s => exact .base (.str s)
  | lst h1 h2 => exact .base (.lst (hs _ _ h1))
  | tup h1 h2 =>
    rcases h1 with (h | ⟨o, h⟩) | ⟨o, its, n, h, h', _⟩
    · exact .base (.tup (hs _ _ h))
    · exact .fTuple (hs _ _ h)
    · exact .kTuple h h'
theorem dx_isi {t : T D} {n : String} {x2 : Str} {p2 : Pos} (hk : ∀ a ∈ ["NoneType", "bool", "int", "str", "list", "tuple", "dict"], kitB a n = some ((a == n) || (n == "int" && a == "bool"))) (hg : Gb X "isinstance") (hm : X.mg "isinstance" = none) (hg2 : Gb X x2) (hm2 : X.mg x2 = none) (hv2 : bootBuiltins x2 = some (.type n)) (h : DX X q ρ e t)
    (hn2 : x2 ≠ "__name__" := by decide) (hdb2 : (x2 == ("__debug__" : Str)) = false := by decide)
    (he : ∀ env : Env, starEach [e, .Name x2 p2] env = (false, eval e env) :: starEach [.Name x2 p2] env := by intro _; rfl) (he2 : ∀ env : Env, starEach [.Name x2 p2] env = (false, eval (.Name x2 p2) env) :: starEach [] env := by intro _; rfl)
    (hpl : ∀ env : Env, (backTo pos (starEach [.Name x2 p2] env)).any (·.1) = false := by intro _; rfl) : DX X q ρ (.Call (.Name "isinstance" p) [e, .Name x2 p2] [] pos) (bo (t.bind fun d => .ret (isiD n d))) := fun σ Hb H g Q ok0 sl ht => by
  refine ⟨tCB (rIsi X.K) (tCons (wE X e) (tCons (tC (.ty n)) tNil)), fun z => pe_callB call_isi (hg.gl z) hm (by decide +kernel) (pa_cons pe_w (pa_cons (pe_bltn (v := .ty n) (hg2.gl z) hm2 hv2 rfl hn2 hdb2) pa_nil (he2 _)) (he _)) (by decide) (by decide) (he _) (hpl _), ?_⟩
  refine h.run ok0 sl (T.ok_bind.mp (T.ok_bind.mp ht)) fun d g1 v Hb1 H1 c1 s1 ok1 sl1 d1 => ?_
  refine ⟨v, .ty n, .type (tyD d), .type n, isiD n d, rfl, .ty n, tyX_dn ok1.sub d1, kit_ty ?_, c1 _ Hb1 H1 s1 ok1 (.bl _)⟩
  refine hk (tyD d) ?_
  cases d <;> simp [tyD]
end

/-! ### targets: what is bound to which slots -/
def wG (X : Ctx) (tg : Expr) : TG := fun v σ H Q => ∃ G : TG, (∀ z, PG (X.at z) tg G) ∧ G v σ H Q
theorem pg_w {X : Ctx} {z : Rst X} {tg : Expr} : PG (X.at z) tg (wG X tg) := ⟨fun pins s σ H v u Q I r ⟨_, h, k⟩ => (h z).run pins s σ H v u Q I r k⟩
/-- the item x, standing for d, is taken apart as dec tells; the slots are then env of it; ix: the slots that are set -/
structure DG (X : Ctx) (q : Option Addr) (ρ : List Sl) (ix : List Nat) {π : Type} (tg : Expr) (dec : D → Option π) (env : π → List Sl) : Prop where
  run : ∀ (v : V) (d : D) (σ : L2.St) (Hb H : Hp) (g : Nat) (Q : L2.St → Hp → Prop) (b : π), Ok X.K q Hb H g → Sls X.K q Hb H ρ σ → Dn X.K Hb v d → dec d = some b →
    (∀ σ', Sls X.K q Hb H (env b) σ' → σ'.length = σ.length → (∀ i, i ∉ ix → σ'[i]? = σ[i]?) → Q σ' H) → wG X tg v σ H Q
  how : ∀ (b : π) (i : Nat) (ds : List D), (env b)[i]? = some (Sl.ow ds) → i ∉ ix ∧ ρ[i]? = some (Sl.ow ds)
theorem how_set {ρ : List Sl} {i j : Nat} {d : D} {ds : List D} (e : (ρ.set i (.va d))[j]? = some (Sl.ow ds)) : j ∉ [i] ∧ ρ[j]? = some (Sl.ow ds) := by
  have n : i ≠ j := by
    rintro rfl
    rw [List.getElem?_set] at e
    split at e <;> (try split at e) <;> simp_all
  rw [List.getElem?_set_ne n] at e
  exact ⟨by simpa using Ne.symm n, e⟩
section
variable {X : Ctx} {q : Option Addr} {ρ : List Sl} {pos : Pos}
theorem dg_nm (i : Nat) {x : Str} (hN : X.N.Nodup) (hi : X.N[i]? = some x) (hx : Loc X.sc x) (hf : X.fn x = true ∨ X.sc.names.lookup x = some .local := by first | exact .inl rfl | exact .inr rfl | assumption) :
    DG X q ρ [i] (.Name x pos) some fun d => ρ.set i (.va d) := by
  refine ⟨fun v d σ Hb H g Q b ok0 sl hd e ht => ?_, fun b j ds e => how_set e⟩
  cases e
  refine ⟨_, fun z => pg_name hN hi (by rw [z.hsc]; exact hx) (by rw [z.hsc]; exact hf), ht _ (sl.setVa hd) (by rw [List.length_set]) fun j hj => ?_⟩
  rw [List.getElem?_set_ne (fun e => hj (by simp [e]))]
section
variable {π1 π2 π3 : Type} {ix1 ix2 ix3 : List Nat} {t1 t2 t3 : Expr} {k : Nat} {dec1 : D → Option π1} {dec2 : D → Option π2} {dec3 : D → Option π3} {env1 : π1 → List Sl} {env2 : π1 → π2 → List Sl} {env3 : π1 → π2 → π3 → List Sl}
def pairO (dec1 : D → Option π1) (dec2 : D → Option π2) : D → Option (π1 × π2)
  | .tuple [x, y] => (dec1 x).bind fun b1 => (dec2 y).bind fun b2 => some (b1, b2)
  | _ => none
def tripO (dec1 : D → Option π1) (dec2 : D → Option π2) (dec3 : D → Option π3) : D → Option (π1 × π2 × π3)
  | .tuple [x, y, z] => (dec1 x).bind fun b1 => (dec2 y).bind fun b2 => (dec3 z).bind fun b3 => some (b1, b2, b3)
  | _ => none
theorem pairO_some {d : D} {b : π1 × π2} (e : pairO dec1 dec2 d = some b) : ∃ x y, d = .tuple [x, y] ∧ dec1 x = some b.1 ∧ dec2 y = some b.2 := by
  unfold pairO at e
  split at e
  · rename_i x y
    obtain ⟨b1, h1, e⟩ := Option.bind_eq_some_iff.mp e
    obtain ⟨b2, h2, e⟩ := Option.bind_eq_some_iff.mp e
    cases e
    exact ⟨x, y, rfl, h1, h2⟩
  · cases e
theorem tripO_some {d : D} {b : π1 × π2 × π3} (e : tripO dec1 dec2 dec3 d = some b) : ∃ x y z, d = .tuple [x, y, z] ∧ dec1 x = some b.1 ∧ dec2 y = some b.2.1 ∧ dec3 z = some b.2.2 := by
  unfold tripO at e
  split at e
  · rename_i x y z
    obtain ⟨b1, h1, e⟩ := Option.bind_eq_some_iff.mp e
    obtain ⟨b2, h2, e⟩ := Option.bind_eq_some_iff.mp e
    obtain ⟨b3, h3, e⟩ := Option.bind_eq_some_iff.mp e
    cases e
    exact ⟨x, y, z, rfl, h1, h2, h3⟩
  · cases e
theorem dg_2 (h1 : DG X q ρ ix1 t1 dec1 env1) (h2 : ∀ b, DG X q (env1 b) ix2 t2 dec2 (env2 b))
    (hs1 : ∀ env : Env, (assignEach [t1, t2] env).map (·.2) = assign t1 env :: (assignEach [t2] env).map (·.2) := by intro _; rfl) (hs2 : ∀ env : Env, (assignEach [t2] env).map (·.2) = assign t2 env :: (assignEach [] env).map (·.2) := by intro _; rfl)
    (hn : ∀ env : Env, (assignEach [t1, t2] env).length = 2 := by intro _; rfl) (hst : ∀ env : Env, (assignEach [t1, t2] env).findIdx? (·.1) = none := by intro _; rfl) :
    DG X q ρ (ix1 ++ ix2) (.Tuple [t1, t2] k pos) (pairO dec1 dec2) fun b => env2 b.1 b.2 := by
  refine ⟨fun v d σ Hb H g Q b ok0 sl hd e ht => ?_, fun b i ds e => ?_⟩
  rotate_left
  · obtain ⟨n2, e2⟩ := (h2 b.1).how b.2 i ds e
    obtain ⟨n1, e1⟩ := h1.how b.1 i ds e2
    exact ⟨by rw [List.mem_append, not_or]; exact ⟨n1, n2⟩, e1⟩
  obtain ⟨x, y, rfl, e1, e2⟩ := pairO_some e
  refine ⟨gTup X.K 2 (gCons (wG X t1) (gCons (wG X t2) gNil)), fun z => pg_tup rfl (pgs_cons pg_w (pgs_cons pg_w pgs_nil (hs2 _)) (hs1 _)) (hn _) (hst _), ?_⟩
  cases hd with
  | tup hq ha =>
    cases ha with
    | cons a1 ha =>
      cases ha with
      | cons a2 ha =>
        cases ha
        refine ⟨_, _, rfl, sqT_mono ok0.sub hq, rfl, _, _, rfl, h1.run _ _ σ Hb H g _ _ ok0 sl a1 e1 fun σ1 sl1 l1 k1 => ?_⟩
        refine ⟨_, _, rfl, (h2 b.1).run _ _ σ1 Hb H g _ _ ok0 sl1 a2 e2 fun σ2 sl2 l2 k2 => ?_⟩
        refine ⟨rfl, ht _ sl2 (l2.trans l1) fun i hi => ?_⟩
        rw [List.mem_append, not_or] at hi
        rw [k2 i hi.2, k1 i hi.1]
theorem dg_3 (h1 : DG X q ρ ix1 t1 dec1 env1) (h2 : ∀ b, DG X q (env1 b) ix2 t2 dec2 (env2 b)) (h3 : ∀ b c, DG X q (env2 b c) ix3 t3 dec3 (env3 b c))
    (hs1 : ∀ env : Env, (assignEach [t1, t2, t3] env).map (·.2) = assign t1 env :: (assignEach [t2, t3] env).map (·.2) := by intro _; rfl) (hs2 : ∀ env : Env, (assignEach [t2, t3] env).map (·.2) = assign t2 env :: (assignEach [t3] env).map (·.2) := by intro _; rfl)
    (hs3 : ∀ env : Env, (assignEach [t3] env).map (·.2) = assign t3 env :: (assignEach [] env).map (·.2) := by intro _; rfl)
    (hn : ∀ env : Env, (assignEach [t1, t2, t3] env).length = 3 := by intro _; rfl) (hst : ∀ env : Env, (assignEach [t1, t2, t3] env).findIdx? (·.1) = none := by intro _; rfl) :
    DG X q ρ (ix1 ++ (ix2 ++ ix3)) (.Tuple [t1, t2, t3] k pos) (tripO dec1 dec2 dec3) fun b => env3 b.1 b.2.1 b.2.2 := by
  refine ⟨fun v d σ Hb H g Q b ok0 sl hd e ht => ?_, fun b i ds e => ?_⟩
  rotate_left
  · obtain ⟨n3, e3⟩ := (h3 b.1 b.2.1).how b.2.2 i ds e
    obtain ⟨n2, e2⟩ := (h2 b.1).how b.2.1 i ds e3
    obtain ⟨n1, e1⟩ := h1.how b.1 i ds e2
    exact ⟨by rw [List.mem_append, not_or, List.mem_append, not_or]; exact ⟨n1, n2, n3⟩, e1⟩
  obtain ⟨x, y, z, rfl, e1, e2, e3⟩ := tripO_some e
  refine ⟨gTup X.K 3 (gCons (wG X t1) (gCons (wG X t2) (gCons (wG X t3) gNil))), fun z => pg_tup rfl (pgs_cons pg_w (pgs_cons pg_w (pgs_cons pg_w pgs_nil (hs3 _)) (hs2 _)) (hs1 _)) (hn _) (hst _), ?_⟩
  cases hd with
  | tup hq ha =>
    cases ha with
    | cons a1 ha =>
      cases ha with
      | cons a2 ha =>
        cases ha with
        | cons a3 ha =>
          cases ha
          refine ⟨_, _, rfl, sqT_mono ok0.sub hq, rfl, _, _, rfl, h1.run _ _ σ Hb H g _ _ ok0 sl a1 e1 fun σ1 sl1 l1 k1 => ?_⟩
          refine ⟨_, _, rfl, (h2 b.1).run _ _ σ1 Hb H g _ _ ok0 sl1 a2 e2 fun σ2 sl2 l2 k2 => ?_⟩
          refine ⟨_, _, rfl, (h3 b.1 b.2.1).run _ _ σ2 Hb H g _ _ ok0 sl2 a3 e3 fun σ3 sl3 l3 k3 => ?_⟩
          refine ⟨rfl, ht _ sl3 (l3.trans (l2.trans l1)) fun i hi => ?_⟩
          rw [List.mem_append, not_or, List.mem_append, not_or] at hi
          rw [k3 i hi.2.2, k2 i hi.2.1, k1 i hi.1]
end
end

/-! ### what is walked -/
/-- the walk J hands out the items ds -/
def Wk (K : PySem.W.Frag) (q : Option Addr) (J : It) (Hb : Hp) (ds : List D) : Prop :=
  ∀ (i : Nat) (Hb1 H1 : Hp) (g : Nat), Same Hb Hb1 → Ok K q Hb1 H1 g →
    (∀ d, ds[i]? = some d → J.go i H1 ∧ ∀ x H2, J.yld i H1 x H2 → ∃ Hb2, Step q Hb1 H1 Hb2 H2 ∧ Ok K q Hb2 H2 g ∧ Dn K Hb2 x d) ∧ (ds.length ≤ i → J.stop i H1)
def DI (X : Ctx) (q : Option Addr) (ρ : List Sl) (tg iter : Expr) (t : T (List D)) : Prop :=
  ∀ σ Hb H g (R : It → Hp → Prop), Ok X.K q Hb H g → Sls X.K q Hb H ρ σ → t.ok g (fun ds g' => ∀ J Hb' H', Step q Hb H Hb' H' → Ok X.K q Hb' H' g' → Wk X.K q J Hb' ds → R J H') → wI X tg iter σ H R
section
variable {X : Ctx} {q : Option Addr} {ρ : List Sl} {pos p : Pos} {tg e e1 e2 : Expr}
theorem wk_list {K : PySem.W.Frag} {a : Addr} {vs : List V} {Hb : Hp} {ds : List D} (e : Hb a = some (.lst vs)) (h : DnAll K Hb vs ds) : Wk K q (Itl K a) Hb ds := fun i Hb1 H1 g s ok1 => by
  have hq : SqL K H1 a vs := SqL.of (ok1.sub _ _ (s _ _ e))
  refine ⟨fun d hd => ?_, fun hi => ⟨vs, hq, by rw [DnAll.len h]; exact hi⟩⟩
  obtain ⟨v, h1, h2⟩ := DnAll.get h hd
  refine ⟨⟨vs, v, hq, h1⟩, fun x H2 ⟨eH, y⟩ => ?_⟩
  subst eH
  have := y vs hq
  rw [h1] at this
  cases this
  exact ⟨Hb1, .refl, ok1, dn_mono s _ _ h2⟩
theorem wk_tup {K : PySem.W.Frag} {a : Addr} {vs : List V} {Hb : Hp} {ds : List D} (e : SqT K Hb a vs) (h : DnAll K Hb vs ds) : Wk K q (Itt K a) Hb ds := fun i Hb1 H1 g s ok1 => by
  have hq : SqT K H1 a vs := sqT_mono ok1.sub (sqT_mono s e)
  refine ⟨fun d hd => ?_, fun hi => ⟨vs, hq, by rw [DnAll.len h]; exact hi⟩⟩
  obtain ⟨v, h1, h2⟩ := DnAll.get h hd
  refine ⟨⟨vs, v, hq, h1⟩, fun x H2 ⟨eH, y⟩ => ?_⟩
  subst eH
  have := y vs hq
  rw [h1] at this
  cases this
  exact ⟨Hb1, .refl, ok1, dn_mono s _ _ h2⟩
def itemsL : D → T (List D)
  | .list ds => .ret ds
  | _ => .fail
def itemsT : D → T (List D)
  | .tuple ds => .ret ds
  | _ => .fail
def itemsS : D → T (List D)
  | .str s => .ret (s.cps.toList.map fun c => .str ⟨#[c]⟩)
  | _ => .fail
/-- over a list, a tuple, a text -/
theorem di_list {t : T D} (h : DX X q ρ e t) : DI X q ρ tg e (t.bind itemsL) := fun σ Hb H g R ok0 sl ht => by
  refine ⟨iList X.K (wE X e), fun z => pi_list pe_w, ?_⟩
  refine h.run ok0 sl (T.ok_bind.mp ht) fun d g1 v Hb1 H1 c1 s1 ok1 sl1 d1 => ?_
  cases d1 with
  | lst e1 a1 => exact ⟨_, rfl, ⟨_, SqL.of (ok1.sub _ _ e1)⟩, c1 _ Hb1 H1 s1 ok1 (wk_list e1 a1)⟩
  | _ => exact c1.elim
theorem di_tup {t : T D} (h : DX X q ρ e t) : DI X q ρ tg e (t.bind itemsT) := fun σ Hb H g R ok0 sl ht => by
  refine ⟨iTup X.K (wE X e), fun z => pi_tup pe_w, ?_⟩
  refine h.run ok0 sl (T.ok_bind.mp ht) fun d g1 v Hb1 H1 c1 s1 ok1 sl1 d1 => ?_
  cases d1 with
  | tup e1 a1 => exact ⟨_, rfl, ⟨_, sqT_mono ok1.sub e1⟩, c1 _ Hb1 H1 s1 ok1 (wk_tup e1 a1)⟩
  | _ => exact c1.elim
theorem di_str {t : T D} (h : DX X q ρ e t) : DI X q ρ tg e (t.bind itemsS) := fun σ Hb H g R ok0 sl ht => by
  refine ⟨_, fun z => pi_str pe_w, ?_⟩
  refine h.run ok0 sl (T.ok_bind.mp ht) fun d g1 v Hb1 H1 c1 s1 ok1 sl1 d1 => ?_
  cases d1 with
  | str z =>
    refine ⟨_, rfl, c1 _ Hb1 H1 s1 ok1 fun i Hb2 H2 g2 s2 ok2 => ⟨fun d hd => ?_, fun hi => ?_⟩⟩
    · rw [List.getElem?_map] at hd
      cases hz : z.cps.toList[i]? with
      | none => rw [hz] at hd; cases hd
      | some c =>
        rw [hz] at hd
        cases hd
        have hz' : z.cps[i]? = some c := by rw [← Array.getElem?_toList]; exact hz
        refine ⟨?_, fun x H3 y => ?_⟩
        · show i < z.cps.size
          exact (Array.getElem?_eq_some_iff.mp hz').1
        · obtain ⟨eH, c', h1, h2⟩ := y
          subst eH h2
          rw [hz'] at h1
          cases h1
          exact ⟨Hb2, .refl, ok2, .str _⟩
    · rw [List.length_map, Array.length_toList] at hi
      exact hi
  | _ => exact c1.elim
/-- over range(n), range(a, b) -/
def rangeL (lo hi : Int) : List D := (List.range (hi - lo).toNat).map fun (i : Nat) => .int (lo + (i : Nat))
def big62 (i : Int) : Bool := decide (-(2 ^ 62) ≤ i) && decide (i < 2 ^ 62)
theorem big_ok {i : Int} (h : big62 i = true) : -(2 ^ 62) ≤ i ∧ i < 2 ^ 62 := by
  unfold big62 at h
  rw [Bool.and_eq_true, decide_eq_true_eq, decide_eq_true_eq] at h
  exact h
theorem wk_range {K : PySem.W.Frag} {Hb : Hp} (lo : Int) (n : Nat) : Wk K q (Itr lo n) Hb ((List.range n).map fun i => .int (lo + (i : Nat))) := fun i Hb1 H1 g s ok1 => by
  refine ⟨fun d hd => ?_, fun hi => ?_⟩
  · rw [List.getElem?_map] at hd
    by_cases hlt : i < n
    · rw [List.getElem?_range hlt] at hd
      cases hd
      refine ⟨hlt, fun x H2 ⟨e1, e2⟩ => ?_⟩
      subst e1 e2
      exact ⟨Hb1, .refl, ok1, .int _⟩
    · rw [List.getElem?_eq_none (by rw [List.length_range]; omega)] at hd
      cases hd
  · rw [List.length_map, List.length_range] at hi
    exact hi
def range1 : D → T (List D)
  | .int j => .need (big62 j) (.ret (rangeL 0 j))
  | _ => .fail
def range2 : D → D → T (List D)
  | .int i, .int j => .need (big62 i && big62 j) (.ret (rangeL i j))
  | _, _ => .fail
theorem di_range1 {t : T D} (hg : Gb X "range") (hm : X.mg "range" = none) (h : DX X q ρ e t) (hs : ∀ env : Env, starEach [e] env = [(false, eval e env)] := by intro _; rfl) : DI X q ρ tg (.Call (.Name "range" p) [e] [] pos) (t.bind range1) := fun σ Hb H g R ok0 sl ht => by
  refine ⟨_, fun z => pi_range1 (hg.gl z) hm (pa_cons pe_w pa_nil (hs _)) (hs _), ?_⟩
  refine h.run ok0 sl (T.ok_bind.mp ht) fun d g1 v Hb1 H1 c1 s1 ok1 sl1 d1 => ?_
  cases d1 with
  | int j =>
    obtain ⟨hz, c1⟩ := T.ok_need c1
    have hb := big_ok hz
    refine ⟨j, rfl, hb.1, hb.2, c1 _ Hb1 H1 s1 ok1 ?_⟩
    unfold rangeL
    rw [Int.sub_zero]
    exact wk_range 0 j.toNat
  | _ => exact c1.elim
theorem di_range2 {ta tb : T D} (hg : Gb X "range") (hm : X.mg "range" = none) (ha : DX X q ρ e1 ta) (hb : DX X q ρ e2 tb) (hs : ∀ env : Env, starEach [e1, e2] env = [(false, eval e1 env), (false, eval e2 env)] := by intro _; rfl) (hs2 : ∀ env : Env, starEach [e2] env = [(false, eval e2 env)] := by intro _; rfl) :
    DI X q ρ tg (.Call (.Name "range" p) [e1, e2] [] pos) (ta.bind fun a => tb.bind fun b => range2 a b) := fun σ Hb H g R ok0 sl ht => by
  refine ⟨_, fun z => pi_range2 (hg.gl z) hm (pa_cons pe_w (pa_cons pe_w pa_nil (hs2 _)) (by rw [hs, hs2])) (hs _) (hs2 _), ?_⟩
  refine ha.run ok0 sl (T.ok_bind.mp ht) fun d g1 v Hb1 H1 c1 s1 ok1 sl1 d1 => ?_
  refine hb.run ok1 sl1 (T.ok_bind.mp c1) fun d' g2 v' Hb2 H2 c2 s2 ok2 sl2 d2 => ?_
  cases d1 with
  | int i =>
    cases d2 with
    | int j =>
      obtain ⟨hz, c2⟩ := T.ok_need c2
      rw [Bool.and_eq_true] at hz
      have h1 := big_ok hz.1
      have h2 := big_ok hz.2
      exact ⟨i, j, rfl, ⟨h1.1, h1.2, h2.1, h2.2⟩, c2 _ Hb2 H2 (s1.trans ok1 s2) ok2 (wk_range i _)⟩
    | _ => exact c2.elim
  | _ => cases d2 <;> exact c2.elim
end
end DD
end T_DE

section T_DM
set_option Elab.async false
set_option linter.all false
set_option maxRecDepth 100000
set_option maxHeartbeats 1000000
set_option autoImplicit false
namespace DD
open PySem PySem.Spec L2
open PyProof.Rows hiding St

/-! ### comprehensions -/
theorem T.ok_some {α : Type} {t : T α} : ∀ {g : Nat} {Q : α → Nat → Prop}, t.ok g Q → ∃ a g', Q a g' := by
  induction t with
  | ret a => exact fun h => ⟨a, _, h⟩
  | fail => exact fun h => h.elim
  | draw n k ih => exact fun ⟨h1, _, g', _, h⟩ => ih 0 (h 0 h1)
  | next k ih => exact fun ⟨g', _, h⟩ => ih h
def T.opt {α : Type} : Option α → T α
  | some a => .ret a
  | none => .fail
def Ctx.blk (X : Ctx) (scope : Scope) : Ctx := { X with sc := relS scope X.sc, fn := fun x => scope.names.lookup x == some .cell }
theorem relabel_relS {scope : Scope} {env : Env} {sc : Scope} (h : env.scope = sc) : relabel scope env = relS scope sc := by
  subst h
  rfl
def Rst.blk {X : Ctx} (z : Rst X) (scope : Scope) (s : Shared) (H : Hp) (C : Addr) (cl : List (Str × Addr)) (fp : List Addr) : Rst (X.blk scope) :=
  ⟨z.base, s, H, compEnvC scope cl C z.env, z.stack, z.stack, fp, [], relabel_relS z.hsc⟩
/-- the slots of a block's own names -/
def wipeR (ρ : List Sl) : List Nat → List Sl
  | [] => ρ
  | v :: vs => (wipeR ρ vs).set v .un
theorem Sls.wipe {K : PySem.W.Frag} {q : Option Addr} {Hb H : Hp} {ρ : List Sl} {σ : L2.St} (h : Sls K q Hb H ρ σ) : ∀ vs : List Nat, Sls K q Hb H (wipeR ρ vs) (L2.wipe σ vs)
  | [] => h
  | v :: vs => (h.wipe vs).setUn
theorem wipe_in {σ : L2.St} : ∀ {vs : List Nat} {i : Nat}, i ∈ vs → i < σ.length → (L2.wipe σ vs)[i]? = some none
  | v :: vs, i, h, hl => by
    unfold L2.wipe
    by_cases e : v = i
    · subst e
      rw [List.getElem?_set_self (by rw [wipe_length]; exact hl)]
    · rw [List.getElem?_set_ne e]
      rcases List.mem_cons.mp h with z | z
      · exact absurd z.symm e
      · exact wipe_in z hl
theorem wipe_same {σ σ2 : L2.St} {vs ix : List Nat} (hl : σ2.length = σ.length) (hk : ∀ i, i ∉ ix → σ2[i]? = (L2.wipe σ vs)[i]?) (hi : ∀ i ∈ ix, i ∈ vs) : L2.wipe σ2 vs = L2.wipe σ vs := by
  apply List.ext_getElem?
  intro i
  by_cases h : i ∈ vs
  · by_cases hlt : i < σ.length
    · rw [wipe_in h hlt, wipe_in h (by rw [hl]; exact hlt)]
    · rw [List.getElem?_eq_none (by rw [wipe_length, hl]; omega), List.getElem?_eq_none (by rw [wipe_length]; omega)]
  · rw [wipe_out h]
    exact hk i fun z => h (hi i z)
def wTs (X : Ctx) (ifs : List Expr) : TT := fun σ H Q => ∃ u : TT, (∀ z, PTs (X.at z) ifs u) ∧ u σ H Q
theorem pts_w {X : Ctx} {z : Rst X} {ifs : List Expr} : PTs (X.at z) ifs (wTs X ifs) := ⟨fun pins s σ H Q I ⟨_, h, k⟩ => (h z).run pins s σ H Q I k⟩
def DTs (X : Ctx) (q : Option Addr) (ρ : List Sl) (ifs : List Expr) (t : T Bool) : Prop := ∀ σ Hb H g Q, Ok X.K q Hb H g → Sls X.K q Hb H ρ σ → t.ok g (PB X.K q Hb H Q) → wTs X ifs σ H Q
section
variable {X : Ctx} {q : Option Addr} {ρ : List Sl}
theorem dts_nil : DTs X q ρ [] (.ret true) := fun σ Hb H g Q ok0 sl ht => ⟨_, fun z => pts_nil, ht Hb H .refl ok0⟩
theorem dts_one {c : Expr} {t : T Bool} (h : DT X q ρ c t) : DTs X q ρ [c] t := fun σ Hb H g Q ok0 sl ht => ⟨_, fun z => pts_one pt_w, h σ Hb H g Q ok0 sl ht⟩
/-- what one item comes to -/
def itemT {π : Type} (dec : D → Option π) (tc : π → T Bool) (te : π → T D) (d : D) : T (Option D) := (T.opt (dec d)).bind fun b => (tc b).bind fun k => if k then (te b).bind fun e => .ret (some e) else .ret none
theorem opt_ok {α : Type} {o : Option α} {g : Nat} {C : α → Nat → Prop} (h : (T.opt o).ok g C) : ∃ a, o = some a ∧ C a g := by
  cases o with
  | none => exact h.elim
  | some a => exact ⟨a, rfl, h⟩
theorem turn_ok {π : Type} {ix : List Nat} {tg elt : Expr} {ifs : List Expr} {dec : D → Option π} {env : π → List Sl} {tc : π → T Bool} {te : π → T D} (dg : DG X q ρ ix tg dec env) (hc : ∀ b, DTs X q (env b) ifs (tc b)) (he : ∀ b, DX X q (env b) elt (te b))
    {σ : L2.St} {Hb H : Hp} {g : Nat} {x : V} {d : D} {C : Option D → Nat → Prop} {K0 : Hp → Prop} {K1 : V → Hp → Prop} {L : L2.St → Prop} (ok0 : Ok X.K q Hb H g) (sl : Sls X.K q Hb H ρ σ) (hd : Dn X.K Hb x d) (ht : (itemT dec tc te d).ok g C)
    (hL : ∀ σ2 : L2.St, σ2.length = σ.length → (∀ i, i ∉ ix → σ2[i]? = σ[i]?) → L σ2)
    (h0 : ∀ Hb' H' g', Step q Hb H Hb' H' → Ok X.K q Hb' H' g' → C none g' → K0 H') (h1 : ∀ y e Hb' H' g', Step q Hb H Hb' H' → Ok X.K q Hb' H' g' → Dn X.K Hb' y e → C (some e) g' → K1 y H') :
    wG X tg x σ H fun σ2 H2 => L σ2 ∧ wTs X ifs σ2 H2 fun k H3 => if k = true then wE X elt σ2 H3 K1 else K0 H3 := by
  obtain ⟨b, eb, ht⟩ := opt_ok (T.ok_bind.mp ht)
  refine dg.run x d σ Hb H g _ b ok0 sl hd eb fun σ2 sl2 l2 k2 => ⟨hL σ2 l2 k2, ?_⟩
  refine hc b σ2 Hb H g _ ok0 sl2 (T.ok_mono (T.ok_bind.mp ht) fun k g1 c1 Hb1 H1 s1 ok1 => ?_)
  cases k with
  | false => exact iteF (h0 Hb1 H1 g1 s1 ok1 c1)
  | true =>
    refine iteT ((he b).run ok1 (sl2.step s1) (T.ok_bind.mp c1) fun e g2 y Hb2 H2 c2 s2 ok2 _ d2 => ?_)
    exact h1 y e Hb2 H2 g2 (s1.trans ok1 s2) ok2 d2 c2
/-- a list that is being built -/
structure Bd (K : PySem.W.Frag) (q : Option Addr) (Dd : Addr) (Hb H : Hp) (acc : List D) : Prop where
  ex : ∃ vs, H Dd = some (.lst vs) ∧ DnAll K Hb vs acc
  nb : Hb Dd = Option.none
  nq : q ≠ some Dd
theorem Bd.step {K : PySem.W.Frag} {Dd : Addr} {Hb H Hb' H' : Hp} {acc : List D} (h : Bd K q Dd Hb H acc) (s : Step q Hb H Hb' H') : Bd K q Dd Hb' H' acc := by
  obtain ⟨vs, e, dv⟩ := h.ex
  exact ⟨⟨vs, s.keep _ _ e h.nq, dnAll_mono s.ext _ _ dv⟩, s.stay _ _ e h.nb, h.nq⟩
/-- an item is put behind -/
theorem Bd.more {K : PySem.W.Frag} {Dd : Addr} {Hb H : Hp} {acc : List D} {vs : List V} {y : V} {e : D} {g : Nat} (h : Bd K q Dd Hb H acc) (ok0 : Ok K q Hb H g) (hv : H Dd = some (.lst vs)) (hd : Dn K Hb y e) :
    Bd K q Dd Hb (upd H Dd (.lst (vs ++ [y]))) (acc ++ [e]) ∧ Ok K q Hb (upd H Dd (.lst (vs ++ [y]))) g := by
  obtain ⟨vs', e', dv⟩ := h.ex
  rw [hv] at e'
  cases e'
  refine ⟨⟨⟨_, upd_same, DnAll.app dv (.cons hd .nil)⟩, h.nb, h.nq⟩, fun b u hb => ?_, fun a ha => ⟨(ok0.pool a ha).1, ?_⟩⟩
  · rw [upd_ne (fun z => by rw [z, h.nb] at hb; cases hb)]
    exact ok0.sub _ _ hb
  · exact (ok0.pool a ha).2.keep (Same.refl _) fun u hu => by rw [upd_ne fun z => h.nq (by rw [ha, z])]; exact hu
theorem Step.mut {Hb H Hb' H' : Hp} {Dd : Addr} {o : HO} (s : Step q Hb H Hb' H') (h : H Dd = Option.none) : Step q Hb H Hb' (upd H' Dd o) :=
  ⟨s.ext, fun b u hb n => by rw [upd_ne (ne_of_none hb h)]; exact s.keep b u hb n, s.stay⟩
section
variable {π : Type} {scope : Scope} {vs ix : List Nat} {tg iter elt : Expr} {ifs : List Expr} {ts : T (List D)} {dec : D → Option π} {env : π → List Sl} {tc : π → T Bool} {te : π → T D}
/-- what a comprehension of one clause comes to -/
def lcT (ts : T (List D)) (dec : D → Option π) (tc : π → T Bool) (te : π → T D) : T (List D) := ts.bind fun ds => .chk ds.length (T.filtM (itemT dec tc te) ds)
theorem lc_deep (di : DI X q ρ tg iter ts) (dg : DG (X.blk scope) q (wipeR ρ vs) ix tg dec env) (hix : ∀ i ∈ ix, i ∈ vs) (hc : ∀ b, DTs (X.blk scope) q (env b) ifs (tc b)) (he : ∀ b, DX (X.blk scope) q (env b) elt (te b))
    {σ : L2.St} {Hb H : Hp} {g : Nat} {Q : V → Hp → Prop} (ok0 : Ok X.K q Hb H g) (sl : Sls X.K q Hb H ρ σ) (ht : (lcT ts dec tc te).ok g (PF X.K q Hb H Q)) :
    tLc (wI X tg iter) (wG (X.blk scope) tg) (wTs (X.blk scope) ifs) (wE (X.blk scope) elt) vs σ H Q := by
  refine di σ Hb H g _ ok0 sl (T.ok_mono (T.ok_bind.mp ht) fun ds g1 c1 J Hb1 H1 s1 ok1 wk => ?_)
  obtain ⟨hz, c1⟩ := T.ok_chk c1
  intro Dd hD
  refine ⟨fun i m H2 => m = ds.length - i ∧ i ≤ ds.length ∧ ∃ Hb2 g2 acc, Step q Hb1 H1 Hb2 H2 ∧ Ok X.K q Hb2 H2 g2 ∧ Bd X.K q Dd Hb2 H2 acc ∧ acc.length ≤ i ∧
    (T.filtM (itemT dec tc te) (ds.drop i)).ok g2 (fun r g' => PF X.K q Hb H Q (acc ++ r) g'), ⟨ds.length, rfl, Nat.zero_le _, Hb1, g1, [], .own hD, ok1.own hD, ⟨⟨[], upd_same, .nil⟩, ok1.sub.free hD, free_nq ok1 hD⟩, Nat.le_refl _, c1⟩, ?_⟩
  rintro i m H2 ⟨rfl, hi, Hb2, g2, acc, s2, ok2, bd, ha, c2⟩
  obtain ⟨wgo, wstop⟩ := wk i Hb2 H2 g2 s2.ext ok2
  by_cases hlt : i < ds.length
  · refine .inr ?_
    obtain ⟨go, yl⟩ := wgo _ (List.getElem?_eq_getElem hlt)
    refine ⟨go, fun H' => ∃ Hb2 g2 acc, Step q Hb1 H1 Hb2 H' ∧ Ok X.K q Hb2 H' g2 ∧ Bd X.K q Dd Hb2 H' acc ∧ acc.length ≤ i + 1 ∧ (T.filtM (itemT dec tc te) (ds.drop (i + 1))).ok g2 (fun r g' => PF X.K q Hb H Q (acc ++ r) g'),
      fun H' p => ⟨ds.length - (i + 1), by omega, rfl, hlt, p⟩, fun x H3 y => ?_⟩
    obtain ⟨Hb3, s3, ok3, dx⟩ := yl x H3 y
    have sl3 : Sls X.K q Hb3 H3 (wipeR ρ vs) (L2.wipe σ vs) := (((sl.step s1).step s2).step s3).wipe vs
    rw [List.drop_eq_getElem_cons hlt] at c2
    have bd3 := bd.step s3
    have s13 : Step q Hb1 H1 Hb3 H3 := s2.trans ok2 s3
    refine turn_ok dg hc he ok3 sl3 dx (T.ok_bind.mp c2) (fun σ2 l2 k2 => wipe_same (by rw [l2, wipe_length]) k2 hix) (fun Hb' H' g' s' ok' c' => ?_) fun y' e Hb' H' g' s' ok' d' c' => ?_
    · refine ⟨Hb', g', acc, s13.trans ok3 s', ok', bd3.step s', by omega, ?_⟩
      exact T.ok_mono (T.ok_bind.mp c') fun r g'' h => h
    · have bd4 := bd3.step s'
      obtain ⟨vs4, e4, d4⟩ := bd4.ex
      obtain ⟨bd5, ok5⟩ := bd4.more ok' e4 d'
      refine ⟨vs4, e4, by rw [DnAll.len d4, sizeLine_eq]; omega, Hb', g', acc ++ [e], (s13.trans ok3 s').mut hD, ok5, bd5, by simp only [List.length_append, List.length_singleton]; omega, ?_⟩
      refine T.ok_mono (T.ok_bind.mp c') fun r g'' h => ?_
      have h : PF X.K q Hb H Q (acc ++ e :: r) g'' := h
      rw [List.append_assoc]
      exact h
  · have e : i = ds.length := by omega
    subst e
    refine .inl ⟨wstop (Nat.le_refl _), ?_⟩
    rw [List.drop_length] at c2
    have c2 : PF X.K q Hb H Q (acc ++ []) g2 := c2
    rw [List.append_nil] at c2
    obtain ⟨vs4, e4, d4⟩ := bd.ex
    exact c2 Dd vs4 Hb2 H2 (s1.trans ok1 s2) ok2 bd.nb (step_free ok0 s1 (free_nq ok1 hD) hD) e4 d4
/-- [elt for tg in iter if ..] -/
theorem df_lc {own : List (Str × Nat)} {pos : Pos} (hN : X.N.Nodup) (di : DI X q ρ tg iter ts) (bk : blkC X.N X.sc scope own = true) (dg : DG (X.blk scope) q (wipeR ρ (own.map (·.2))) ix tg dec env) (hix : ∀ i ∈ ix, i ∈ own.map (·.2))
    (hc : ∀ b, DTs (X.blk scope) q (env b) ifs (tc b)) (he : ∀ b, DX (X.blk scope) q (env b) elt (te b)) (hs : ∀ (env : Env) (x : Value), foldedSetIterable iter env x = pure x := by intro _ _; rfl) :
    DF X q ρ (.ListComp elt [⟨tg, iter, ifs, 0⟩] scope pos) (lcT ts dec tc te) := fun σ Hb H g Q ok0 sl ht =>
  ⟨_, fun z => pe_lc rfl hN pi_w (blkOk_by (by rw [z.hsc]; exact bk)) (fun s H C cl fp => pg_w (z := z.blk scope s H C cl fp)) (fun s H C cl fp => pts_w (z := z.blk scope s H C cl fp)) (fun s H C cl fp => pe_w (z := z.blk scope s H C cl fp)) (hs _),
    lc_deep di dg hix hc he ok0 sl ht⟩
/-- y = e, by what it takes to store it: e's reading within the statement -/
def wEA (X : Ctx) (i : Nat) (st : Stmt) : TE := fun σ H Q => ∃ u : TE, (∀ z, PS (X.at z) st (tAsg u (gName i))) ∧ u σ H Q
theorem ps_wEA {z : Rst X} {i : Nat} {st : Stmt} : PS (X.at z) st (tAsg (wEA X i st) (gName i)) := ⟨fun pins s σ H Q I ⟨u, h, k⟩ => (h z).run pins s σ H Q I k⟩
def DXA (X : Ctx) (q : Option Addr) (ρ : List Sl) (i : Nat) (st : Stmt) (t : T D) : Prop := ∀ σ Hb H g Q, Ok X.K q Hb H g → Sls X.K q Hb H ρ σ → t.ok g (PD X.K q Hb H Q) → wEA X i st σ H Q
def DFA (X : Ctx) (q : Option Addr) (ρ : List Sl) (i : Nat) (st : Stmt) (t : T (List D)) : Prop := ∀ σ Hb H g Q, Ok X.K q Hb H g → Sls X.K q Hb H ρ σ → t.ok g (PF X.K q Hb H Q) → wEA X i st σ H Q
section
variable {i : Nat} {x : Str} {e : Expr} {pos pos' py spos : Pos} {t : T D} {tf : T (List D)}
theorem dxa (hN : X.N.Nodup) (hi : X.N[i]? = some x) (hx : Loc X.sc x) (h : DX X q ρ e t) (hs : ∀ env : Env, swapsWith e (some (.Name x pos')) pos.line env = pure false := by intro _; rfl)
    (hf : X.fn x = true ∨ X.sc.names.lookup x = some .local := by first | exact .inl rfl | exact .inr rfl | assumption) : DXA X q ρ i (.Assign [.Name x pos'] e pos) t := fun σ Hb H g Q ok0 sl ht =>
  ⟨wE X e, fun z => ps_set hN hi (by rw [z.hsc]; exact hx) pe_w (hs _) (by rw [z.hsc]; exact hf), h σ Hb H g Q ok0 sl ht⟩
theorem dfa (hN : X.N.Nodup) (hi : X.N[i]? = some x) (hx : Loc X.sc x) (h : DF X q ρ e tf) (hs : ∀ env : Env, swapsWith e (some (.Name x pos')) pos.line env = pure false := by intro _; rfl)
    (hf : X.fn x = true ∨ X.sc.names.lookup x = some .local := by first | exact .inl rfl | exact .inr rfl | assumption) : DFA X q ρ i (.Assign [.Name x pos'] e pos) tf := fun σ Hb H g Q ok0 sl ht =>
  ⟨wE X e, fun z => ps_set hN hi (by rw [z.hsc]; exact hx) pe_w (hs _) (by rw [z.hsc]; exact hf), h σ Hb H g Q ok0 sl ht⟩
/-- y = [elt for ..] on one line, y a local name that the block does not bear -/
theorem dfa_lc {own : List (Str × Nat)} (hN : X.N.Nodup) (hi : X.N[i]? = some x) (hx : X.sc.names.lookup x = some .local) (hk : X.sc.kind = .function) (hl : (py.line == pos.line) = true := by rfl) (ha : (scope.names.any fun (n, k) => n == x && (k == .local || k == .cell)) = false := by decide +kernel)
    (di : DI X q ρ tg iter ts) (bk : blkC X.N X.sc scope own = true) (dg : DG (X.blk scope) q (wipeR ρ (own.map (·.2))) ix tg dec env) (hix : ∀ i ∈ ix, i ∈ own.map (·.2))
    (hc : ∀ b, DTs (X.blk scope) q (env b) ifs (tc b)) (he : ∀ b, DX (X.blk scope) q (env b) elt (te b)) (hs : ∀ (env : Env) (x : Value), foldedSetIterable iter env x = pure x := by intro _ _; rfl) :
    DFA X q ρ i (.Assign [.Name x py] (.ListComp elt [⟨tg, iter, ifs, 0⟩] scope pos) spos) (lcT ts dec tc te) := fun σ Hb H g Q ok0 sl ht =>
  ⟨_, fun z => ps_setLc rfl hN hi (by rw [z.hsc]; exact hx) (sw_true (by rw [z.hsc]; exact hk) (by rw [z.hsc]; exact hx) hl ha) pi_w (blkOk_by (by rw [z.hsc]; exact bk)) (fun s H C cl fp => pg_w (z := z.blk scope s H C cl fp)) (fun s H C cl fp => pts_w (z := z.blk scope s H C cl fp)) (fun s H C cl fp => pe_w (z := z.blk scope s H C cl fp)) (hs _),
    lc_deep di dg hix hc he ok0 sl ht⟩
end
end
end
end DD
end T_DM

section T_DN
set_option Elab.async false
set_option linter.all false
set_option maxRecDepth 100000
set_option maxHeartbeats 1000000
set_option autoImplicit false
namespace DD
open PySem PySem.Spec L2
open PyProof.Rows hiding St

/-! ### comprehensions of two clauses -/
def T.flatM {α β : Type} (f : α → T (List β)) : List α → T (List β)
  | [] => .ret []
  | a :: l => (f a).bind fun b => (T.flatM f l).bind fun bs => .ret (b ++ bs)
def hideR (ρ : List Sl) : List Sl := ρ.map fun s => match s with | .ow _ => .un | s => s
theorem Sls.hide {K : PySem.W.Frag} {q : Option Addr} {Hb H : Hp} {ρ : List Sl} {σ : L2.St} (h : Sls K q Hb H ρ σ) : Sls K q Hb H (hideR ρ) σ := by
  have key : ∀ (i : Nat) ds, (hideR ρ)[i]? ≠ some (Sl.ow ds) := fun i ds e => by
    unfold hideR at e
    rw [List.getElem?_map] at e
    cases z : ρ[i]? with
    | none => rw [z] at e; cases e
    | some s => rw [z] at e; cases s <;> cases e
  refine ⟨by unfold hideR; rw [List.length_map]; exact h.len, fun i sl e => ?_, fun i j ds es p e1 _ _ _ => absurd e1 (key i ds)⟩
  unfold hideR at e
  rw [List.getElem?_map] at e
  cases z : ρ[i]? with
  | none => rw [z] at e; cases e
  | some s =>
    rw [z] at e
    obtain ⟨v, e1, r⟩ := h.rel i s z
    refine ⟨v, e1, ?_⟩
    cases s <;> cases e <;> first
      | exact r
      | trivial
theorem hide_ne {ρ : List Sl} {i : Nat} {ds : List D} : (hideR ρ)[i]? ≠ some (Sl.ow ds) := fun e => by
  unfold hideR at e
  rw [List.getElem?_map] at e
  cases z : ρ[i]? with
  | none => rw [z] at e; cases e
  | some s => rw [z] at e; cases s <;> cases e
theorem wipe_hide_ne {ρ : List Sl} {i : Nat} {ds : List D} : ∀ vs : List Nat, (wipeR (hideR ρ) vs)[i]? ≠ some (Sl.ow ds)
  | [] => hide_ne
  | v :: vs => fun e => by
    unfold wipeR at e
    by_cases h : v = i
    · subst h
      rw [List.getElem?_set] at e
      split at e <;> (try split at e) <;> simp_all
    · rw [List.getElem?_set_ne h] at e
      exact wipe_hide_ne vs e
section
variable {X : Ctx} {q : Option Addr} {ρ : List Sl} {π π1 : Type} {scope : Scope} {vs ix vs1 ix1 : List Nat} {tg iter elt tg1 iter1 : Expr} {ifs ifs1 : List Expr} {ts : T (List D)} {dec : D → Option π} {env : π → List Sl} {tc : π → T Bool}
  {ts1 : π → T (List D)} {dec1 : π → D → Option π1} {env1 : π → π1 → List Sl} {tc1 : π → π1 → T Bool} {te : π → π1 → T D}
/-- what one item of the first clause comes to -/
def lc2I (dec : D → Option π) (tc : π → T Bool) (ts1 : π → T (List D)) (dec1 : π → D → Option π1) (tc1 : π → π1 → T Bool) (te : π → π1 → T D) (d : D) : T (List D) :=
  (T.opt (dec d)).bind fun b => (tc b).bind fun k => if k then (ts1 b).bind fun es => T.filtM (itemT (dec1 b) (tc1 b) (te b)) es else .ret []
def lc2T (ts : T (List D)) (dec : D → Option π) (tc : π → T Bool) (ts1 : π → T (List D)) (dec1 : π → D → Option π1) (tc1 : π → π1 → T Bool) (te : π → π1 → T D) : T (List D) :=
  ts.bind fun ds => (T.flatM (lc2I dec tc ts1 dec1 tc1 te) ds).bind fun r => .chk r.length (.ret r)
theorem lc2_deep (di : DI X q ρ tg iter ts) (dg : DG (X.blk scope) q (wipeR (hideR ρ) vs) ix tg dec env) (hix : ∀ i ∈ ix, i ∈ vs) (hc : ∀ b, DTs (X.blk scope) q (env b) ifs (tc b))
    (di1 : ∀ b, DI (X.blk scope) q (env b) tg1 iter1 (ts1 b)) (dg1 : ∀ b, DG (X.blk scope) q (wipeR (env b) vs1) ix1 tg1 (dec1 b) (env1 b)) (hix1 : ∀ i ∈ ix1, i ∈ vs1) (hc1 : ∀ b c, DTs (X.blk scope) q (env1 b c) ifs1 (tc1 b c))
    (he : ∀ b c, DX (X.blk scope) q (env1 b c) elt (te b c))
    {σ : L2.St} {Hb H : Hp} {g : Nat} {Q : V → Hp → Prop} (ok0 : Ok X.K q Hb H g) (sl : Sls X.K q Hb H ρ σ) (ht : (lc2T ts dec tc ts1 dec1 tc1 te).ok g (PF X.K q Hb H Q)) :
    tLc2 (wI X tg iter) (wG (X.blk scope) tg) (wTs (X.blk scope) ifs) (wI (X.blk scope) tg1 iter1) (wG (X.blk scope) tg1) (wTs (X.blk scope) ifs1) (wE (X.blk scope) elt) vs vs1 σ H Q := by
  refine di σ Hb H g _ ok0 sl (T.ok_mono (T.ok_bind.mp ht) fun ds g1 c1 J Hb1 H1 s1 ok1 wk => ?_)
  have c1 : (T.flatM (lc2I dec tc ts1 dec1 tc1 te) ds).ok g1 fun r g' => r.length < 16777216 ∧ PF X.K q Hb H Q r g' := T.ok_mono (T.ok_bind.mp c1) fun r g' h => T.ok_chk h
  intro Dd hD
  -- the word of the outer loop
  generalize hPv : (fun (i : Nat) (H2 : Hp) => ∃ Hb2 g2 acc, Step q Hb1 H1 Hb2 H2 ∧ Ok X.K q Hb2 H2 g2 ∧ Bd X.K q Dd Hb2 H2 acc ∧
    (T.flatM (lc2I dec tc ts1 dec1 tc1 te) (ds.drop i)).ok g2 (fun r g' => (acc ++ r).length < 16777216 ∧ PF X.K q Hb H Q (acc ++ r) g')) = Pv
  refine ⟨fun i m H2 => m = ds.length - i ∧ i ≤ ds.length ∧ Pv i H2, ⟨ds.length, rfl, Nat.zero_le _, ?_⟩, ?_⟩
  · subst hPv
    exact ⟨Hb1, g1, [], .own hD, ok1.own hD, ⟨⟨[], upd_same, .nil⟩, ok1.sub.free hD, free_nq ok1 hD⟩, c1⟩
  rintro i m H2 ⟨rfl, hi, pv⟩
  have pv0 := pv
  rw [← hPv] at pv
  obtain ⟨Hb2, g2, acc, s2, ok2, bd, c2⟩ := pv
  obtain ⟨wgo, wstop⟩ := wk i Hb2 H2 g2 s2.ext ok2
  by_cases hlt : i < ds.length
  · refine .inr ?_
    obtain ⟨go, yl⟩ := wgo _ (List.getElem?_eq_getElem hlt)
    refine ⟨go, Pv (i + 1), fun H' p => ⟨ds.length - (i + 1), by omega, rfl, hlt, p⟩, fun x H3 y => ?_⟩
    obtain ⟨Hb3, s3, ok3, dx⟩ := yl x H3 y
    have sl3 : Sls X.K q Hb3 H3 (wipeR (hideR ρ) vs) (L2.wipe σ vs) := (((sl.step s1).step s2).step s3).hide.wipe vs
    rw [List.drop_eq_getElem_cons hlt] at c2
    have bd3 := bd.step s3
    have s13 : Step q Hb1 H1 Hb3 H3 := s2.trans ok2 s3
    -- behind the item's part r of the list
    have c3 : (lc2I dec tc ts1 dec1 tc1 te ds[i]).ok g2 fun a g' => (T.flatM (lc2I dec tc ts1 dec1 tc1 te) (ds.drop (i + 1))).ok g' fun r g'' => (acc ++ (a ++ r)).length < 16777216 ∧ PF X.K q Hb H Q (acc ++ (a ++ r)) g'' :=
      T.ok_mono (T.ok_bind.mp c2) fun a g' h => T.ok_mono (T.ok_bind.mp h) fun r g'' h => h
    obtain ⟨b, eb, c3⟩ := opt_ok (T.ok_bind.mp c3)
    refine dg.run x ds[i] (L2.wipe σ vs) Hb3 H3 g2 _ b ok3 sl3 dx eb fun σ2 sl2 l2 k2 => ⟨wipe_same (by rw [l2, wipe_length]) k2 hix, ?_⟩
    refine hc b σ2 Hb3 H3 g2 _ ok3 sl2 (T.ok_mono (T.ok_bind.mp c3) fun k g4 c4 Hb4 H4 s4 ok4 => ?_)
    have s14 := s13.trans ok3 s4
    cases k with
    | false =>
      refine iteF ?_
      subst hPv
      exact ⟨Hb4, g4, acc, s14, ok4, bd3.step s4, c4⟩
    | true =>
      refine iteT (di1 b σ2 Hb4 H4 g4 _ ok4 (sl2.step s4) (T.ok_mono (T.ok_bind.mp c4) fun es g5 c5 J1 Hb5 H5 s5 ok5 wk1 => ?_))
      have s15 := s14.trans ok4 s5
      have sl5 := (sl2.step s4).step s5
      -- the word of the inner loop
      generalize hPw : (fun (j : Nat) (H6 : Hp) => ∃ Hb6 g6 acc6, Step q Hb1 H1 Hb6 H6 ∧ Same Hb5 Hb6 ∧ Sls X.K q Hb6 H6 (env b) σ2 ∧ Ok X.K q Hb6 H6 g6 ∧ Bd X.K q Dd Hb6 H6 acc6 ∧
        (T.filtM (itemT (dec1 b) (tc1 b) (te b)) (es.drop j)).ok g6 (fun a g' => (T.flatM (lc2I dec tc ts1 dec1 tc1 te) (ds.drop (i + 1))).ok g' fun r g'' => (acc6 ++ (a ++ r)).length < 16777216 ∧ PF X.K q Hb H Q (acc6 ++ (a ++ r)) g'')) = Pw
      refine ⟨fun j k H6 => k = es.length - j ∧ j ≤ es.length ∧ Pw j H6, ⟨es.length, rfl, Nat.zero_le _, ?_⟩, ?_⟩
      · subst hPw
        exact ⟨Hb5, g5, acc, s15, Same.refl _, sl5, ok5, (bd3.step s4).step s5, c5⟩
      rintro j k H6 ⟨rfl, hj, pw⟩
      rw [← hPw] at pw
      obtain ⟨Hb6, g6, acc6, s6, m6, sl6, ok6, bd6, c6⟩ := pw
      obtain ⟨wgo1, wstop1⟩ := wk1 j Hb6 H6 g6 m6 ok6
      by_cases hlt1 : j < es.length
      · refine .inr ?_
        obtain ⟨go1, yl1⟩ := wgo1 _ (List.getElem?_eq_getElem hlt1)
        refine ⟨go1, Pw (j + 1), fun H' p => ⟨es.length - (j + 1), by omega, rfl, hlt1, p⟩, fun x1 H7 y1 => ?_⟩
        obtain ⟨Hb7, s7, ok7, dx7⟩ := yl1 x1 H7 y1
        have sl7 := (sl6.step s7).wipe vs1
        rw [List.drop_eq_getElem_cons hlt1] at c6
        have bd7 := bd6.step s7
        have s17 := s6.trans ok6 s7
        refine turn_ok (dg1 b) (hc1 b) (he b) ok7 sl7 dx7 (T.ok_bind.mp c6) (fun σ3 l3 k3 => wipe_same (by rw [l3, wipe_length]) k3 hix1) (fun Hb' H' g' s' ok' c' => ?_) fun y' e Hb' H' g' s' ok' d' c' => ?_
        · subst hPw
          exact ⟨Hb', g', acc6, s17.trans ok7 s', (m6.trans s7.ext).trans s'.ext, (sl6.step s7).step s', ok', bd7.step s', T.ok_mono (T.ok_bind.mp c') fun r g'' h => h⟩
        · have bd8 := bd7.step s'
          obtain ⟨vs8, e8, d8⟩ := bd8.ex
          obtain ⟨bd9, ok9⟩ := bd8.more ok' e8 d'
          have c9 : (T.filtM (itemT (dec1 b) (tc1 b) (te b)) (es.drop (j + 1))).ok g' (fun a g' => (T.flatM (lc2I dec tc ts1 dec1 tc1 te) (ds.drop (i + 1))).ok g' fun r g'' => (acc6 ++ [e] ++ (a ++ r)).length < 16777216 ∧ PF X.K q Hb H Q (acc6 ++ [e] ++ (a ++ r)) g'') :=
            T.ok_mono (T.ok_bind.mp c') fun a g'' h => by
              have h : (T.flatM (lc2I dec tc ts1 dec1 tc1 te) (ds.drop (i + 1))).ok g'' fun r g'' => (acc6 ++ (e :: a ++ r)).length < 16777216 ∧ PF X.K q Hb H Q (acc6 ++ (e :: a ++ r)) g'' := h
              refine T.ok_mono h fun r g3 h => ?_
              rw [List.append_assoc]
              exact h
          have hlen : vs8.length < sizeLine := by
            obtain ⟨a, ga, ha⟩ := T.ok_some c9
            obtain ⟨r, gr, hr, _⟩ := T.ok_some ha
            simp only [List.length_append, List.length_singleton] at hr
            rw [DnAll.len d8, sizeLine_eq]
            omega
          refine ⟨vs8, e8, hlen, ?_⟩
          subst hPw
          have sl8 := (sl6.step s7).step s'
          refine ⟨Hb', g', acc6 ++ [e], (s17.trans ok7 s').mut hD, (m6.trans s7.ext).trans s'.ext, ?_, ok9, bd9, c9⟩
          -- the slots own no list that stands at Dd
          refine ⟨sl8.len, fun i sl hsl => ?_, sl8.sep⟩
          obtain ⟨s0, e0, r0⟩ := sl8.rel i sl hsl
          refine ⟨s0, e0, ?_⟩
          cases sl with
          | un => trivial
          | va d => exact r0
          | po => exact r0
          | fz ns => exact r0
          | ow ds0 =>
            exact absurd (dg.how b _ _ hsl).2 (wipe_hide_ne vs)
      · have ej : j = es.length := by omega
        subst ej
        refine .inl ⟨wstop1 (Nat.le_refl _), ?_⟩
        rw [List.drop_length] at c6
        subst hPv
        exact ⟨Hb6, g6, acc6, s6, ok6, bd6, c6⟩
  · have e : i = ds.length := by omega
    subst e
    refine .inl ⟨wstop (Nat.le_refl _), ?_⟩
    rw [List.drop_length] at c2
    have c2 : (acc ++ []).length < 16777216 ∧ PF X.K q Hb H Q (acc ++ []) g2 := c2
    rw [List.append_nil] at c2
    obtain ⟨vs4, e4, d4⟩ := bd.ex
    exact c2.2 Dd vs4 Hb2 H2 (s1.trans ok1 s2) ok2 bd.nb (step_free ok0 s1 (free_nq ok1 hD) hD) e4 d4
section
variable {own : List (Str × Nat)} {pos : Pos}
/-- [elt for tg in iter if .. for tg1 in iter1 if ..] -/
theorem df_lc2 (hN : X.N.Nodup) (di : DI X q ρ tg iter ts) (bk : blkC X.N X.sc scope own = true) (hv : ∀ i ∈ vs1, i ∈ own.map (·.2)) (dg : DG (X.blk scope) q (wipeR (hideR ρ) (own.map (·.2))) ix tg dec env) (hix : ∀ i ∈ ix, i ∈ own.map (·.2)) (hc : ∀ b, DTs (X.blk scope) q (env b) ifs (tc b))
    (di1 : ∀ b, DI (X.blk scope) q (env b) tg1 iter1 (ts1 b)) (dg1 : ∀ b, DG (X.blk scope) q (wipeR (env b) vs1) ix1 tg1 (dec1 b) (env1 b)) (hix1 : ∀ i ∈ ix1, i ∈ vs1) (hc1 : ∀ b c, DTs (X.blk scope) q (env1 b c) ifs1 (tc1 b c))
    (he : ∀ b c, DX (X.blk scope) q (env1 b c) elt (te b c)) (hs : ∀ (env : Env) (x : Value), foldedSetIterable iter env x = pure x := by intro _ _; rfl) (hs1 : ∀ (env : Env) (x : Value), foldedSetIterable iter1 env x = pure x := by intro _ _; rfl) :
    DF X q ρ (.ListComp elt [⟨tg, iter, ifs, 0⟩, ⟨tg1, iter1, ifs1, 0⟩] scope pos) (lc2T ts dec tc ts1 dec1 tc1 te) := fun σ Hb H g Q ok0 sl ht =>
  ⟨_, fun z => pe_lc2 rfl hN pi_w (blkOk_by (by rw [z.hsc]; exact bk)) hv (fun s H C cl fp => pg_w (z := z.blk scope s H C cl fp)) (fun s H C cl fp => pts_w (z := z.blk scope s H C cl fp)) (fun s H C cl fp => pi_w (z := z.blk scope s H C cl fp)) (fun s H C cl fp => pg_w (z := z.blk scope s H C cl fp)) (fun s H C cl fp => pts_w (z := z.blk scope s H C cl fp)) (fun s H C cl fp => pe_w (z := z.blk scope s H C cl fp)) (hs _) hs1,
    lc2_deep di dg hix hc di1 dg1 hix1 hc1 he ok0 sl ht⟩
theorem dfa_lc2 {i : Nat} {x : Str} {py spos : Pos} (hN : X.N.Nodup) (hi : X.N[i]? = some x) (hx : X.sc.names.lookup x = some .local) (hk : X.sc.kind = .function)
    (hsw : ∀ env : Env, env.scope = X.sc → swapsWith (.ListComp elt [⟨tg, iter, ifs, 0⟩, ⟨tg1, iter1, ifs1, 0⟩] scope pos) (some (.Name x py)) spos.line env = pure true)
    (di : DI X q ρ tg iter ts) (bk : blkC X.N X.sc scope own = true) (hv : ∀ i ∈ vs1, i ∈ own.map (·.2)) (dg : DG (X.blk scope) q (wipeR (hideR ρ) (own.map (·.2))) ix tg dec env) (hix : ∀ i ∈ ix, i ∈ own.map (·.2)) (hc : ∀ b, DTs (X.blk scope) q (env b) ifs (tc b))
    (di1 : ∀ b, DI (X.blk scope) q (env b) tg1 iter1 (ts1 b)) (dg1 : ∀ b, DG (X.blk scope) q (wipeR (env b) vs1) ix1 tg1 (dec1 b) (env1 b)) (hix1 : ∀ i ∈ ix1, i ∈ vs1) (hc1 : ∀ b c, DTs (X.blk scope) q (env1 b c) ifs1 (tc1 b c))
    (he : ∀ b c, DX (X.blk scope) q (env1 b c) elt (te b c)) (hs : ∀ (env : Env) (x : Value), foldedSetIterable iter env x = pure x := by intro _ _; rfl) (hs1 : ∀ (env : Env) (x : Value), foldedSetIterable iter1 env x = pure x := by intro _ _; rfl) :
    DFA X q ρ i (.Assign [.Name x py] (.ListComp elt [⟨tg, iter, ifs, 0⟩, ⟨tg1, iter1, ifs1, 0⟩] scope pos) spos) (lc2T ts dec tc ts1 dec1 tc1 te) := fun σ Hb H g Q ok0 sl ht =>
  ⟨_, fun z => ps_setLc2 rfl hN hi (by rw [z.hsc]; exact hx) (hsw _ z.hsc) pi_w (blkOk_by (by rw [z.hsc]; exact bk)) hv (fun s H C cl fp => pg_w (z := z.blk scope s H C cl fp)) (fun s H C cl fp => pts_w (z := z.blk scope s H C cl fp)) (fun s H C cl fp => pi_w (z := z.blk scope s H C cl fp)) (fun s H C cl fp => pg_w (z := z.blk scope s H C cl fp)) (fun s H C cl fp => pts_w (z := z.blk scope s H C cl fp)) (fun s H C cl fp => pe_w (z := z.blk scope s H C cl fp)) (hs _) hs1,
    lc2_deep di dg hix hc di1 dg1 hix1 hc1 he ok0 sl ht⟩
end
end
end DD
end T_DN

section T_DS
set_option Elab.async false
set_option linter.all false
set_option maxRecDepth 100000
set_option maxHeartbeats 1000000
set_option autoImplicit false
namespace DD
open PySem PySem.Spec L2
open PyProof.Rows hiding St

/-! ### statements -/
/-- how a block ends -/
inductive En where
  | nx (ρ : List Sl) | rt (d : D) | bk (ρ : List Sl) | ct (ρ : List Sl)
/-- as Step, but for what the slots own -/
structure StepO (q : Option Addr) (O : Addr → Prop) (Hb H Hb' H' : Hp) : Prop where
  ext : Same Hb Hb'
  keep : ∀ b o, H b = some o → q ≠ some b → ¬ O b → H' b = some o
  stay : ∀ b o, H b = some o → Hb b = Option.none → ¬ O b → Hb' b = Option.none
/-- what is wanted behind an end -/
def EnP (K : PySem.W.Frag) (q : Option Addr) (O : Addr → Prop) (Hb H : Hp) (C : Ends) : En → Nat → Prop
  | .rt d, g => ∀ v Hb' H', StepO q O Hb H Hb' H' → Ok K q Hb' H' g → Dn K Hb' v d → C.rt v H'
  | .nx ρ, g => ∀ σ Hb' H', StepO q O Hb H Hb' H' → Ok K q Hb' H' g → Sls K q Hb' H' ρ σ → (∀ p, OwnP ρ σ p → O p ∨ H p = Option.none) → C.nx σ H'
  | .bk ρ, g => ∀ σ Hb' H', StepO q O Hb H Hb' H' → Ok K q Hb' H' g → Sls K q Hb' H' ρ σ → (∀ p, OwnP ρ σ p → O p ∨ H p = Option.none) → C.bk σ H'
  | .ct ρ, g => ∀ σ Hb' H', StepO q O Hb H Hb' H' → Ok K q Hb' H' g → Sls K q Hb' H' ρ σ → (∀ p, OwnP ρ σ p → O p ∨ H p = Option.none) → C.ct σ H'
def DS (X : Ctx) (q : Option Addr) (ρ : List Sl) {R : Type} (sts : List Stmt) (t : T R) (ε : R → En) : Prop :=
  ∀ σ Hb H g (C : Ends), Ok X.K q Hb H g → Sls X.K q Hb H ρ σ → t.ok g (fun r g' => EnP X.K q (OwnP ρ σ) Hb H C (ε r) g') → wSs X sts C σ H
section
variable {X : Ctx} {q : Option Addr} {ρ : List Sl}
theorem StepO.refl {O : Addr → Prop} {Hb H : Hp} : StepO q O Hb H Hb H := ⟨Same.refl _, fun _ _ h _ _ => h, fun _ _ _ h _ => h⟩
theorem StepO.of {O : Addr → Prop} {Hb H Hb' H' : Hp} (s : Step q Hb H Hb' H') : StepO q O Hb H Hb' H' := ⟨s.ext, fun b o h n _ => s.keep b o h n, fun b o h n _ => s.stay b o h n⟩
theorem StepO.trans {K : PySem.W.Frag} {O O1 : Addr → Prop} {Hb H Hb1 H1 Hb2 H2 : Hp} {g : Nat} (ok1 : Ok K q Hb1 H1 g) (a : StepO q O Hb H Hb1 H1) (hO : ∀ p, O1 p → O p ∨ H p = Option.none) (b : StepO q O1 Hb1 H1 Hb2 H2) : StepO q O Hb H Hb2 H2 := by
  refine ⟨a.ext.trans b.ext, fun c o h n z => ?_, fun c o h n z => ?_⟩
  · refine b.keep c o (a.keep c o h n z) n fun y => ?_
    rcases hO c y with y | y
    · exact z y
    · rw [y] at h; cases h
  · have nO : ¬ O1 c := fun y => by
      rcases hO c y with y | y
      · exact z y
      · rw [y] at h; cases h
    by_cases hq : q = some c
    · obtain ⟨u, e⟩ := (ok1.pool c hq).2.there
      exact b.stay c u e (a.stay c o h n z) nO
    · exact b.stay c o (a.keep c o h hq z) (a.stay c o h n z) nO
/-- the end's wish from a later state -/
theorem enP_after {K : PySem.W.Frag} {O O1 : Addr → Prop} {Hb H Hb1 H1 : Hp} {C : Ends} {e : En} {g g1 : Nat} (ok1 : Ok K q Hb1 H1 g1) (ok0 : ∃ g0, Ok K q Hb H g0) (a : StepO q O Hb H Hb1 H1) (hO : ∀ p, O1 p → O p ∨ H p = Option.none) (h : EnP K q O Hb H C e g) : EnP K q O1 Hb1 H1 C e g := by
  have own : ∀ p, O1 p ∨ H1 p = Option.none → O p ∨ H p = Option.none := fun p hp => by
    rcases hp with hp | hp
    · exact hO p hp
    · refine Classical.byCases (fun z : O p => .inl z) fun z => .inr ?_
      cases e : H p with
      | none => rfl
      | some o =>
        have nq : q ≠ some p := fun y => by
          obtain ⟨u, e2⟩ := (ok1.pool p y).2.there
          rw [hp] at e2; cases e2
        rw [a.keep p o e nq z] at hp; cases hp
  cases e with
  | rt d => exact fun v Hb' H' s o dv => h v Hb' H' (a.trans ok1 hO s) o dv
  | nx ρ => exact fun σ Hb' H' s o sl ow => h σ Hb' H' (a.trans ok1 hO s) o sl fun p hp => own p (ow p hp)
  | bk ρ => exact fun σ Hb' H' s o sl ow => h σ Hb' H' (a.trans ok1 hO s) o sl fun p hp => own p (ow p hp)
  | ct ρ => exact fun σ Hb' H' s o sl ow => h σ Hb' H' (a.trans ok1 hO s) o sl fun p hp => own p (ow p hp)
section
variable {R : Type} {ε : R → En} {rest : List Stmt} {pos : Pos}
/-- forgetting slots -/
def leSl : Sl → Sl → Prop
  | .un, _ => True
  | a, b => a = b
def leR : List Sl → List Sl → Prop
  | [], [] => True
  | a :: l, b :: m => leSl a b ∧ leR l m
  | _, _ => False
theorem leR.len : ∀ {l m : List Sl}, leR l m → l.length = m.length
  | [], [], _ => rfl
  | _ :: _, _ :: _, h => congrArg (· + 1) (leR.len h.2)
theorem leR.get : ∀ {l m : List Sl} {i : Nat} {s : Sl}, leR l m → l[i]? = some s → s = .un ∨ m[i]? = some s
  | a :: l, b :: m, 0, s, h, e => by
    cases e
    cases a with
    | un => exact .inl rfl
    | va d => exact .inr (congrArg some (show Sl.va d = b from h.1).symm)
    | ow d => exact .inr (congrArg some (show Sl.ow d = b from h.1).symm)
    | po => exact .inr (congrArg some (show Sl.po = b from h.1).symm)
    | fz ns => exact .inr (congrArg some (show Sl.fz ns = b from h.1).symm)
  | a :: l, b :: m, i + 1, s, h, e => leR.get (i := i) h.2 e
theorem leR.refl : ∀ l : List Sl, leR l l
  | [] => trivial
  | a :: l => ⟨by cases a <;> first | trivial | rfl, leR.refl l⟩
theorem Sls.le {K : PySem.W.Frag} {Hb H : Hp} {ρ' : List Sl} {σ : L2.St} (h : Sls K q Hb H ρ σ) (l : leR ρ' ρ) : Sls K q Hb H ρ' σ := by
  refine ⟨l.len.trans h.len, fun i sl e => ?_, fun i j ds es p e1 e2 e3 e4 => ?_⟩
  · rcases l.get e with z | z
    · subst z
      have hi : i < σ.length := by
        have := (List.getElem?_eq_some_iff.mp e).1
        rw [l.len, h.len] at this
        exact this
      exact ⟨σ[i], List.getElem?_eq_getElem hi, trivial⟩
    · exact h.rel i sl z
  · rcases l.get e1 with z | z
    · cases z
    · rcases l.get e2 with y | y
      · cases y
      · exact h.sep i j ds es p z y e3 e4
theorem OwnP.le {ρ' : List Sl} {σ : L2.St} {p : Addr} (l : leR ρ' ρ) (h : OwnP ρ' σ p) : OwnP ρ σ p := by
  obtain ⟨i, ds, e1, e2⟩ := h
  rcases l.get e1 with z | z
  · cases z
  · exact ⟨i, ds, z, e2⟩
/-- the block's end -/
theorem ds_nil {r : R} {ρ' : List Sl} (e : ε r = .nx ρ') (l : leR ρ' ρ) : DS X q ρ [] (.ret r) ε := fun σ Hb H g C ok0 sl ht => by
  refine ⟨_, fun z => pss_nil, ?_⟩
  have ht : EnP X.K q (OwnP ρ σ) Hb H C (ε r) g := ht
  rw [e] at ht
  exact ht σ Hb H .refl ok0 (sl.le l) fun p hp => .inl (hp.le l)
theorem ds_cont {r : R} {ρ' : List Sl} (e : ε r = .ct ρ') (l : leR ρ' ρ) : DS X q ρ (.Continue pos :: rest) (.ret r) ε := fun σ Hb H g C ok0 sl ht => by
  refine ⟨_, fun z => pss_cons ps_continue pss_never, ?_⟩
  have ht : EnP X.K q (OwnP ρ σ) Hb H C (ε r) g := ht
  rw [e] at ht
  exact ht σ Hb H .refl ok0 (sl.le l) fun p hp => .inl (hp.le l)
theorem ds_break {r : R} {ρ' : List Sl} (e : ε r = .bk ρ') (l : leR ρ' ρ) : DS X q ρ (.Break pos :: rest) (.ret r) ε := fun σ Hb H g C ok0 sl ht => by
  refine ⟨_, fun z => pss_cons ps_break pss_never, ?_⟩
  have ht : EnP X.K q (OwnP ρ σ) Hb H C (ε r) g := ht
  rw [e] at ht
  exact ht σ Hb H .refl ok0 (sl.le l) fun p hp => .inl (hp.le l)
/-- return e -/
theorem ds_ret {e : Expr} {t : T D} (h : DX X q ρ e t) : DS X q ρ (.Return (some e) pos :: rest) t En.rt := fun σ Hb H g C ok0 sl ht => by
  refine ⟨_, fun z => pss_cons (ps_ret pe_w) pss_never, ?_⟩
  exact h.run ok0 sl ht fun d g1 v Hb1 H1 c1 s1 ok1 sl1 d1 => c1 v Hb1 H1 (.of s1) ok1 d1
theorem ds_retI {e : Expr} {t : T D} {inj : D → R} (hi : ∀ d, ε (inj d) = .rt d) (h : DX X q ρ e t) : DS X q ρ (.Return (some e) pos :: rest) (t.bind fun d => .ret (inj d)) ε := fun σ Hb H g C ok0 sl ht => by
  refine ⟨_, fun z => pss_cons (ps_ret pe_w) pss_never, ?_⟩
  refine h.run ok0 sl (T.ok_bind.mp ht) fun d g1 v Hb1 H1 c1 s1 ok1 sl1 d1 => ?_
  have c1 : EnP X.K q (OwnP ρ σ) Hb H C (ε (inj d)) g1 := c1
  rw [hi] at c1
  exact c1 v Hb1 H1 (.of s1) ok1 d1
theorem ds_retN {inj : R} (hi : ε inj = .rt .none) : DS X q ρ (.Return none pos :: rest) (.ret inj) ε := fun σ Hb H g C ok0 sl ht => by
  refine ⟨_, fun z => pss_cons ps_retN pss_never, ?_⟩
  have ht : EnP X.K q (OwnP ρ σ) Hb H C (ε inj) g := ht
  rw [hi] at ht
  exact ht _ Hb H .refl ok0 .non
/-- x = e -/
theorem ds_asg {i : Nat} {st : Stmt} {t : T D} {k : D → T R} (h : DXA X q ρ i st t) (hk : ∀ d, DS X q (ρ.set i (.va d)) rest (k d) ε) : DS X q ρ (st :: rest) (t.bind k) ε := fun σ Hb H g C ok0 sl ht => by
  refine ⟨_, fun z => pss_cons (ps_wEA (i := i)) pss_w, ?_⟩
  refine h σ Hb H g _ ok0 sl (T.ok_mono (T.ok_bind.mp ht) fun d g1 c1 v Hb1 H1 s1 ok1 d1 => ?_)
  refine hk d (σ.set i (some v)) Hb1 H1 g1 C ok1 ((sl.step s1).setVa d1) (T.ok_mono c1 fun r g' h => enP_after ok1 ⟨g, ok0⟩ (.of s1) (fun p hp => ?_) h)
  obtain ⟨j, ds, e1, e2⟩ := hp
  refine .inl ⟨j, ds, ?_⟩
  by_cases hj : i = j
  · subst hj
    rw [List.getElem?_set] at e1
    split at e1 <;> (try split at e1) <;> simp_all
  · rw [List.getElem?_set_ne hj] at e1 e2
    exact ⟨e1, e2⟩
/-- x = e, a new list that x owns -/
theorem ds_own {i : Nat} {st : Stmt} {t : T (List D)} {k : List D → T R} (h : DFA X q ρ i st t) (hk : ∀ ds, DS X q (ρ.set i (.ow ds)) rest (k ds) ε) : DS X q ρ (st :: rest) (t.bind k) ε := fun σ Hb H g C ok0 sl ht => by
  refine ⟨_, fun z => pss_cons (ps_wEA (i := i)) pss_w, ?_⟩
  refine h σ Hb H g _ ok0 sl (T.ok_mono (T.ok_bind.mp ht) fun ds g1 c1 p vs Hb1 H1 s1 ok1 n1 n2 e1 d1 => ?_)
  have sl1 := sl.step s1
  have np : ∀ (j : Nat) es, ρ[j]? = some (Sl.ow es) → σ[j]? ≠ some (some (V.ref p)) := fun j es e2 e3 => by
    obtain ⟨s, e4, r⟩ := sl.rel j _ e2
    rw [e3] at e4
    cases e4
    obtain ⟨p', vs', y1, y2, _⟩ := r
    cases y1
    rw [n2] at y2; cases y2
  refine hk ds (σ.set i (some (.ref p))) Hb1 H1 g1 C ok1 (sl1.setOw e1 n1 d1 (free_nq ok0 n2) fun j es _ e2 e3 => np j es e2 e3) (T.ok_mono c1 fun r g' h => enP_after ok1 ⟨g, ok0⟩ (.of s1) (fun p' hp => ?_) h)
  obtain ⟨j, ds', f1, f2⟩ := hp
  by_cases hj : i = j
  · subst hj
    rw [List.getElem?_set] at f2
    split at f2
    · split at f2
      · cases f2; exact .inr n2
      · cases f2
    · exact absurd rfl (by assumption)
  · rw [List.getElem?_set_ne hj] at f1 f2
    exact .inl ⟨j, ds', f1, f2⟩
/-- an owned list stands from here on -/
theorem ds_frz (i : Nat) {ds : List D} {sts : List Stmt} {t : T R} (e : ρ[i]? = some (Sl.ow ds)) (hk : DS X q (ρ.set i (.va (.list ds))) sts t ε) : DS X q ρ sts t ε := fun σ Hb H g C ok0 sl ht => by
  obtain ⟨s, e1, r⟩ := sl.rel i _ e
  obtain ⟨p, vs, rfl, h1, h2, h3, h4⟩ := r
  have hO : OwnP ρ σ p := ⟨i, ds, e, e1⟩
  have m := same_upd (o := .lst vs) h2
  have so : StepO q (OwnP ρ σ) Hb H (upd Hb p (.lst vs)) H := ⟨m, fun _ _ h _ _ => h, fun b o hb hn nO => by rw [upd_ne (fun (z : b = p) => nO (by rw [z]; exact hO))]; exact hn⟩
  have ok1 := ok0.frz h1 h2 h4
  have hs : σ = σ.set i (some (.ref p)) := by
    apply List.ext_getElem?
    intro j
    by_cases hj : i = j
    · subst hj
      rw [e1, List.getElem?_set_self (List.getElem?_eq_some_iff.mp e1).1]
    · rw [List.getElem?_set_ne hj]
  have sl1 : Sls X.K q (upd Hb p (.lst vs)) H (ρ.set i (.va (.list ds))) σ := by
    refine ⟨by rw [List.length_set]; exact sl.len, fun j sl' ej => ?_, fun j k ds' es p' e2 e3 e4 e5 => ?_⟩
    · by_cases hj : i = j
      · subst hj
        rw [List.getElem?_set_self (List.getElem?_eq_some_iff.mp e).1] at ej
        cases ej
        exact ⟨_, e1, .ref p, rfl, .lst upd_same (dnAll_mono m _ _ h3)⟩
      · rw [List.getElem?_set_ne hj] at ej
        obtain ⟨s, e2, r⟩ := sl.rel j sl' ej
        refine ⟨s, e2, ?_⟩
        cases sl' with
        | un => trivial
        | va d => obtain ⟨v, y, dv⟩ := r; exact ⟨v, y, dn_mono m _ _ dv⟩
        | po => exact r
        | fz ns => obtain ⟨a, y, h⟩ := r; exact ⟨a, y, m.seq h⟩
        | ow es =>
          obtain ⟨p', vs', y1, y2, y3, y4, y5⟩ := r
          refine ⟨p', vs', y1, y2, ?_, dnAll_mono m _ _ y4, y5⟩
          rw [upd_ne (fun z => hj (sl.sep i j ds es p e ej e1 (by rw [e2, y1, z])))]
          exact y3
    · have nj : i ≠ j := by
        rintro rfl
        rw [List.getElem?_set_self (List.getElem?_eq_some_iff.mp e).1] at e2
        cases e2
      have nk : i ≠ k := by
        rintro rfl
        rw [List.getElem?_set_self (List.getElem?_eq_some_iff.mp e).1] at e3
        cases e3
      rw [List.getElem?_set_ne nj] at e2
      rw [List.getElem?_set_ne nk] at e3
      exact sl.sep j k ds' es p' e2 e3 e4 e5
  refine hk σ _ H g C ok1 sl1 (T.ok_mono ht fun r g' h => enP_after ok1 ⟨g, ok0⟩ so (fun p' hp => ?_) h)
  obtain ⟨j, ds', f1, f2⟩ := hp
  refine .inl ⟨j, ds', ?_, f2⟩
  have nj : i ≠ j := by
    rintro rfl
    rw [List.getElem?_set_self (List.getElem?_eq_some_iff.mp e).1] at f1
    cases f1
  rw [List.getElem?_set_ne nj] at f1
  exact f1
/-- x.append(e), x's own list -/
theorem ds_app (i : Nat) {ds : List D} {x : Str} {px ap cp ep : Pos} {e : Expr} {t : T D} {k : D → T R} (er : ρ[i]? = some (Sl.ow ds)) (hN : X.N[i]? = some x) (hv : Vis X.sc x) (h : DX X q ρ e t)
    (hk : ∀ d, DS X q (ρ.set i (.ow (ds ++ [d]))) rest (k d) ε) (hd : (x == ("__debug__" : Str)) = false := by decide) (hcd : (x == ("__classdict__" : Str)) = false := by decide)
    (hbase : ∀ env : Env, attributeBase (.Name x px) "append" env (eval (.Name x px) env) = eval (.Name x px) env := by intro _; rfl)
    (hfew : ∀ env : Env, ((backTo cp (starEach [e] env)).all (fun x => !x.1) && (backToKw cp (keywordEach [] env)).all (fun x => x.1.isSome)
      && decide ([e].length + ([] : List Keyword).length + (if ([] : List Keyword).isEmpty then 0 else 1) < 30)) = true := by intro _; rfl)
    (hline : (ap.endLine == cp.line) = true := by rfl) (hs : ∀ env : Env, starEach [e] env = (false, eval e env) :: starEach [] env := by intro _; rfl) (hpl : ∀ env : Env, (backTo cp (starEach [] env)).any (·.1) = false := by intro _; rfl)
    (hsw : ∀ env : Env, swapsWith (.Call (.Attribute (.Name x px) "append" ap) [e] [] cp) none ep.line env = pure false := by intro _; rfl) :
    DS X q ρ (.Expr (.Call (.Attribute (.Name x px) "append" ap) [e] [] cp) ep :: rest) (t.bind fun d => .chk ds.length (k d)) ε := fun σ Hb H g C ok0 sl ht => by
  refine ⟨tSeq (tDrop (tBM X.K "list" rAppend (tVar i) (tCons (wE X e) tNil))) (wSs X rest), fun z => pss_cons (ps_expr (pe_bm PySem.F.plainAttrs_list PySem.F.slot_list_append PySem.F.type_list_append mt_append (pe_var hN (by rw [z.hsc]; exact hv) hd hcd) (pa_cons pe_w pa_nil (hs _)) (hbase _) (hfew _) hline (hs _) (hpl _)) (hsw _)) pss_w, ?_⟩
  obtain ⟨s, e1, r⟩ := sl.rel i _ er
  obtain ⟨p, vs, rfl, h1, h2, h3, h4⟩ := r
  refine ⟨_, e1, .inl ⟨rfl, _, SqL.of h1⟩, ?_⟩
  refine h.run ok0 sl (T.ok_bind.mp ht) fun d g1 v Hb1 H1 c1 s1 ok1 sl1 d1 => ?_
  obtain ⟨hz, c1⟩ := T.ok_chk c1
  have f1 : H1 p = some (.lst vs) := s1.keep _ _ h1 h4
  have f2 : Hb1 p = Option.none := s1.stay _ _ h1 h2
  have f3 := dnAll_mono s1.ext _ _ h3
  refine ⟨p, vs, v, rfl, rfl, f1, by rw [DnAll.len f3, sizeLine_eq]; exact hz, ?_⟩
  -- the state behind
  have hO : OwnP ρ σ p := ⟨i, ds, er, e1⟩
  have hi : i < σ.length := (List.getElem?_eq_some_iff.mp e1).1
  have hir : i < ρ.length := (List.getElem?_eq_some_iff.mp er).1
  have so : StepO q (OwnP ρ σ) Hb H Hb1 (upd H1 p (.lst (vs ++ [v]))) :=
    ⟨s1.ext, fun b o hb n nO => by rw [upd_ne (fun (y : b = p) => nO (by rw [y]; exact hO))]; exact s1.keep b o hb n, fun b o hb n _ => s1.stay b o hb n⟩
  have ok2 : Ok X.K q Hb1 (upd H1 p (.lst (vs ++ [v]))) g1 := by
    refine ⟨fun b u hb => ?_, fun a ha => ⟨(ok1.pool a ha).1, (ok1.pool a ha).2.keep (Same.refl _) fun u hu => by rw [upd_ne (fun y => h4 (by rw [ha, y]))]; exact hu⟩⟩
    rw [upd_ne (fun y => by rw [y, f2] at hb; cases hb)]
    exact ok1.sub _ _ hb
  have sl2 : Sls X.K q Hb1 (upd H1 p (.lst (vs ++ [v]))) (ρ.set i (.ow (ds ++ [d]))) σ := by
    refine ⟨by rw [List.length_set]; exact sl.len, fun j sl' ej => ?_, fun j k ds' es p' e2 e3 e4 e5 => ?_⟩
    · by_cases hj : i = j
      · subst hj
        rw [List.getElem?_set_self hir] at ej
        cases ej
        exact ⟨_, e1, p, _, rfl, upd_same, f2, DnAll.app f3 (.cons d1 .nil), h4⟩
      · rw [List.getElem?_set_ne hj] at ej
        obtain ⟨s, e2, r⟩ := sl1.rel j sl' ej
        refine ⟨s, e2, ?_⟩
        cases sl' with
        | un => trivial
        | va d => exact r
        | po => exact r
        | fz ns => exact r
        | ow es =>
          obtain ⟨p', vs', y1, y2, y3, y4, y5⟩ := r
          refine ⟨p', vs', y1, ?_, y3, y4, y5⟩
          rw [upd_ne (fun z => hj (sl.sep i j ds es p er ej e1 (by rw [e2, y1, z])))]
          exact y2
    · have look : ∀ (j : Nat) (es : List D), (ρ.set i (Sl.ow (ds ++ [d])))[j]? = some (Sl.ow es) → ∃ es', ρ[j]? = some (Sl.ow es') := fun j es ej => by
        by_cases hj : i = j
        · subst hj; exact ⟨ds, er⟩
        · rw [List.getElem?_set_ne hj] at ej; exact ⟨es, ej⟩
      obtain ⟨a1, b1⟩ := look j ds' e2
      obtain ⟨a2, b2⟩ := look k es e3
      exact sl.sep j k a1 a2 p' b1 b2 e4 e5
  refine hk d σ Hb1 _ g1 C ok2 sl2 (T.ok_mono c1 fun r g' h => enP_after ok2 ⟨g, ok0⟩ so (fun p' hp => ?_) h)
  obtain ⟨j, ds', f1, f2⟩ := hp
  by_cases hj : i = j
  · subst hj
    exact .inl ⟨i, ds, er, f2⟩
  · rw [List.getElem?_set_ne hj] at f1
    exact .inl ⟨j, ds', f1, f2⟩
/-- if c: A (which never falls through), then the rest -/
theorem ds_ifx {RA : Type} {εA : RA → En} {conv : RA → R} {c : Expr} {A : List Stmt} {tc : T Bool} {tA : T RA} {tr : T R} (hc : DT X q ρ c tc) (hA : DS X q ρ A tA εA) (hn : ∀ r ρ', εA r ≠ .nx ρ') (hv : ∀ r, ε (conv r) = εA r) (hr : DS X q ρ rest tr ε) :
    DS X q ρ (.If c A [] pos :: rest) (tc.bind fun b => if b then tA.bind fun r => .ret (conv r) else tr) ε := fun σ Hb H g C ok0 sl ht => by
  refine ⟨_, fun z => pss_cons (ps_if pt_w pss_w pss_w) pss_w, ?_⟩
  refine hc.run ok0 sl (T.ok_bind.mp ht) fun b g1 Hb1 H1 c1 s1 ok1 sl1 => ?_
  cases b with
  | true =>
    refine iteT (hA σ Hb1 H1 g1 _ ok1 sl1 (T.ok_mono (T.ok_bind.mp c1) fun r g' h => ?_))
    have h : EnP X.K q (OwnP ρ σ) Hb H C (ε (conv r)) g' := h
    rw [hv] at h
    have h2 := enP_after ok1 ⟨g, ok0⟩ (.of s1) (fun p hp => .inl hp) h (O1 := OwnP ρ σ)
    cases e : εA r with
    | nx ρ' => exact absurd e (hn r ρ')
    | rt d => rw [e] at h2; exact h2
    | bk ρ' => rw [e] at h2; exact h2
    | ct ρ' => rw [e] at h2; exact h2
  | false =>
    refine iteF ⟨_, fun z => pss_nil, ?_⟩
    exact hr σ Hb1 H1 g1 C ok1 sl1 (T.ok_mono c1 fun r g' h => enP_after ok1 ⟨g, ok0⟩ (.of s1) (fun p hp => .inl hp) h)
/-- if c: return .., then the rest -/
theorem ds_ifr {c : Expr} {A : List Stmt} {tc : T Bool} {tA tr : T D} (hc : DT X q ρ c tc) (hA : DS X q ρ A tA En.rt) (hr : DS X q ρ rest tr En.rt) : DS X q ρ (.If c A [] pos :: rest) (tc.bind fun b => if b then tA else tr) En.rt := by
  have h := ds_ifx (conv := id) (pos := pos) hc hA (fun r ρ' => by intro e; cases e) (fun r => rfl) hr
  simp only [id, T.bind_ret] at h
  exact h
/-- if c: A else: B, at the block's end -/
theorem ds_ite {c : Expr} {A B : List Stmt} {tc : T Bool} {tA tB : T R} (hc : DT X q ρ c tc) (hA : DS X q ρ A tA ε) (hB : DS X q ρ B tB ε) : DS X q ρ [.If c A B pos] (tc.bind fun b => if b then tA else tB) ε := fun σ Hb H g C ok0 sl ht => by
  refine ⟨_, fun z => pss_one (ps_if pt_w pss_w pss_w), ?_⟩
  refine hc.run ok0 sl (T.ok_bind.mp ht) fun b g1 Hb1 H1 c1 s1 ok1 sl1 => ?_
  cases b with
  | true => exact iteT (hA σ Hb1 H1 g1 C ok1 sl1 (T.ok_mono c1 fun r g' h => enP_after ok1 ⟨g, ok0⟩ (.of s1) (fun p hp => .inl hp) h))
  | false => exact iteF (hB σ Hb1 H1 g1 C ok1 sl1 (T.ok_mono c1 fun r g' h => enP_after ok1 ⟨g, ok0⟩ (.of s1) (fun p hp => .inl hp) h))
/-- if c: A else: B, both fall through, the slots then are env of what they give -/
theorem ds_ifj {S : Type} {env : S → List Sl} {c : Expr} {A B : List Stmt} {tc : T Bool} {tA tB : T S} {k : S → T R} (hc : DT X q ρ c tc) (hA : DS X q ρ A tA fun s => .nx (env s)) (hB : DS X q ρ B tB fun s => .nx (env s)) (hr : ∀ s, DS X q (env s) rest (k s) ε) :
    DS X q ρ (.If c A B pos :: rest) ((tc.bind fun b => if b then tA else tB).bind k) ε := fun σ Hb H g C ok0 sl ht => by
  refine ⟨_, fun z => pss_cons (ps_if pt_w pss_w pss_w) pss_w, ?_⟩
  rw [T.bind_assoc] at ht
  refine hc.run ok0 sl (T.ok_bind.mp ht) fun b g1 Hb1 H1 c1 s1 ok1 sl1 => ?_
  have fin : ∀ s g', (k s).ok g' (fun r g'' => EnP X.K q (OwnP ρ σ) Hb H C (ε r) g'') → EnP X.K q (OwnP ρ σ) Hb1 H1 { C with nx := wSs X rest C } (.nx (env s)) g' := fun s g' h σ2 Hb2 H2 s2 ok2 sl2 ow => by
    refine hr s σ2 Hb2 H2 g' C ok2 sl2 (T.ok_mono h fun r g'' h => enP_after ok2 ⟨g, ok0⟩ (StepO.trans ok1 (.of s1) (fun p hp => .inl hp) s2) (fun p hp => ?_) h)
    rcases ow p hp with y | y
    · exact .inl y
    · exact .inr (by
        cases e : H p with
        | none => rfl
        | some o =>
          have nq : q ≠ some p := free_nq ok1 y
          rw [s1.keep p o e nq] at y; cases y)
  cases b with
  | true => exact iteT (hA σ Hb1 H1 g1 _ ok1 sl1 (T.ok_mono (T.ok_bind.mp c1) fun s g' h => fin s g' h))
  | false => exact iteF (hB σ Hb1 H1 g1 _ ok1 sl1 (T.ok_mono (T.ok_bind.mp c1) fun s g' h => fin s g' h))
/-- a, b, .. = e -/
theorem ds_asgT {π : Type} {ix : List Nat} {tg e : Expr} {t : T D} {dec : D → Option π} {env : π → List Sl} {k : π → T R} (h : DX X q ρ e t) (dg : DG X q ρ ix tg dec env) (hk : ∀ b, DS X q (env b) rest (k b) ε)
    (hs : ∀ env : Env, swapsWithSole [tg] e pos.line env = pure false := by intro _; rfl) (hw : ∀ env : Env, swappedStores [tg] e env = pure none := by intro _; rfl) (h1 : ∀ env : Env, (assignEach [tg] env).map (·.2) = [assign tg env] := by intro _; rfl) :
    DS X q ρ (.Assign [tg] e pos :: rest) (t.bind fun d => (T.opt (dec d)).bind k) ε := fun σ Hb H g C ok0 sl ht => by
  refine ⟨_, fun z => pss_cons (ps_asg pe_w pg_w (hs _) (hw _) (h1 _)) pss_w, ?_⟩
  refine h.run ok0 sl (T.ok_bind.mp ht) fun d g1 v Hb1 H1 c1 s1 ok1 sl1 d1 => ?_
  obtain ⟨b, eb, c1⟩ := opt_ok (T.ok_bind.mp c1)
  refine dg.run v d σ Hb1 H1 g1 _ b ok1 sl1 d1 eb fun σ2 sl2 l2 k2 => ?_
  refine hk b σ2 Hb1 H1 g1 C ok1 sl2 (T.ok_mono c1 fun r g' h => enP_after ok1 ⟨g, ok0⟩ (.of s1) (fun p hp => ?_) h)
  obtain ⟨i, ds, e1, e2⟩ := hp
  obtain ⟨n, e3⟩ := dg.how b i ds e1
  exact .inl ⟨i, ds, e3, by rw [← k2 i n]; exact e2⟩
/-- a, b = e1, e2 of plain local names -/
theorem ds_par {i j : Nat} {x y : Str} {a b : Expr} {ta tb : T D} {px py pt pt2 : Pos} {kt k2 : Nat} {k : D → D → T R} (hN : X.N.Nodup) (hi : X.N[i]? = some x) (hj : X.N[j]? = some y) (hij : i ≠ j)
    (hx : X.sc.names.lookup x = some .local) (hy : X.sc.names.lookup y = some .local) (ha : DX X q ρ a ta) (hb : DX X q ρ b tb) (hk : ∀ c d, DS X q ((ρ.set i (.va c)).set j (.va d)) rest (k c d) ε)
    (hw : ∀ env : Env, env.scope = X.sc → swappedStores [.Tuple [.Name x px, .Name y py] kt pt] (.Tuple [a, b] k2 pt2) env = pure (some [x, y]))
    (hs : ∀ env : Env, swapsWithSole [.Tuple [.Name x px, .Name y py] kt pt] (.Tuple [a, b] k2 pt2) pos.line env = pure false := by intro _; rfl)
    (hs1 : ∀ env : Env, starEach [a, b] env = (false, eval a env) :: starEach [b] env := by intro _; rfl) (hs2 : ∀ env : Env, starEach [b] env = (false, eval b env) :: starEach [] env := by intro _; rfl) :
    DS X q ρ (.Assign [.Tuple [.Name x px, .Name y py] kt pt] (.Tuple [a, b] k2 pt2) pos :: rest) (ta.bind fun c => tb.bind fun d => k c d) ε := fun σ Hb H g C ok0 sl ht => by
  refine ⟨_, fun z => pss_cons (ps_par rfl hN hi hj hij (by rw [z.hsc]; exact hx) (by rw [z.hsc]; exact hy) (pa_cons pe_w (pa_cons pe_w pa_nil (hs2 _)) (hs1 _)) (hw _ z.hsc) (hs _)) pss_w, ?_⟩
  refine ha.run ok0 sl (T.ok_bind.mp ht) fun c g1 v Hb1 H1 c1 s1 ok1 sl1 d1 => ?_
  refine hb.run ok1 sl1 (T.ok_bind.mp c1) fun d g2 v' Hb2 H2 c2 s2 ok2 sl2 d2 => ?_
  refine ⟨v, v', rfl, ?_⟩
  refine hk c d _ Hb2 H2 g2 C ok2 ((sl2.setVa (dn_mono s2.ext _ _ d1)).setVa d2) (T.ok_mono c2 fun r g' h => enP_after ok2 ⟨g, ok0⟩ (.of (s1.trans ok1 s2)) (fun p hp => ?_) h)
  obtain ⟨l, ds, e1, e2⟩ := hp
  refine .inl ⟨l, ds, ?_⟩
  have n1 : j ≠ l := by
    rintro rfl
    rw [List.getElem?_set] at e1
    split at e1 <;> (try split at e1) <;> simp_all
  rw [List.getElem?_set_ne n1] at e1 e2
  have n2 : i ≠ l := by
    rintro rfl
    rw [List.getElem?_set] at e1
    split at e1 <;> (try split at e1) <;> simp_all
  rw [List.getElem?_set_ne n2] at e1 e2
  exact ⟨e1, e2⟩
end
end
end DD
end T_DS

section T_DL
set_option Elab.async false
set_option linter.all false
set_option maxRecDepth 100000
set_option maxHeartbeats 1000000
set_option autoImplicit false
namespace DD
open PySem PySem.Spec L2
open PyProof.Rows hiding St

/-! ### for -/
/-- how a loop's turn ends -/
inductive O (S : Type) where
  | nx (s : S) | ct (s : S) | bk (s : S) | rt (d : D)
def enO {S : Type} (η : S → List Sl) : O S → En
  | .nx s => .nx (η s)
  | .ct s => .ct (η s)
  | .bk s => .bk (η s)
  | .rt d => .rt d
def T.loopM {S : Type} (f : D → S → T (O S)) : List D → S → T (O S)
  | [], s => .ret (.nx s)
  | d :: l, s => (f d s).bind fun o => match o with
    | .nx s' => T.loopM f l s'
    | .ct s' => T.loopM f l s'
    | .bk s' => .ret (.bk s')
    | .rt d => .ret (.rt d)
/-- behind the loop -/
def endO {S R : Type} (k : S → T R) (inj : D → R) : O S → T R
  | .nx s => k s
  | .ct s => k s
  | .bk s => k s
  | .rt d => .ret (inj d)
section
variable {X : Ctx} {q : Option Addr} {ρ : List Sl} {R S π : Type} {ε : R → En} {rest body : List Stmt} {pos : Pos} {tg iter : Expr} {η : S → List Sl} {s0 : S} {ts : T (List D)} {ix : List Nat} {dec : D → Option π} {env : S → π → List Sl}
theorem ds_forO {tb : S → π → T (O S)} {k : S → T R} {inj : D → R} (di : DI X q ρ tg iter ts) (h0 : leR (η s0) ρ) (dg : ∀ s, DG X q (η s) ix tg dec (env s)) (hb : ∀ s b, DS X q (env s b) body (tb s b) (enO η)) (hr : ∀ s, DS X q (η s) rest (k s) ε)
    (hi : ∀ d, ε (inj d) = .rt d) (hs : ∀ (env : Env) (x : Value), foldedSetIterable iter env x = pure x := by intro _ _; rfl) :
    DS X q ρ (.For tg iter body [] pos :: rest) (ts.bind fun ds => (T.loopM (fun d s => (T.opt (dec d)).bind (tb s)) ds s0).bind (endO k inj)) ε := fun σ Hb H g C ok0 sl ht => by
  refine ⟨tSeq (tFor (wI X tg iter) (wG X tg) (wSs X body)) (wSs X rest), fun z => pss_cons (ps_for PassesOwn.never rfl pi_w pg_w pss_w (hs _)) pss_w, ?_⟩
  refine di σ Hb H g _ ok0 sl (T.ok_mono (T.ok_bind.mp ht) fun ds g1 c1 J Hb1 H1 s1 ok1 wk => ?_)
  generalize hPv : (fun (i : Nat) (σ2 : L2.St) (H2 : Hp) => ∃ s Hb2 g2, StepO q (OwnP ρ σ) Hb H Hb2 H2 ∧ Same Hb1 Hb2 ∧ Ok X.K q Hb2 H2 g2 ∧ Sls X.K q Hb2 H2 (η s) σ2 ∧ (∀ p, OwnP (η s) σ2 p → OwnP ρ σ p ∨ H p = Option.none) ∧
    ((T.loopM (fun d s => (T.opt (dec d)).bind (tb s)) (ds.drop i) s).bind (endO k inj)).ok g2 (fun r g' => EnP X.K q (OwnP ρ σ) Hb H C (ε r) g')) = Pv
  refine ⟨fun i m σ2 H2 => m = ds.length - i ∧ i ≤ ds.length ∧ Pv i σ2 H2, ⟨ds.length, rfl, Nat.zero_le _, ?_⟩, ?_⟩
  · subst hPv
    exact ⟨s0, Hb1, g1, .of s1, Same.refl _, ok1, (sl.step s1).le h0, fun p hp => .inl (hp.le h0), c1⟩
  rintro i m σ2 H2 ⟨rfl, hi', pv⟩
  rw [← hPv] at pv
  obtain ⟨s, Hb2, g2, s2, m2, ok2, sl2, ow2, c2⟩ := pv
  obtain ⟨wgo, wstop⟩ := wk i Hb2 H2 g2 m2 ok2
  -- behind the loop
  have fin : ∀ (s : S) (σ3 : L2.St) (Hb3 H3 : Hp) (g3 : Nat), StepO q (OwnP ρ σ) Hb H Hb3 H3 → Ok X.K q Hb3 H3 g3 → Sls X.K q Hb3 H3 (η s) σ3 → (∀ p, OwnP (η s) σ3 p → OwnP ρ σ p ∨ H p = Option.none) →
      (k s).ok g3 (fun r g' => EnP X.K q (OwnP ρ σ) Hb H C (ε r) g') → wSs X rest C σ3 H3 := fun s σ3 Hb3 H3 g3 s3 ok3 sl3 ow3 c3 =>
    hr s σ3 Hb3 H3 g3 C ok3 sl3 (T.ok_mono c3 fun r g' h => enP_after ok3 ⟨g, ok0⟩ s3 ow3 h)
  by_cases hlt : i < ds.length
  · refine .inr ?_
    obtain ⟨go, yl⟩ := wgo _ (List.getElem?_eq_getElem hlt)
    refine ⟨go, Pv (i + 1), fun σ' H' p => ⟨ds.length - (i + 1), by omega, rfl, hlt, p⟩, fun x H3 y => ?_⟩
    obtain ⟨Hb3, s3, ok3, dx⟩ := yl x H3 y
    rw [List.drop_eq_getElem_cons hlt] at c2
    have so3 : StepO q (OwnP ρ σ) Hb H Hb3 H3 := StepO.trans ok2 s2 ow2 (.of s3)
    have c3 := T.ok_bind.mp (T.ok_bind.mp c2)
    obtain ⟨b, eb, c3⟩ := opt_ok (T.ok_bind.mp c3)
    refine (dg s).run x ds[i] σ2 Hb3 H3 g2 _ b ok3 (sl2.step s3) dx eb fun σ3 sl3 l3 k3 => ?_
    have ow3 : ∀ p, OwnP (env s b) σ3 p → OwnP ρ σ p ∨ H p = Option.none := fun p ⟨j, ds', e1, e2⟩ => by
      obtain ⟨n, e3⟩ := (dg s).how b j ds' e1
      exact ow2 p ⟨j, ds', e3, by rw [← k3 j n]; exact e2⟩
    have own : ∀ {σ4 : L2.St} {ρ4 : List Sl}, (∀ p, OwnP ρ4 σ4 p → OwnP (env s b) σ3 p ∨ H3 p = Option.none) → ∀ p, OwnP ρ4 σ4 p → OwnP ρ σ p ∨ H p = Option.none := fun {σ4 ρ4} h p hp => by
      rcases h p hp with y | y
      · exact ow3 p y
      · refine Classical.byCases (fun z : OwnP ρ σ p => .inl z) fun z => .inr ?_
        cases e : H p with
        | none => rfl
        | some o => rw [so3.keep p o e (free_nq ok3 y) z] at y; cases y
    refine hb s b σ3 Hb3 H3 g2 _ ok3 sl3 (T.ok_mono c3 fun o g' h => ?_)
    cases o with
    | nx s' =>
      intro σ4 Hb4 H4 s4 ok4 sl4 ow4
      show Pv (i + 1) σ4 H4
      subst hPv
      exact ⟨s', Hb4, g', StepO.trans ok3 so3 ow3 s4, (m2.trans s3.ext).trans s4.ext, ok4, sl4, own ow4, T.ok_bind.mpr h⟩
    | ct s' =>
      intro σ4 Hb4 H4 s4 ok4 sl4 ow4
      show Pv (i + 1) σ4 H4
      subst hPv
      exact ⟨s', Hb4, g', StepO.trans ok3 so3 ow3 s4, (m2.trans s3.ext).trans s4.ext, ok4, sl4, own ow4, T.ok_bind.mpr h⟩
    | bk s' =>
      intro σ4 Hb4 H4 s4 ok4 sl4 ow4
      exact fin s' σ4 Hb4 H4 g' (StepO.trans ok3 so3 ow3 s4) ok4 sl4 (own ow4) h
    | rt d =>
      intro v Hb4 H4 s4 ok4 dv
      have h : EnP X.K q (OwnP ρ σ) Hb H C (ε (inj d)) g' := h
      rw [hi] at h
      exact h v Hb4 H4 (StepO.trans ok3 so3 ow3 s4) ok4 dv
  · have e : i = ds.length := by omega
    subst e
    refine .inl ⟨wstop (Nat.le_refl _), ?_⟩
    rw [List.drop_length] at c2
    exact fin s σ2 Hb2 H2 g2 s2 ok2 sl2 ow2 c2
theorem loop_fold {f : D → S → T S} : ∀ (ds : List D) (s : S), T.loopM (fun d s => (f d s).bind fun s' => .ret (.nx s')) ds s = (T.foldM f ds s).bind fun s' => .ret (.nx s')
  | [], s => rfl
  | d :: ds, s => by
    unfold T.loopM T.foldM
    rw [T.bind_assoc, T.bind_assoc]
    congr 1
    funext s'
    exact loop_fold ds s'
/-- a loop whose turns fall through -/
theorem ds_for {tb : S → π → T S} {k : S → T R} (di : DI X q ρ tg iter ts) (h0 : leR (η s0) ρ) (dg : ∀ s, DG X q (η s) ix tg dec (env s)) (hb : ∀ s b, DS X q (env s b) body (tb s b) fun s' => .nx (η s')) (hr : ∀ s, DS X q (η s) rest (k s) ε)
    (inj : D → R) (hi : ∀ d, ε (inj d) = .rt d) (hs : ∀ (env : Env) (x : Value), foldedSetIterable iter env x = pure x := by intro _ _; rfl) :
    DS X q ρ (.For tg iter body [] pos :: rest) (ts.bind fun ds => (T.foldM (fun d s => (T.opt (dec d)).bind (tb s)) ds s0).bind k) ε := by
  have h := ds_forO (pos := pos) (tb := fun s b => (tb s b).bind fun s' => .ret (.nx s')) (inj := inj) di h0 dg (fun s b σ Hb H g C ok0 sl ht => hb s b σ Hb H g C ok0 sl (T.ok_mono (T.ok_bind.mp ht) fun s' g' h => h)) hr hi hs
  have e : (fun (d : D) (s : S) => (T.opt (dec d)).bind fun b => (tb s b).bind fun s' => T.ret (O.nx s')) = fun d s => ((T.opt (dec d)).bind (tb s)).bind fun s' => T.ret (O.nx s') := by
    funext d s
    rw [T.bind_assoc]
  rw [e] at h
  simp only [loop_fold] at h
  simp only [T.bind_assoc, T.ret_bind, endO] at h
  skip
  exact h
end

/-! ### defs -/
/-- what a def is worth: n arguments, m of them -/
def spI (K : PySem.W.Frag) (n : Nat) (m : List D → T D) : Sp := fun vs H Q _ => ∃ q Hb g ds, Ok K q Hb H g ∧ DnAll K Hb vs ds ∧ ds.length = n ∧ (m ds).ok g (PD K q Hb H Q)
/-- .. whose first argument is the pool -/
def spP (K : PySem.W.Frag) (n : Nat) (m : List D → T D) : Sp := fun vs H Q _ => ∃ a vs' Hb g ds, vs = .ref a :: vs' ∧ Ok K (some a) Hb H g ∧ DnAll K Hb vs' ds ∧ ds.length = n ∧ (m ds).ok g (PD K (some a) Hb H Q)
structure Fd (P : Program) (w : World) (K : PySem.W.Frag) (mg : Str → Option Value) (k : Nat) (x : Str) (sp : Sp) : Prop where
  ex : ∃ f fd ps, mg x = some (.ref f) ∧ PySem.W.keepIn K (.ref f) = true ∧ Binds K fd ps [] ∧ ∀ base, FnOk P w K mg base CX0 k f fd ps sp
section
variable {X : Ctx} {q : Option Addr} {ρ : List Sl} {pos p p2 : Pos} {x y : Str} {k : Nat} {e e1 e2 e3 e4 : Expr} {es : List Expr} {t1 t2 t3 t4 : T D}
theorem dx_call {n : Nat} {m : List D → T D} {ts : T (List D)} (F : Fd X.P X.w X.K X.mg k x (spI X.K n m)) (hr : Room k X.A) (hg : Gb X x) (ha : DA X q ρ (e :: es) ts) (hn : ∀ (g : Nat) (C : List D → Nat → Prop), ts.ok g C → ts.ok g fun ds g' => ds.length = n ∧ C ds g') (hdb : (x == ("__debug__" : Str)) = false := by decide)
    (he : ∀ env : Env, starEach (e :: es) env = (false, eval e env) :: starEach es env := by intro _; rfl) (hpl : ∀ env : Env, (backTo pos (starEach es env)).any (·.1) = false := by intro _; rfl) :
    DX X q ρ (.Call (.Name x p) (e :: es) [] pos) (ts.bind m) := fun σ Hb H g Q ok0 sl ht => by
  obtain ⟨f, fd, ps, hm, hk, hb, F⟩ := F.ex
  refine ⟨tCall (spI X.K n m) [] E0 (wA X (e :: es)), fun z => pe_call (F _) hr (hg.gl z) hm hk hb .nil pass0 pa_w hdb (he _) (hpl _), ?_⟩
  refine ha.run ok0 sl (hn _ _ (T.ok_bind.mp ht)) fun ds g1 vs Hb1 H1 c1 s1 ok1 sl1 d1 => ?_
  show spI X.K n m (vs ++ []) H1 Q E0
  rw [List.append_nil]
  exact ⟨q, Hb1, g1, ds, ok1, d1, c1.1, T.ok_mono c1.2 fun d g' h => pd_after ok1 s1 h⟩
/-- functions of one to five data -/
def ar1 (m : D → T D) : List D → T D | [a] => m a | _ => .fail
def ar2 (m : D → D → T D) : List D → T D | [a, b] => m a b | _ => .fail
def ar3 (m : D → D → D → T D) : List D → T D | [a, b, c] => m a b c | _ => .fail
def ar4 (m : D → D → D → D → T D) : List D → T D | [a, b, c, d] => m a b c d | _ => .fail
theorem len1 {t : T D} {g : Nat} {C : List D → Nat → Prop} (h : (t.bind fun a => T.ret [a]).ok g C) : (t.bind fun a => T.ret [a]).ok g fun ds g' => ds.length = 1 ∧ C ds g' := T.ok_bind.mpr (T.ok_mono (T.ok_bind.mp h) fun a g' h => ⟨rfl, h⟩)
theorem dx_call1 {m : D → T D} (F : Fd X.P X.w X.K X.mg k x (spI X.K 1 (ar1 m))) (hr : Room k X.A) (hg : Gb X x) (h1 : DX X q ρ e1 t1) (hdb : (x == ("__debug__" : Str)) = false := by decide)
    (he1 : ∀ env : Env, starEach [e1] env = (false, eval e1 env) :: starEach [] env := by intro _; rfl) (hpl : ∀ env : Env, (backTo pos (starEach [] env)).any (·.1) = false := by intro _; rfl) :
    DX X q ρ (.Call (.Name x p) [e1] [] pos) (t1.bind m) := by
  have h := dx_call (p := p) (pos := pos) F hr hg (da_cons h1 da_nil he1) (fun g C h => by
    simp only [T.ret_bind] at h ⊢
    exact len1 h) hdb he1 hpl
  simp only [T.bind_assoc, T.ret_bind] at h
  exact h
theorem dx_call2 {m : D → D → T D} (F : Fd X.P X.w X.K X.mg k x (spI X.K 2 (ar2 m))) (hr : Room k X.A) (hg : Gb X x) (h1 : DX X q ρ e1 t1) (h2 : DX X q ρ e2 t2) (hdb : (x == ("__debug__" : Str)) = false := by decide)
    (he1 : ∀ env : Env, starEach [e1, e2] env = (false, eval e1 env) :: starEach [e2] env := by intro _; rfl) (he2 : ∀ env : Env, starEach [e2] env = (false, eval e2 env) :: starEach [] env := by intro _; rfl) (hpl : ∀ env : Env, (backTo pos (starEach [e2] env)).any (·.1) = false := by intro _; rfl) :
    DX X q ρ (.Call (.Name x p) [e1, e2] [] pos) (t1.bind fun a => t2.bind fun b => m a b) := by
  have h := dx_call (p := p) (pos := pos) F hr hg (da_cons h1 (da_cons h2 da_nil he2) he1) (fun g C h => by
    simp only [T.ret_bind, T.bind_assoc] at h ⊢
    exact T.ok_bind.mpr (T.ok_mono (T.ok_bind.mp h) fun a g' h => T.ok_bind.mpr (T.ok_mono (T.ok_bind.mp h) fun b g'' h => ⟨rfl, h⟩))) hdb he1 hpl
  simp only [T.bind_assoc, T.ret_bind] at h
  exact h
theorem dx_call3 {m : D → D → D → T D} (F : Fd X.P X.w X.K X.mg k x (spI X.K 3 (ar3 m))) (hr : Room k X.A) (hg : Gb X x) (h1 : DX X q ρ e1 t1) (h2 : DX X q ρ e2 t2) (h3 : DX X q ρ e3 t3) (hdb : (x == ("__debug__" : Str)) = false := by decide)
    (he1 : ∀ env : Env, starEach [e1, e2, e3] env = (false, eval e1 env) :: starEach [e2, e3] env := by intro _; rfl) (he2 : ∀ env : Env, starEach [e2, e3] env = (false, eval e2 env) :: starEach [e3] env := by intro _; rfl) (he3 : ∀ env : Env, starEach [e3] env = (false, eval e3 env) :: starEach [] env := by intro _; rfl)
    (hpl : ∀ env : Env, (backTo pos (starEach [e2, e3] env)).any (·.1) = false := by intro _; rfl) :
    DX X q ρ (.Call (.Name x p) [e1, e2, e3] [] pos) (t1.bind fun a => t2.bind fun b => t3.bind fun c => m a b c) := by
  have h := dx_call (p := p) (pos := pos) F hr hg (da_cons h1 (da_cons h2 (da_cons h3 da_nil he3) he2) he1) (fun g C h => by
    simp only [T.ret_bind, T.bind_assoc] at h ⊢
    exact T.ok_bind.mpr (T.ok_mono (T.ok_bind.mp h) fun a g' h => T.ok_bind.mpr (T.ok_mono (T.ok_bind.mp h) fun b g'' h => T.ok_bind.mpr (T.ok_mono (T.ok_bind.mp h) fun b g'' h => ⟨rfl, h⟩)))) hdb he1 hpl
  simp only [T.bind_assoc, T.ret_bind] at h
  exact h
/-- the pool's slot -/
theorem pv_po (i : Nat) {x : Str} {σ : L2.St} {Hb H : Hp} (e : ρ[i]? = some Sl.po) (sl : Sls X.K q Hb H ρ σ) : ∃ a, q = some a ∧ σ[i]? = some (some (.ref a)) := by
  obtain ⟨s, e1, a, h1, h2⟩ := sl.rel i _ e
  exact ⟨a, h1, by rw [e1, h2]⟩
/-- f(pool, e, ..) -/
theorem dx_callP (i : Nat) {n : Nat} {m : List D → T D} {ts : T (List D)} (F : Fd X.P X.w X.K X.mg k x (spP X.K n m)) (hr : Room k X.A) (hg : Gb X x) (hp : ρ[i]? = some Sl.po) (hN : X.N[i]? = some y) (hv : Vis X.sc y) (ha : DA X q ρ es ts) (hn : ∀ (g : Nat) (C : List D → Nat → Prop), ts.ok g C → ts.ok g fun ds g' => ds.length = n ∧ C ds g')
    (hdb : (x == ("__debug__" : Str)) = false := by decide) (hd : (y == ("__debug__" : Str)) = false := by decide) (hcd : (y == ("__classdict__" : Str)) = false := by decide)
    (he : ∀ env : Env, starEach (.Name y p2 :: es) env = (false, eval (.Name y p2) env) :: starEach es env := by intro _; rfl) (hpl : ∀ env : Env, (backTo pos (starEach es env)).any (·.1) = false := by intro _; rfl) :
    DX X q ρ (.Call (.Name x p) (.Name y p2 :: es) [] pos) (ts.bind m) := fun σ Hb H g Q ok0 sl ht => by
  obtain ⟨f, fd, ps, hm, hk, hb, F⟩ := F.ex
  refine ⟨tCall (spP X.K n m) [] E0 (tCons (tVar i) (wA X es)), fun z => pe_call (F _) hr (hg.gl z) hm hk hb .nil pass0 (pa_cons (pe_var hN (by rw [z.hsc]; exact hv) hd hcd) pa_w (he _)) hdb (he _) (hpl _), ?_⟩
  obtain ⟨a, rfl, e1⟩ := pv_po (x := y) i hp sl
  refine ⟨_, e1, ?_⟩
  refine ha.run ok0 sl (hn _ _ (T.ok_bind.mp ht)) fun ds g1 vs Hb1 H1 c1 s1 ok1 sl1 d1 => ?_
  show spP X.K n m (.ref a :: vs ++ []) H1 Q E0
  rw [List.append_nil]
  exact ⟨a, vs, Hb1, g1, ds, rfl, ok1, d1, c1.1, T.ok_mono c1.2 fun d g' h => pd_after ok1 s1 h⟩
def ar0 (m : T D) : List D → T D | [] => m | _ => .fail
theorem dx_callP0 (i : Nat) {m : T D} (F : Fd X.P X.w X.K X.mg k x (spP X.K 0 (ar0 m))) (hr : Room k X.A) (hg : Gb X x) (hp : ρ[i]? = some Sl.po) (hN : X.N[i]? = some y) (hv : Vis X.sc y)
    (hdb : (x == ("__debug__" : Str)) = false := by decide) (hd : (y == ("__debug__" : Str)) = false := by decide) (hcd : (y == ("__classdict__" : Str)) = false := by decide)
    (he : ∀ env : Env, starEach [.Name y p2] env = (false, eval (.Name y p2) env) :: starEach [] env := by intro _; rfl) (hpl : ∀ env : Env, (backTo pos (starEach [] env)).any (·.1) = false := by intro _; rfl) :
    DX X q ρ (.Call (.Name x p) [.Name y p2] [] pos) m := dx_callP (p := p) (p2 := p2) (pos := pos) i F hr hg hp hN hv da_nil (fun g C h => ⟨rfl, h⟩) hdb hd hcd he hpl
theorem dx_callP1 (i : Nat) {m : D → T D} (F : Fd X.P X.w X.K X.mg k x (spP X.K 1 (ar1 m))) (hr : Room k X.A) (hg : Gb X x) (hp : ρ[i]? = some Sl.po) (hN : X.N[i]? = some y) (hv : Vis X.sc y) (h1 : DX X q ρ e1 t1)
    (hdb : (x == ("__debug__" : Str)) = false := by decide) (hd : (y == ("__debug__" : Str)) = false := by decide) (hcd : (y == ("__classdict__" : Str)) = false := by decide)
    (he : ∀ env : Env, starEach [.Name y p2, e1] env = (false, eval (.Name y p2) env) :: starEach [e1] env := by intro _; rfl) (he1 : ∀ env : Env, starEach [e1] env = (false, eval e1 env) :: starEach [] env := by intro _; rfl) (hpl : ∀ env : Env, (backTo pos (starEach [e1] env)).any (·.1) = false := by intro _; rfl) :
    DX X q ρ (.Call (.Name x p) [.Name y p2, e1] [] pos) (t1.bind m) := by
  have h := dx_callP (p := p) (p2 := p2) (pos := pos) i F hr hg hp hN hv (da_cons h1 da_nil he1) (fun g C h => by
    simp only [T.ret_bind] at h ⊢
    exact len1 h) hdb hd hcd he hpl
  simp only [T.bind_assoc, T.ret_bind] at h
  exact h
theorem dx_callP2 (i : Nat) {m : D → D → T D} (F : Fd X.P X.w X.K X.mg k x (spP X.K 2 (ar2 m))) (hr : Room k X.A) (hg : Gb X x) (hp : ρ[i]? = some Sl.po) (hN : X.N[i]? = some y) (hv : Vis X.sc y) (h1 : DX X q ρ e1 t1) (h2 : DX X q ρ e2 t2)
    (hdb : (x == ("__debug__" : Str)) = false := by decide) (hd : (y == ("__debug__" : Str)) = false := by decide) (hcd : (y == ("__classdict__" : Str)) = false := by decide)
    (he : ∀ env : Env, starEach [.Name y p2, e1, e2] env = (false, eval (.Name y p2) env) :: starEach [e1, e2] env := by intro _; rfl) (he1 : ∀ env : Env, starEach [e1, e2] env = (false, eval e1 env) :: starEach [e2] env := by intro _; rfl)
    (he2 : ∀ env : Env, starEach [e2] env = (false, eval e2 env) :: starEach [] env := by intro _; rfl) (hpl : ∀ env : Env, (backTo pos (starEach [e1, e2] env)).any (·.1) = false := by intro _; rfl) :
    DX X q ρ (.Call (.Name x p) [.Name y p2, e1, e2] [] pos) (t1.bind fun a => t2.bind fun b => m a b) := by
  have h := dx_callP (p := p) (p2 := p2) (pos := pos) i F hr hg hp hN hv (da_cons h1 (da_cons h2 da_nil he2) he1) (fun g C h => by
    simp only [T.ret_bind, T.bind_assoc] at h ⊢
    exact T.ok_bind.mpr (T.ok_mono (T.ok_bind.mp h) fun a g' h => T.ok_bind.mpr (T.ok_mono (T.ok_bind.mp h) fun b g'' h => ⟨rfl, h⟩))) hdb hd hcd he hpl
  simp only [T.bind_assoc, T.ret_bind] at h
  exact h
end
/-- a def keeps its promise, by its body -/
def bodyX (P : Program) (w : World) (K : PySem.W.Frag) (mg : Str → Option Value) (A : Around) (N : List Str) (st : Stmt) : Ctx := ⟨P, w, K, mg, A, N, defScope st, fun _ => true⟩
def argSl (N : List Str) (ds : List D) : List Sl := ds.map .va ++ List.replicate (N.length - ds.length) .un
theorem sls_start {K : PySem.W.Frag} {q : Option Addr} {Hb H : Hp} {N : List Str} {vs : List V} {ds : List D} (h : DnAll K Hb vs ds) : Sls K q Hb H (argSl N ds) (L2.start N vs) := by
  have hl := DnAll.len h
  have key : ∀ (i : Nat) ds', (argSl N ds)[i]? ≠ some (Sl.ow ds') := fun i ds' e => by
    unfold argSl at e
    rw [List.getElem?_append] at e
    split at e
    · rw [List.getElem?_map] at e
      cases z : ds[i]? with
      | none => rw [z] at e; cases e
      | some s => rw [z] at e; cases e
    · rw [List.getElem?_replicate] at e
      split at e <;> cases e
  refine ⟨?_, fun i sl e => ?_, fun i j a b p e1 _ _ _ => absurd e1 (key i a)⟩
  · unfold argSl L2.start
    simp only [List.length_append, List.length_map, List.length_replicate, hl]
  · unfold argSl at e
    unfold L2.start
    rw [List.getElem?_append] at e ⊢
    simp only [List.length_map, hl] at e ⊢
    split at e
    · rename_i hlt
      rw [if_pos hlt]
      rw [List.getElem?_map] at e ⊢
      cases z : ds[i]? with
      | none => rw [z] at e; cases e
      | some d =>
        rw [z] at e
        cases e
        obtain ⟨v, h1, h2⟩ := DnAll.get h z
        exact ⟨some v, by rw [h1] <;> rfl, v, rfl, h2⟩
    · rename_i hlt
      rw [if_neg hlt]
      rw [List.getElem?_replicate] at e ⊢
      split at e
      · cases e
        rename_i h2
        exact ⟨none, by rw [if_pos h2], trivial⟩
      · cases e
section
variable {P : Program} {w : World} {K : PySem.W.Frag} {mg : Str → Option Value} {x qual : Str} {st : Stmt} {f : Addr} {fd : FuncData} {N ps : List Str} {k n : Nat} {m : List D → T D}
theorem argSl_now {N : List Str} (ds : List D) (i : Nat) (ds' : List D) : (argSl N ds)[i]? ≠ some (Sl.ow ds') := fun e => by
  unfold argSl at e
  rw [List.getElem?_append] at e
  split at e
  · rw [List.getElem?_map] at e
    cases z : ds[i]? with
    | none => rw [z] at e; cases e
    | some s => rw [z] at e; cases e
  · rw [List.getElem?_replicate] at e
    split at e <;> cases e
theorem fn_deep (F : Fun K x qual st f fd) (S : FnScope N ps (defScope st)) (hps : ps.length = n) (body : ∀ A q ds, Room k A → ds.length = n → DS (bodyX P w K mg A N st) q (argSl N ds) (defBody st) (m ds) En.rt) (base : Heap) :
    FnOk P w K mg base CX0 (k + 1) f fd ps (spI K n m) := by
  refine F.ok S (fun vs H Q E ⟨q, Hb, g, ds, _, h1, h2, _⟩ => by rw [DnAll.len h1, h2, hps]) (fun cdv A outer s H vs Q E hr ⟨q, Hb, g, ds, ok0, h1, h2, h3⟩ => ?_)
  have noow : ∀ p, ¬ OwnP (argSl N ds) (L2.start N vs) p := fun p ⟨i, ds', e, _⟩ => argSl_now ds i ds' e
  obtain ⟨u, hu, q1⟩ := body (A.deeper (envOfC qual (defScope st) s.heap.objs.size f cdv)) q ds hr h2 (L2.start N vs) Hb H g { nx := fun _ H' => Q .non H', rt := Q } ok0 (sls_start h1)
    (T.ok_mono h3 fun d g' h v Hb' H' so ok' dv => h v Hb' H' ⟨so.ext, fun b o hb n => so.keep b o hb n (noow b), fun b o hb n => so.stay b o hb n (noow b)⟩ ok' dv)
  exact ⟨u, hu ⟨base, s, H, envOfC qual (defScope st) s.heap.objs.size f cdv, outer, envOfC qual (defScope st) s.heap.objs.size f cdv :: outer, [], [], rfl⟩, q1⟩
theorem fn_deepP (F : Fun K x qual st f fd) (S : FnScope N ps (defScope st)) (hps : ps.length = n + 1) (body : ∀ A a ds, Room k A → ds.length = n → DS (bodyX P w K mg A N st) (some a) ((argSl N (.none :: ds)).set 0 .po) (defBody st) (m ds) En.rt) (base : Heap) :
    FnOk P w K mg base CX0 (k + 1) f fd ps (spP K n m) := by
  have noow : ∀ (ds : List D) (i : Nat) (ds' : List D), ((argSl N (.none :: ds)).set 0 .po)[i]? ≠ some (Sl.ow ds') := fun ds i ds' e => by
    by_cases hi : 0 = i
    · subst hi
      rw [List.getElem?_set] at e
      split at e <;> (try split at e) <;> simp_all
    · rw [List.getElem?_set_ne hi] at e
      unfold argSl at e
      rw [List.getElem?_append] at e
      split at e
      · rw [List.getElem?_map] at e
        cases z : (PyData.none :: ds)[i]? with
        | none => rw [z] at e; cases e
        | some s => rw [z] at e; cases e
      · rw [List.getElem?_replicate] at e
        split at e <;> cases e
  refine F.ok S (fun vs H Q E ⟨a, vs', Hb, g, ds, e, _, h1, h2, _⟩ => by rw [e, List.length_cons, DnAll.len h1, h2, hps]) (fun cdv A outer s H vs Q E hr ⟨a, vs', Hb, g, ds, e, ok0, h1, h2, h3⟩ => ?_)
  subst e
  have sl : Sls K (some a) Hb H ((argSl N (.none :: ds)).set 0 .po) (L2.start N (.ref a :: vs')) := by
    have s0 := sls_start (K := K) (q := some a) (Hb := Hb) (H := H) (N := N) (.cons .non h1)
    refine ⟨?_, fun i sl e => ?_, fun i j b c p e1 _ _ _ => absurd e1 (noow ds i b)⟩
    · rw [List.length_set, s0.len]
      unfold L2.start
      rfl
    · by_cases hi : 0 = i
      · subst hi
        rw [List.getElem?_set] at e
        split at e
        · split at e
          · cases e
            exact ⟨some (.ref a), rfl, a, rfl, rfl⟩
          · cases e
        · exact absurd rfl (by assumption)
      · rw [List.getElem?_set_ne hi] at e
        obtain ⟨v, e1, r⟩ := s0.rel i sl e
        refine ⟨v, ?_, r⟩
        rw [← e1]
        cases i with
        | zero => exact absurd rfl hi
        | succ i => rfl
  have now2 : ∀ p, ¬ OwnP ((argSl N (.none :: ds)).set 0 .po) (L2.start N (.ref a :: vs')) p := fun p ⟨i, ds', e, _⟩ => noow ds i ds' e
  obtain ⟨u, hu, q1⟩ := body (A.deeper (envOfC qual (defScope st) s.heap.objs.size f cdv)) a ds hr h2 (L2.start N (.ref a :: vs')) Hb H g { nx := fun _ H' => Q .non H', rt := Q } ok0 sl
    (T.ok_mono h3 fun d g' h v Hb' H' so ok' dv => h v Hb' H' ⟨so.ext, fun b o hb n => so.keep b o hb n (now2 b), fun b o hb n => so.stay b o hb n (now2 b)⟩ ok' dv)
  exact ⟨u, hu ⟨base, s, H, envOfC qual (defScope st) s.heap.objs.size f cdv, outer, envOfC qual (defScope st) s.heap.objs.size f cdv :: outer, [], [], rfl⟩, q1⟩
end
end DD
end T_DL

section T_DQ
set_option Elab.async false
set_option linter.all false
set_option maxRecDepth 100000
set_option maxHeartbeats 1000000
set_option autoImplicit false
namespace DD
open PySem PySem.Spec L2
open PyProof.Rows hiding St

/-! ### sorting, plainly -/
/-- x may stand ahead of y -/
def leS (x y : D) : Bool := !PySem.W.dataLt y x
def insD (x : D) : List D → List D
  | [] => [x]
  | y :: l => if leS x y then x :: y :: l else y :: insD x l
def srtD : List D → List D
  | [] => []
  | x :: l => insD x (srtD l)
theorem leS_total : PySem.W.TotalLe leS := PySem.W.sortLe_total (PyProof.Rows.listOrd PyProof.Rows.itemOrd) false PySem.W.keyToks
theorem dataLe_leS : PySem.W.dataLe false (fun d : D => d) = leS := rfl
theorem ins_at {x : D} : ∀ {l1 l2 : List D}, (∀ b ∈ l1, leS x b = false) → (∀ b ∈ l2, leS x b = true) → insD x (l1 ++ l2) = l1 ++ x :: l2
  | [], [], _, _ => rfl
  | [], y :: l2, _, h => by
    show (if leS x y then x :: y :: l2 else y :: insD x l2) = _
    rw [if_pos (h y List.mem_cons_self)] <;> rfl
  | y :: l1, l2, h, h2 => by
    show (if leS x y then x :: y :: (l1 ++ l2) else y :: insD x (l1 ++ l2)) = _
    rw [if_neg (by rw [h y List.mem_cons_self]; exact Bool.false_ne_true), ins_at (fun b hb => h b (List.mem_cons_of_mem _ hb)) h2] <;> rfl
theorem srt_merge : ∀ l : List D, l.mergeSort leS = srtD l
  | [] => List.mergeSort_nil
  | x :: l => by
    have tr : ∀ a b c, leS a b = true → leS b c = true → leS a c = true := leS_total.trans
    have to : ∀ a b, (leS a b || leS b a) = true := fun a b => Bool.or_eq_true_iff.mpr (leS_total.total a b)
    obtain ⟨l1, l2, h1, h2, h3⟩ := List.mergeSort_cons tr to x l
    have pw := List.pairwise_mergeSort tr to (x :: l)
    rw [h1] at pw
    have pw2 := (List.pairwise_append.mp pw).2.1
    have e : srtD l = l1 ++ l2 := by rw [← srt_merge l]; exact h2
    rw [h1]
    show _ = insD x (srtD l)
    rw [e]
    refine (ins_at (fun b hb => ?_) fun b hb => (List.pairwise_cons.mp pw2).1 b hb).symm
    have q := h3 b hb
    simpa using q
theorem srt_perm (l : List D) : (srtD l).Perm l := by rw [← srt_merge]; exact List.mergeSort_perm _ _
theorem srt_len (l : List D) : (srtD l).length = l.length := (srt_perm l).length_eq
/-- data that can be sorted -/
def alikeL (ds : List D) : Bool := ds.all fun d => ds.all fun e => PySem.W.alike d e
def headed : D → Bool
  | .tuple (_ :: _) => true
  | _ => false
def bare : D → Bool
  | .none => false
  | .tuple _ => false
  | _ => true
def okSort (ds : List D) : Bool := alikeL ds && (ds.all headed || ds.all bare) && ds.all fun d => d.depth ≤ 32
theorem alikeL_all {ds : List D} (h : alikeL ds = true) : PySem.W.AllAlike ds := fun d hd e he => List.all_eq_true.mp (List.all_eq_true.mp h d hd) e he
theorem sortable_of {ds : List D} (h : (ds.all headed || ds.all bare) = true) : PySem.W.Sortable ds := by
  rcases Bool.or_eq_true_iff.mp h with z | z
  · refine .inl fun d hd => ?_
    have q := List.all_eq_true.mp z d hd
    unfold headed at q
    split at q
    · exact ⟨_, _, rfl⟩
    · cases q
  · refine .inr fun d hd => ?_
    have q := List.all_eq_true.mp z d hd
    cases d <;> first
      | (cases q; done)
      | exact ⟨fun e => (nomatch e), fun xs e => (nomatch e)⟩
theorem okSort_of {ds : List D} (h : okSort ds = true) : PySem.W.AllAlike ds ∧ PySem.W.Sortable ds ∧ ∀ d ∈ ds, d.depth ≤ 32 := by
  unfold okSort at h
  rw [Bool.and_eq_true, Bool.and_eq_true] at h
  exact ⟨alikeL_all h.1.1, sortable_of h.1.2, fun d hd => of_decide_eq_true (List.all_eq_true.mp h.2 d hd)⟩

/-! ### sorted(..) of whatever can be gathered -/
mutual
theorem reads_lt {h : Heap} : ∀ (d : D) (v : Value) (as : List Addr), Reads h v d as → ∀ a ∈ as, a < h.objs.size
  | .none, _, _, r => by cases r; intro a ha; cases ha
  | .bool _, _, _, r => by cases r; intro a ha; cases ha
  | .int _, _, _, r => by cases r; intro a ha; cases ha
  | .str _, _, _, r => by cases r; intro a ha; cases ha
  | .list xs, _, _, r => by
    cases r with
    | list h1 h2 h3 h4 =>
      intro a ha
      rcases List.mem_cons.mp ha with e | e
      · rw [e]; exact Heap.lt_size h1
      · exact reads_ltA xs _ _ h4 a e
  | .tuple xs, _, _, r => by
    cases r with
    | tuple h1 h2 h3 h4 => exact reads_ltA xs _ _ h4
  | .dict kvs, _, _, r => by
    cases r with
    | dict h1 h2 h3 h4 h5 =>
      intro a ha
      rcases List.mem_append.mp ha with e | e
      · rcases List.mem_cons.mp e with e | e
        · rw [e]; exact Heap.lt_size h1
        · exact reads_ltK kvs _ _ h4 a e
      · exact reads_ltV kvs _ _ h5 a e
theorem reads_ltA {h : Heap} : ∀ (ds : List D) (vs : List Value) (as : List Addr), ReadsAll h vs ds as → ∀ a ∈ as, a < h.objs.size
  | [], _, _, r => by cases r; intro a ha; cases ha
  | d :: ds, _, _, r => by
    cases r with
    | cons h1 h2 =>
      intro a ha
      rcases List.mem_append.mp ha with e | e
      · exact reads_lt d _ _ h1 a e
      · exact reads_ltA ds _ _ h2 a e
theorem reads_ltK {h : Heap} : ∀ (ds : List (D × D)) (vs : List Value) (as : List Addr), ReadsAll h vs (ds.map (·.1)) as → ∀ a ∈ as, a < h.objs.size
  | [], _, _, r => by cases r; intro a ha; cases ha
  | (d, d2) :: ds, _, _, r => by
    rw [List.map_cons] at r
    cases r with
    | cons h1 h2 =>
      intro a ha
      rcases List.mem_append.mp ha with e | e
      · exact reads_lt d _ _ h1 a e
      · exact reads_ltK ds _ _ h2 a e
theorem reads_ltV {h : Heap} : ∀ (ds : List (D × D)) (vs : List Value) (as : List Addr), ReadsAll h vs (ds.map (·.2)) as → ∀ a ∈ as, a < h.objs.size
  | [], _, _, r => by cases r; intro a ha; cases ha
  | (d, d2) :: ds, _, _, r => by
    rw [List.map_cons] at r
    cases r with
    | cons h1 h2 =>
      intro a ha
      rcases List.mem_append.mp ha with e | e
      · exact reads_lt d2 _ _ h1 a e
      · exact reads_ltV ds _ _ h2 a e
end
section
variable {P : Program} {w : World} {A : Around} {E : Value → Shared → Prop} {s : Shared}
/-- values, what they are for the walk, and the data for which they stand -/
abbrev Trip := V × D
def TripR (v : Value) (b : Trip) : Prop := RelV b.1 v
theorem sorted_of {v : Value} {K : List Value → Shared → Prop} {Q : Value → Shared → Prop} (hcol : ∀ R : List Value → Shared → Prop, (∀ vs s1, K vs s1 → R vs s1) → wpAny (model P w) A.in1 (collect v) R E s)
    (hK : ∀ vs s1, K vs s1 → ∃ bs : List Trip, PySem.W.EachIs TripR vs bs ∧ PySem.W.EachIs (fun v (b : Trip) => ∃ as, Reads s1.heap v b.2 as) vs bs ∧ okSort (bs.map (·.2)) = true ∧ bs.length ≤ sizeLine ∧
      ∀ (out : List Value) (bs' : List Trip) (h' : Heap) (c : Nat), PySem.W.EachIs TripR out bs' → bs'.Perm bs → bs'.map (·.2) = srtD (bs.map (·.2)) → (∀ b o, s1.heap.get? b = some o → h'.get? b = some o) → h'.get? s1.heap.objs.size = some (seqObj "list" out.toArray c) → Q (.ref s1.heap.objs.size) { s1 with heap := h' })
    (hu : A.units + 64 < cLine) : wpAny (model P w) A (call (.builtin "sorted") [v]) Q E s := by
  refine Calls.call_function_entry kind_sorted plain_sorted entry_sorted (args_sorted1 _) ?_
  unfold Builtin.«sorted»
  refine wpAny_bind (m := checkCount "sorted" 1 1 _) (wpAny_pure ?_)
  refine wpAny_bind (hcol _ fun vs s1 k => ?_)
  obtain ⟨bs, e1, e2, e3, e4, e5⟩ := hK vs s1 k
  obtain ⟨a1, a2, a3⟩ := okSort_of e3
  have hlen : vs.length = bs.length := e1.length
  refine wpAny_bind (wpAny_newList ?_ (by omega))
  have hoL : (s1.heap.push (seqObj "list" vs.toArray 0)).get? s1.heap.objs.size = some (seqObj "list" vs.toArray 0) := Heap.get?_push_size _ rfl
  have er : PySem.W.EachIs (fun v (b : Trip) => ∃ as, Reads (s1.heap.push (seqObj "list" vs.toArray 0)) v b.2 as ∧ s1.heap.objs.size ∉ as) vs bs := e2.mono fun u b ⟨as, r⟩ =>
    ⟨as, PyProof.Rows.Reads.keeps (fun _ _ e => Heap.get?_push_of_some _ e) r, fun m => Nat.lt_irrefl _ (reads_lt _ _ _ r _ m)⟩
  refine wpAny_bind (wpAny_holding (PySem.W.list_sort_data (s := { s1 with heap := s1.heap.push (seqObj "list" vs.toArray 0) }) (R := TripR) (enc := fun b : Trip => b.2) hoL e1 er a1 a2 e4 (fun b hb => ?_) fun out ho eo => ?_))
  · have q := a3 b.2 (List.mem_map.mpr ⟨b, hb, rfl⟩)
    have q' : (PyData.depth (Prod.snd b)) ≤ 32 := q
    show A.in1.units + 1 + b.2.depth < cLine
    have e : A.in1.units ≤ A.units + 1 := by simp [Around.units, Around.in1]
    omega
  · obtain ⟨c, hc⟩ := sortedHeap_at (out := out.toArray) hoL
    refine wpAny_pure ⟨_, rfl, e5 out (bs.mergeSort (PySem.W.dataLe false fun b : Trip => b.2)) _ c eo (List.mergeSort_perm _ _) ?_ (fun b o e => ?_) hc⟩
    · rw [← srt_merge]
      exact List.map_mergeSort fun a _ b _ => rfl
    · have hlt := Heap.lt_size e
      rw [sortedHeap_old (Nat.ne_of_lt hlt) (by rw [size_push']; exact Nat.lt_succ_of_lt hlt)]
      exact Heap.get?_push_of_some _ e
/-- a list's or a tuple's items, gathered -/
theorem collect_seq {l : Addr} {o : Obj} {vs : List Value} {n : Nat} {R : List Value → Shared → Prop} (ho : s.heap.get? l = some o) (hc : o.cls = .type "list" ∨ o.cls = .type "tuple") (hd : o.data = .seq vs.toArray n) (hz : vs.length ≤ sizeLine)
    (h : R vs { s with heap := (s.heap.push (seqObj "list" #[] 0)).update s.heap.objs.size (Obj.mapSeq (· ++ vs.toArray)) }) : wpAny (model P w) A (collect (.ref l)) R E s := by
  have ho' : (s.heap.push (seqObj "list" #[] 0)).get? l = some o := Heap.get?_push_of_some _ ho
  have ho2 : (s.heap.push (seqObj "list" #[] 0)).get? s.heap.objs.size = some (seqObj "list" #[] 0) := Heap.get?_push_size _ rfl
  unfold collect
  refine wpAny_bind (wpAny_runValue (codeAny_builtin entry_proto_collect' ?_))
  show wpAny _ _ (newList [] >>= fun x => again (.builtin "list.__iadd__" ⟨[x, .ref l], []⟩)) _ _ s
  refine wpAny_bind (wpAny_newList (wpAny_pure ⟨Code.quiet_builtin _ (by decide +kernel), codeAny_builtin entry_list_iadd' ?_⟩))
  show wpAny _ _ (Builtin.List.listExtendWith (.ref s.heap.objs.size) (.ref l) (.ref s.heap.objs.size)) _ _ { s with heap := s.heap.push (seqObj "list" #[] 0) }
  unfold Builtin.List.listExtendWith
  rcases hc with hc | hc
  · refine wpAny_bind (wpAny_typeOf (T := "list") ⟨o, ho', hc⟩ ?_)
    rw [if_pos (by simp [show (Value.type "list" == Value.type "list") = true from by decide])]
    refine wpAny_bind (listItems_at ho' hd ?_)
    refine wpAny_bind (listItems_at ho2 rfl ?_)
    rw [if_neg (by simp)]
    refine wpAny_bind (listUpdate_at ho2 rfl ?_ (Nat.zero_le _) (by simp only [Array.size_append, List.size_toArray, List.length_nil]; omega))
    refine wpAny_pure ?_
    refine wpAny_bind (wpAny_load (get?_update_seq ho2 _) ?_)
    refine wpAny_pure ?_
    simpa using h
  · refine wpAny_bind (wpAny_typeOf (T := "tuple") ⟨o, ho', hc⟩ ?_)
    rw [if_pos (by simp [show (Value.type "tuple" == Value.type "tuple") = true from by decide])]
    refine wpAny_bind (listItems_at ho' hd ?_)
    refine wpAny_bind (listItems_at ho2 rfl ?_)
    rw [if_neg (by simp)]
    refine wpAny_bind (listUpdate_at ho2 rfl ?_ (Nat.zero_le _) (by simp only [Array.size_append, List.size_toArray, List.length_nil]; omega))
    refine wpAny_pure ?_
    refine wpAny_bind (wpAny_load (get?_update_seq ho2 _) ?_)
    refine wpAny_pure ?_
    simpa using h
end

/-! ### the layer's words -/
theorem trips_vals : ∀ {out : List Value} {bs : List Trip}, PySem.W.EachIs TripR out bs → Vals (bs.map (·.1)) out
  | _, _, .nil => .nil
  | _, _, .cons h t => .cons h (trips_vals t)
theorem trips_of {K : PySem.W.Frag} {H : Hp} : ∀ {xs : List V} {us : List Value} {ds : List D}, Vals xs us → DpAll K H xs ds → PySem.W.EachIs TripR us (xs.zip ds)
  | [], _, _, .nil, h => by cases h; exact .nil
  | x :: xs, _, _, .cons r t, h => by
    cases h with
    | cons h1 h2 => exact .cons r (trips_of t h2)
theorem trips_reads {X : Cx} {pins : List (Addr × Obj)} {σ : L2.St} {H : Hp} {s : Shared} (I : Inv X pins σ H s) : ∀ {xs : List V} {us : List Value} {ds : List D}, Vals xs us → DpAll X.K H xs ds → PySem.W.EachIs (fun v (b : Trip) => ∃ as, Reads s.heap v b.2 as) us (xs.zip ds)
  | [], _, _, .nil, h => by cases h; exact .nil
  | x :: xs, _, _, .cons r t, h => by
    cases h with
    | cons h1 h2 => exact .cons (Dp.reads I _ _ _ h1 r) (trips_reads I t h2)
theorem dp_len {K : PySem.W.Frag} {H : Hp} : ∀ {xs : List V} {ds : List D}, DpAll K H xs ds → xs.length = ds.length
  | [], _, h => by cases h; rfl
  | _ :: _, _, h => by
    cases h with
    | cons h1 h2 => rw [List.length_cons, List.length_cons, dp_len h2]
theorem zip_snd {xs : List V} {ds : List D} (h : xs.length = ds.length) : (xs.zip ds).map (·.2) = ds := List.map_snd_zip (Nat.le_of_eq h.symm)
/-- sorted(xs), a list's or a tuple's data -/
def rSortD (K : PySem.W.Frag) : List V → Hp → VK → Prop := fun vs H Q => ∃ a xs ds, vs = [.ref a] ∧ (SqL K H a xs ∨ SqT K H a xs) ∧ DpAll K H xs ds ∧ okSort ds = true ∧
  ∀ (bs : List Trip) p, bs.Perm (xs.zip ds) → bs.map (·.2) = srtD ds → H p = none → Q (.ref p) (upd H p (.lst (bs.map (·.1))))
theorem cr_sortD {X : Cx} (hu : X.A.units + 64 < cLine) : CallR X (.builtin "sorted") (rSortD X.K) := by
  intro pins s σ H vs us Q I r h
  obtain ⟨a, xs, ds, rfl, hs, hd, hk, q⟩ := h
  rw [Vals.ref1 r]
  obtain ⟨its, rv, hz, o, n, ho, hc, hdt⟩ : ∃ its : List Value, Vals xs its ∧ xs.length ≤ sizeLine ∧ ∃ o n, s.heap.get? a = some o ∧ (o.cls = .type "list" ∨ o.cls = .type "tuple") ∧ o.data = .seq its.toArray n := by
    rcases hs with hs | hs
    · obtain ⟨its, rv, hl, hz⟩ := I.list hs
      obtain ⟨o, h1, h2, n, h3⟩ := hl.isList
      exact ⟨its, rv, hz, o, n, h1, .inl h2, h3⟩
    · obtain ⟨its, rv, ⟨o, h1, h2, n, h3⟩, hz⟩ := I.tuple hs
      exact ⟨its, rv, hz, o, n, h1, .inr h2, h3⟩
  refine sorted_of (K := fun vs s1 => vs = its ∧ s1 = { s with heap := (s.heap.push (seqObj "list" #[] 0)).update s.heap.objs.size (Obj.mapSeq (· ++ its.toArray)) }) (fun R hR => collect_seq ho hc hdt (by rw [← rv.length]; exact hz) (hR _ _ ⟨rfl, rfl⟩)) (fun vs s1 ⟨e1, e2⟩ => ?_) hu
  subst e1
  subst e2
  have keep : ∀ b u, s.heap.get? b = some u → ((s.heap.push (seqObj "list" #[] 0)).update s.heap.objs.size (Obj.mapSeq (· ++ vs.toArray))).get? b = some u := fun b u e => by
    rw [Heap.get?_update_ne _ _ _ _ (Nat.ne_of_lt (Heap.lt_size e))]
    exact Heap.get?_push_of_some _ e
  have hsz : ((s.heap.push (seqObj "list" #[] 0)).update s.heap.objs.size (Obj.mapSeq (· ++ vs.toArray))).objs.size = s.heap.objs.size + 1 := by rw [Heap.size_update, size_push']
  have hl := dp_len hd
  refine ⟨xs.zip ds, trips_of rv hd, (trips_reads I rv hd).mono fun v b ⟨as, r⟩ => ⟨as, PyProof.Rows.Reads.keeps keep r⟩, by rw [zip_snd hl]; exact hk, by rw [List.length_zip, ← hl, Nat.min_self]; exact hz, fun out bs' h' c e1 e2 e3 e4 e5 => ?_⟩
  rw [zip_snd hl] at e3
  have hp : s.heap.objs.size ≤ s.heap.objs.size + 1 := Nat.le_succ _
  have hn : H (s.heap.objs.size + 1) = none := I.hok.fresh hp
  dsimp only at e4 e5 ⊢
  rw [hsz] at e5 ⊢
  refine ⟨.ref (s.heap.objs.size + 1), upd H (s.heap.objs.size + 1) (.lst (bs'.map (·.1))), I.laid (t' := s.toks) (fun b u e => e4 b u (keep b u e)) hp ⟨?_, out, c, trips_vals e1, e5⟩, rfl, q bs' _ e2 e3 hn⟩
  rw [List.length_map, e2.length_eq, List.length_zip, ← hl, Nat.min_self]
  exact hz
theorem trips_dn {K : PySem.W.Frag} {H : Hp} {xs : List V} {ds : List D} (h : DnAll K H xs ds) : ∀ b ∈ xs.zip ds, Dn K H b.1 b.2 := by
  induction xs generalizing ds with
  | nil => intro b hb; cases hb
  | cons x xs ih =>
    cases h with
    | cons h1 h2 =>
      intro b hb
      rcases List.mem_cons.mp hb with e | e
      · rw [e]; exact h1
      · exact ih h2 b e
theorem dn_trips {K : PySem.W.Frag} {H : Hp} : ∀ (bs : List Trip), (∀ b ∈ bs, Dn K H b.1 b.2) → DnAll K H (bs.map (·.1)) (bs.map (·.2))
  | [], _ => .nil
  | b :: bs, h => .cons (h b List.mem_cons_self) (dn_trips bs fun c hc => h c (List.mem_cons_of_mem _ hc))
/-- sorted(x): a new list -/
def sortedD : D → T (List D)
  | .list ds => .need (okSort ds) (.ret (srtD ds))
  | .tuple ds => .need (okSort ds) (.ret (srtD ds))
  | _ => .fail
section
variable {X : Ctx} {q : Option Addr} {ρ : List Sl} {pos p : Pos} {e : Expr}
theorem df_sorted {t : T D} (hu : X.A.units + 64 < cLine) (hg : Gb X "sorted") (hm : X.mg "sorted" = none) (h : DX X q ρ e t) (he : ∀ env : Env, starEach [e] env = (false, eval e env) :: starEach [] env := by intro _; rfl)
    (hpl : ∀ env : Env, (backTo pos (starEach [] env)).any (·.1) = false := by intro _; rfl) : DF X q ρ (.Call (.Name "sorted" p) [e] [] pos) (t.bind sortedD) := fun σ Hb H g Q ok0 sl ht => by
  refine ⟨tCB (rSortD X.K) (tCons (wE X e) tNil), fun z => pe_callB (cr_sortD (X := X.at z) hu) (hg.gl z) hm (by decide +kernel) (pa_cons pe_w pa_nil (he _)) (by decide) (by decide) (he _) (hpl _), ?_⟩
  refine h.run ok0 sl (T.ok_bind.mp ht) fun d g1 v Hb1 H1 c1 s1 ok1 sl1 d1 => ?_
  have go : ∀ (a : Addr) (xs : List V) (ds : List D), v = .ref a → (SqL X.K H1 a xs ∨ SqT X.K H1 a xs) → DnAll X.K Hb1 xs ds → (T.need (okSort ds) (T.ret (srtD ds))).ok g1 (PF X.K q Hb H Q) → rSortD X.K [v] H1 Q := fun a xs ds e hs hd c => by
    obtain ⟨k, c⟩ := T.ok_need c
    refine ⟨a, xs, ds, by rw [e], hs, DnAll.dp _ _ (dnAll_mono ok1.sub _ _ hd), k, fun bs l hp hs2 hl => ?_⟩
    refine c l _ Hb1 _ (s1.trans ok1 (.own hl)) (ok1.own hl) (ok1.sub.free hl) (step_free ok0 s1 (free_nq ok1 hl) hl) upd_same ?_
    rw [← hs2]
    exact dn_trips bs fun b hb => trips_dn hd b (hp.mem_iff.mp hb)
  cases d1 with
  | lst e1 a1 => exact go _ _ _ rfl (.inl (SqL.of (ok1.sub _ _ e1))) a1 c1
  | tup e1 a1 => exact go _ _ _ rfl (.inr (sqT_mono ok1.sub e1)) a1 c1
  | _ => exact c1.elim
end
end DD
end T_DQ

section T_DK
set_option Elab.async false
set_option linter.all false
set_option maxRecDepth 100000
set_option maxHeartbeats 1000000
set_option autoImplicit false
namespace DD
open PySem PySem.Spec L2
open PyProof.Rows hiding St

/-! ### what a table asks of its keys -/
section
variable {P : Program} {w : World}
def OfCls (P : Program) (w : World) (n : Nat) (s : Shared) (v : Value) : Prop := ∀ (A : Around) (E : Value → Shared → Prop) (Q : Bool → Shared → Prop), Q false s → wpAny (model P w) A (ofAClassStatement n v) Q E s
def HByV (P : Program) (w : World) (n : Nat) (s : Shared) (v : Value) : Prop := ∀ (A : Around) (E : Value → Shared → Prop) (Q : Bool → Shared → Prop), (∀ b, Q b s) → wpAny (model P w) A (hashByValue n v) Q E s
theorem cls_leaf {n : Nat} {s : Shared} {v : Value} (h : ∀ m, ofAClassStatement m v = pure false) : OfCls P w n s v := fun A E Q q => by
  rw [h]
  exact wpAny_pure q
theorem hby_leaf {n : Nat} {s : Shared} {v : Value} (h : ∀ m, ∃ b, hashByValue m v = pure b) : HByV P w n s v := fun A E Q q => by
  obtain ⟨b, e⟩ := h n
  rw [e]
  exact wpAny_pure (q b)
theorem cls_tup {n : Nat} {s : Shared} {a : Addr} {o : Obj} {vs : Array Value} {m : Nat} (ho : s.heap.get? a = some o) (hc : o.cls = .type "tuple") (hd : o.data = .seq vs m) (hv : ∀ v ∈ vs.toList, OfCls P w n s v) : OfCls P w (n + 1) s (.ref a) := fun A E Q q => by
  unfold ofAClassStatement
  refine wpAny_bind (wpAny_typeOf (T := "tuple") ⟨o, ho, hc⟩ ?_)
  dsimp only
  rw [show (("tuple" : String) == "tuple") = true from by decide]
  try simp only [if_true]
  try refine wpAny_bind (wpAny_pure ?_)
  try simp only [Bool.not_true, Bool.false_eq_true, if_false]
  refine wpAny_bind (wpAny_seqItems ho hd ?_)
  dsimp only
  refine wpAny_bind ?_
  rw [← Array.forIn_toList]
  refine wpAny_forIn_list _ (fun rest r s' => r.1 = none ∧ s' = s ∧ ∀ v ∈ rest, OfCls P w n s v) _ ?_ ?_ _ _ ⟨rfl, rfl, hv⟩
  · intro v rest r s' ⟨h1, h2, h3⟩
    subst h2
    refine wpAny_bind (h3 v List.mem_cons_self _ _ _ ?_)
    simp only [Bool.false_eq_true, if_false]
    exact wpAny_pure ⟨rfl, rfl, fun u hu => h3 u (List.mem_cons_of_mem _ hu)⟩
  · intro ⟨r1, r2⟩ s' ⟨h1, h2, _⟩
    simp only at h1
    subst h1
    subst h2
    exact wpAny_pure q
theorem hby_tup {n : Nat} {s : Shared} {a : Addr} {o : Obj} {vs : Array Value} {m : Nat} (ho : s.heap.get? a = some o) (hc : o.cls = .type "tuple") (hd : o.data = .seq vs m) (hv : ∀ v ∈ vs.toList, HByV P w n s v) : HByV P w (n + 1) s (.ref a) := fun A E Q q => by
  unfold hashByValue
  refine wpAny_bind (wpAny_specialOf (T := "tuple") ⟨o, ho, hc⟩ PySem.F.slot_tuple_hash.lookup ?_)
  dsimp only
  refine wpAny_bind (wpAny_seqItems ho hd ?_)
  dsimp only [Option.getD]
  refine wpAny_bind ?_
  rw [← Array.forIn_toList]
  refine wpAny_forIn_list _ (fun rest r s' => s' = s ∧ ∀ v ∈ rest, HByV P w n s v) _ ?_ ?_ _ _ ⟨rfl, hv⟩
  · intro v rest r s' ⟨h2, h3⟩
    subst h2
    refine wpAny_bind (h3 v List.mem_cons_self _ _ _ fun b => ?_)
    cases b with
    | true =>
      simp only [Bool.not_true, Bool.false_eq_true, if_false]
      exact wpAny_pure ⟨rfl, fun u hu => h3 u (List.mem_cons_of_mem _ hu)⟩
    | false =>
      simp only [Bool.not_false, if_true]
      exact wpAny_pure (wpAny_pure (q _))
  · intro ⟨r1, r2⟩ s' ⟨h2, _⟩
    subst h2
    cases r1 with
    | none => exact wpAny_pure (q _)
    | some b => exact wpAny_pure (q _)
mutual
theorem key_cls : ∀ (k : NestedKey) (v : Value) (n : Nat) (s : Shared), NestedIs s.heap k v → k.depth ≤ n → OfCls P w n s v
  | .none, _, n, s, h, _ => by cases h; exact cls_leaf fun m => by cases m <;> rfl
  | .num i, _, n, s, h, _ => by
    cases h with
    | bool e => exact cls_leaf fun m => by cases m <;> rfl
    | int _ t => exact cls_leaf fun m => by cases m <;> rfl
  | .text x, _, n, s, h, _ => by cases h; exact cls_leaf fun m => by cases m <;> rfl
  | .tup ks, _, 0, s, h, hd => by simp [NestedKey.depth] at hd
  | .tup ks, _, n + 1, s, h, hd => by
    cases h with
    | tup h1 h2 h3 h4 => exact cls_tup h1 h2 h3 (keys_cls ks _ n s h4 (by simpa [NestedKey.depth] using hd))
theorem keys_cls : ∀ (ks : List NestedKey) (vs : List Value) (n : Nat) (s : Shared), NestedAll s.heap ks vs → NestedKey.depthAll ks ≤ n → ∀ v ∈ vs, OfCls P w n s v
  | [], _, n, s, h, _ => by cases h; intro v hv; cases hv
  | k :: ks, _, n, s, h, hd => by
    cases h with
    | cons h1 h2 =>
      simp only [NestedKey.depthAll] at hd
      intro v hv
      rcases List.mem_cons.mp hv with e | e
      · rw [e]; exact key_cls k _ n s h1 (by omega)
      · exact keys_cls ks _ n s h2 (by omega) v e
end
mutual
theorem key_hby : ∀ (k : NestedKey) (v : Value) (n : Nat) (s : Shared), NestedIs s.heap k v → k.depth ≤ n → HByV P w n s v
  | .none, _, n, s, h, _ => by cases h; exact hby_leaf fun m => by cases m <;> exact ⟨_, rfl⟩
  | .num i, _, n, s, h, _ => by
    cases h with
    | bool e => exact hby_leaf fun m => by cases m <;> exact ⟨_, rfl⟩
    | int _ t => exact hby_leaf fun m => by cases m <;> exact ⟨_, rfl⟩
  | .text x, _, n, s, h, _ => by cases h; exact hby_leaf fun m => by cases m <;> exact ⟨_, rfl⟩
  | .tup ks, _, 0, s, h, hd => by simp [NestedKey.depth] at hd
  | .tup ks, _, n + 1, s, h, hd => by
    cases h with
    | tup h1 h2 h3 h4 => exact hby_tup h1 h2 h3 (keys_hby ks _ n s h4 (by simpa [NestedKey.depth] using hd))
theorem keys_hby : ∀ (ks : List NestedKey) (vs : List Value) (n : Nat) (s : Shared), NestedAll s.heap ks vs → NestedKey.depthAll ks ≤ n → ∀ v ∈ vs, HByV P w n s v
  | [], _, n, s, h, _ => by cases h; intro v hv; cases hv
  | k :: ks, _, n, s, h, hd => by
    cases h with
    | cons h1 h2 =>
      simp only [NestedKey.depthAll] at hd
      intro v hv
      rcases List.mem_cons.mp hv with e | e
      · rw [e]; exact key_hby k _ n s h1 (by omega)
      · exact keys_hby ks _ n s h2 (by omega) v e
end
end

/-! ### a set and its members -/
abbrev Ent := Value × NestedKey
def hrows (w : World) (L : List Ent) : List (Int × Value) := L.map fun p => (p.2.hash w, p.1)
abbrev hss (w : World) (L : List Ent) : List Int := L.map fun p => p.2.hash w
/-- L: the members, in the table's order -/
structure SD (w : World) (h : Heap) (a : Addr) (L : List Ent) (es : Array (Int × Value)) (ep : Nat) (t : SetTable) : Prop where
  ob : ∃ o, h.get? a = some o ∧ o.ExactSet ∧ o.data = .set es ep t
  rows : es.toList = hrows w L
  ris : Ris t.place.toList
  fits : t.fits es.size = true
  led : w.params.followText "set-order" = true ∨ t.led = true
  nd : (L.map (·.2)).Nodup
  few : L.length < 64
/-- ints and texts -/
def nkK : Key → NestedKey
  | .inl i => .num i
  | .inr x => .text x
def ScE (p : Ent) : Prop := ∃ k : Key, p.2 = nkK k ∧ RelV (kV k) p.1
/-- tuples -/
def TbE (h : Heap) (p : Ent) : Prop := ∃ b ks, p.1 = .ref b ∧ p.2 = .tup ks ∧ NestedIs h p.2 p.1 ∧ p.2.depth ≤ 8
structure TbL (w : World) (h : Heap) (L : List Ent) (t : SetTable) : Prop where
  tab : TabOk t (hss w L)
  room : L.length * 5 < t.mask * 3
  each : ∀ p ∈ L, TbE h p
theorem hrows_size {w : World} {L : List Ent} {es : Array (Int × Value)} (h : es.toList = hrows w L) : es.size = L.length := by
  have q := congrArg List.length h
  unfold hrows at q
  rw [Array.length_toList, List.length_map] at q
  exact q
theorem hrows_at {w : World} {L : List Ent} {es : Array (Int × Value)} (h : es.toList = hrows w L) {i : Nat} {p : Ent} (e : L[i]? = some p) : es[i]? = some (p.2.hash w, p.1) := by
  rw [← Array.getElem?_toList, h]
  unfold hrows
  rw [List.getElem?_map, e] <;> rfl
/-- a rearrangement of pictures is the picture of a rearrangement -/
theorem perm_pic {α β : Type} {f : α → β} {m n : List β} (h : m.Perm n) : ∀ l : List α, n = l.map f → ∃ l' : List α, l'.Perm l ∧ m = l'.map f := by
  induction h with
  | nil =>
    intro l e
    cases l with
    | nil => exact ⟨[], .nil, rfl⟩
    | cons x l => cases e
  | cons x _ ih =>
    intro l e
    cases l with
    | nil => cases e
    | cons y l =>
      rw [List.map_cons] at e
      obtain ⟨e1, e2⟩ := List.cons.inj e
      obtain ⟨l', p, q⟩ := ih l e2
      exact ⟨y :: l', p.cons y, by rw [List.map_cons, q, e1]⟩
  | swap x y _ =>
    intro l e
    cases l with
    | nil => cases e
    | cons u l =>
      cases l with
      | nil => rw [List.map_cons] at e; cases (List.cons.inj e).2
      | cons v l =>
        rw [List.map_cons, List.map_cons] at e
        obtain ⟨e1, e2⟩ := List.cons.inj e
        obtain ⟨e2, e3⟩ := List.cons.inj e2
        exact ⟨v :: u :: l, .swap u v l, by rw [List.map_cons, List.map_cons, ← e1, ← e2, ← e3]⟩
  | trans _ _ ih1 ih2 =>
    intro l e
    obtain ⟨l1, p1, q1⟩ := ih2 l e
    obtain ⟨l2, p2, q2⟩ := ih1 l1 q1
    exact ⟨l2, p2.trans p1, q2⟩
/-- what adding does to the members -/
structure Added (L : List Ent) (x : Ent) (L' : List Ent) : Prop where
  old : x.2 ∈ L.map (·.2) → L' = L
  new : x.2 ∉ L.map (·.2) → L'.Perm (x :: L)
end DD
end T_DK

section T_DK2
set_option Elab.async false
set_option linter.all false
set_option maxRecDepth 100000
set_option maxHeartbeats 1000000
set_option autoImplicit false
namespace DD
open PySem PySem.Spec L2
open PyProof.Rows hiding St

section
variable {P : Program} {w : World} {A : Around} {E : Value → Shared → Prop} {s : Shared} {a : Addr} {L : List Ent} {es : Array (Int × Value)} {ep : Nat} {t : SetTable}
/-! ### ints and texts -/
theorem nk_hash (k : Key) : (mixKind P w).hash k = (nkK k).hash w := by
  cases k <;> rfl
theorem nk_inj {k j : Key} (h : nkK k = nkK j) : k = j := by
  cases k <;> cases j <;> simp [nkK] at h <;> rw [h]
theorem sc_elems (hr : es.toList = hrows w L) (hs : ∀ p ∈ L, ScE p) : ElemsOf (mixKind P w) es.toList := fun e he => by
  rw [hr] at he
  obtain ⟨p, hp, rfl⟩ := List.mem_map.mp he
  obtain ⟨k, e1, r⟩ := hs p hp
  exact ⟨⟨k, kV_is r, by rw [nk_hash, ← e1]⟩, key_scan r⟩
theorem sc_find (hr : es.toList = hrows w L) (hs : ∀ p ∈ L, ScE p) (k : Key) : (es.toList.findIdx? fun e => (mixKind P w).is k e.2).isSome = true ↔ nkK k ∈ L.map (·.2) := by
  rw [List.findIdx?_isSome, List.any_eq_true, hr]
  constructor
  · rintro ⟨e, he, q⟩
    obtain ⟨p, hp, rfl⟩ := List.mem_map.mp he
    obtain ⟨j, e1, r⟩ := hs p hp
    have ej : k = j := (mixKind P w).inj _ _ _ q (kV_is r)
    exact List.mem_map.mpr ⟨p, hp, by rw [e1, ej]⟩
  · intro h
    obtain ⟨p, hp, e⟩ := List.mem_map.mp h
    obtain ⟨j, e1, r⟩ := hs p hp
    have ej : k = j := nk_inj (e.symm.trans e1)
    exact ⟨_, List.mem_map.mpr ⟨p, hp, rfl⟩, by rw [ej]; exact kV_is r⟩
theorem scan_add (R : SD w s.heap a L es ep t) (hs : ∀ p ∈ L, ScE p) {k : Key} {v : Value} (r : RelV (kV k) v) (hfew : L.length + 1 < 64) {Q : Bool → Shared → Prop}
    (hQ : ∀ b h' L' es' ep' t', Heap.SameBut a s.heap h' → SD w h' a L' es' ep' t' → Added L (v, nkK k) L' → Q b { s with heap := h' }) : wpAny (model P w) A (setAddHashed a v ((nkK k).hash w)) Q E s := by
  obtain ⟨o, ho, hex, hd⟩ := R.ob
  have hf := R.fits
  have hsz := hrows_size R.rows
  have hel : ElemsOf (mixKind P w) es.toList := sc_elems R.rows hs
  have hsc := key_scan r
  have small : ∀ n : Nat, n < 64 → n < scanBound := fun n h => by unfold scanBound; omega
  have hb : es.size < scanBound := small _ (by have := R.few; omega)
  rw [← nk_hash (P := P)]
  unfold setAddHashed setAddHashedIn
  refine wpAny_holding (wpAny_bind (wpAny_setState_of ho hd hf ?_))
  dsimp only
  rw [byScan_of hsc hb hel]
  simp only [↓reduceIte]
  unfold setAddByScan
  refine wpAny_bind (wpAny_bind (wpAny_rule (wpAny_bind (wpAny_setScan_of (kV_is r) ho hd hf hel ?_))))
  have fi := sc_find (P := P) R.rows hs k
  cases hfi : List.findIdx? (fun e => (mixKind P w).is k e.2) es.toList with
  | some j =>
    rw [hfi] at fi
    have hm := fi.mp rfl
    dsimp only
    exact wpAny_pure (wpAny_pure (hQ false s.heap L es ep t (Heap.SameBut.refl a s.heap) R ⟨fun _ => rfl, fun z => absurd hm z⟩))
  | none =>
    rw [hfi] at fi
    have hm : nkK k ∉ L.map (·.2) := fun z => nomatch fi.mpr z
    dsimp only
    have pm := layNew_perm t es ((mixKind P w).hash k) v
    have hf1 := layNew_fits t es ((mixKind P w).hash k) v
    have hr1 := layNew_ris t es ((mixKind P w).hash k) v R.ris
    have hl1 := layNew_led t es ((mixKind P w).hash k) v
    generalize layNew t es ((mixKind P w).hash k) v = Z at pm hf1 hr1 hl1 ⊢
    obtain ⟨es1, t1, wasDummy, gave⟩ := Z
    dsimp only at pm hf1 hr1 hl1 ⊢
    rw [Array.toList_push, R.rows] at pm
    obtain ⟨L1, p1, q1⟩ := perm_pic (f := fun p : Ent => (p.2.hash w, p.1)) (pm.trans (List.perm_append_singleton _ _)) ((v, nkK k) :: L) (by rw [List.map_cons, nk_hash] <;> rfl)
    have hn1 : L1.length = L.length + 1 := p1.length_eq
    have nd1 : (L1.map (·.2)).Nodup := (p1.map (·.2)).nodup_iff.mpr (by rw [List.map_cons]; exact List.nodup_cons.mpr ⟨hm, R.nd⟩)
    have led1 : w.params.followText "set-order" = true ∨ t1.led = true := R.led.imp id fun z => by rw [hl1]; exact z
    have s1 : es1.size = L.length + 1 := by rw [hrows_size (w := w) q1, hn1]
    -- the table laid by, and laid anew where it is too full
    have tail : ∀ (t2 : SetTable), t2.fits es1.size = true → Ris t2.place.toList → (w.params.followText "set-order" = true ∨ t2.led = true) → ∀ (g : Bool → Sem Unit) (hg : ∀ (b : Bool) (s₁ : Shared) (Q' : Unit → Shared → Prop), Q' () s₁ → wpAny (model P w) A (g b) Q' E s₁) (R' : Option Bool → Shared → Prop),
        (∀ h', (∃ L' es' ep' t', Heap.SameBut a s.heap h' ∧ SD w h' a L' es' ep' t' ∧ L'.Perm ((v, nkK k) :: L)) → R' (some true) { s with heap := h' }) → wpAny (model P w) A (do
          storeSet a es1 t2
          if (!wasDummy && t2.tooFull) = true then do
              g (relayAll t2 es1 (SetTable.grown es1.size)).2.2
              storeSet a (relayAll t2 es1 (SetTable.grown es1.size)).1 (relayAll t2 es1 (SetTable.grown es1.size)).2.1
              pure (some true)
            else pure (some true)) R' E s := by
      intro t2 f2 r2 l2 g hg R' hR
      refine wpAny_bind (wpAny_storeSet_of ho hd ?_ (fits_of_scanBound (small _ (by omega))))
      have ho1 := store_at (es' := es1) (t' := t2) ho hd
      have sb1 := Heap.SameBut.update s.heap a (Obj.putSet es1 t2)
      split
      · have pm2 := relayAll_perm t2 es1 (SetTable.grown es1.size)
        have f3 := relayAll_fits t2 es1 (SetTable.grown es1.size)
        have r3 := relayAll_ris t2 es1 (SetTable.grown es1.size)
        have l3 := relayAll_led t2 es1 (SetTable.grown es1.size)
        generalize relayAll t2 es1 (SetTable.grown es1.size) = Z2 at pm2 f3 r3 l3 ⊢
        obtain ⟨es2, t3, gave2⟩ := Z2
        dsimp only at pm2 f3 r3 l3 ⊢
        rw [q1] at pm2
        obtain ⟨L2, p2, q2⟩ := perm_pic pm2 L1 rfl
        have s2 : es2.size = L.length + 1 := by rw [hrows_size (w := w) q2, p2.length_eq, hn1]
        refine wpAny_bind (hg _ _ _ ?_)
        refine wpAny_bind (wpAny_storeSet_of ho1 rfl ?_ (fits_of_scanBound (small _ (by omega))))
        have ho2 := store_at (es' := es2) (t' := t3) ho1 rfl
        refine wpAny_pure (hR _ ⟨L2, es2, _, t3, sb1.trans (Heap.SameBut.update _ a _), ⟨⟨_, ho2, hex, rfl⟩, q2, r3, f3, l2.imp id fun z => by rw [l3]; exact z, (p2.map (·.2)).nodup_iff.mpr nd1, by rw [p2.length_eq]; omega⟩, p2.trans p1⟩)
      · exact wpAny_pure (hR _ ⟨L1, es1, _, t2, sb1, ⟨⟨_, ho1, hex, rfl⟩, q1, r2, f2, l2, nd1, by omega⟩, p1⟩)
    have fin : ∀ h', (∃ L' es' ep' t', Heap.SameBut a s.heap h' ∧ SD w h' a L' es' ep' t' ∧ L'.Perm ((v, nkK k) :: L)) → Q true { s with heap := h' } := fun h' ⟨L', es', ep', t', sb, R', pl⟩ => hQ true h' L' es' ep' t' sb R' ⟨fun z => absurd z hm, fun _ => pl⟩
    have hgw : ∀ (b : Bool) {s₁ : Shared} {Q' : Unit → Shared → Prop}, Q' () s₁ → wpAny (model P w) A (match b with | true => rule "set.scan.the-table-gave-way" | false => pure ()) Q' E s₁ :=
      fun b s₁ Q' q => by cases b <;> first | exact wpAny_pure q | exact wpAny_rule q
    refine wpAny_bind (hgw _ ?_)
    split
    · refine wpAny_bind ?_
      rw [hashByValue_scannable 8 hsc]
      refine wpAny_pure ?_
      refine tail _ ?_ ?_ ?_ _ ?_ _ ?_
      · first | (split <;> first | exact hf1 | exact SetTable.fits_plain_off hf1) | exact hf1
      · first | (split <;> exact hr1) | exact hr1
      · first | (split <;> exact led1) | exact led1
      · intro b s₁ Q' q; cases b <;> first | exact wpAny_pure q | exact wpAny_rule q
      · intro h' z; dsimp only; exact wpAny_pure (fin h' z)
    · refine wpAny_bind (wpAny_pure ?_)
      simp only [↓reduceIte]
      refine tail _ hf1 hr1 led1 _ ?_ _ ?_
      · intro b s₁ Q' q; cases b <;> first | exact wpAny_pure q | exact wpAny_rule q
      · intro h' z; dsimp only; exact wpAny_pure (fin h' z)

/-! ### tuples: the search -/
theorem tb_fits {t : SetTable} {L : List Ent} {n : Nat} (T : TbL w s.heap L t) (hn : n = L.length) : t.fits n = true := by
  have h1 := T.tab.sz
  rw [List.length_map] at h1
  have h3 := T.room
  unfold SetTable.fits SetTable.fill
  rw [T.tab.dm, Bool.and_eq_true, beq_iff_eq, decide_eq_true_eq]
  show t.place.size = n ∧ t.place.size + 0 ≤ t.mask
  omega
theorem tb_seen {x : Ent} (hx : TbE s.heap x) {ys : List Value} (hy : ∀ y ∈ ys, ∃ p : Ent, y = p.1 ∧ TbE s.heap p) {Q : Bool → Shared → Prop} (h : Q false s) : wpAny (model P w) A (searchCouldBeSeen x.1 ys) Q E s := by
  obtain ⟨b, ks, e1, e2, h1, h2⟩ := hx
  unfold searchCouldBeSeen
  refine wpAny_bind ?_
  refine wpAny_forIn_list _ (fun rest r s' => r.1 = none ∧ s' = s ∧ ∀ y ∈ rest, ∃ p : Ent, y = p.1 ∧ TbE s.heap p) _ ?_ ?_ _ _ ⟨rfl, rfl, hy⟩
  · rintro v rest r s' ⟨hr, rfl, hall⟩
    obtain ⟨p, rfl, c, js, f1, f2, g1, g2⟩ := hall v List.mem_cons_self
    have rest' : ∀ y ∈ rest, ∃ p : Ent, y = p.1 ∧ TbE s'.heap p := fun u hu' => hall u (List.mem_cons_of_mem _ hu')
    rw [e1, f1]
    rw [e1] at h1
    rw [f1] at g1
    dsimp only
    by_cases hv : (b == c || (carriedByValue (.ref b) && carriedByValue (.ref c))) = true
    · refine wp_if_pos hv ?_
      exact wpAny_pure ⟨rfl, rfl, rest'⟩
    · refine wp_if_neg hv ?_
      refine wpAny_bind (quiet_key _ _ 8 _ h1 h2 _ _ _ ?_)
      simp only [Bool.not_true, Bool.false_eq_true, if_false]
      refine wpAny_bind (quiet_key _ _ 8 _ g1 g2 _ _ _ ?_)
      simp only [Bool.not_true, Bool.false_eq_true, if_false]
      refine wpAny_bind (key_cls _ _ 8 _ h1 h2 _ _ _ ?_)
      simp only [Bool.false_eq_true, if_false]
      refine wpAny_bind (key_cls _ _ 8 _ g1 g2 _ _ _ ?_)
      simp only [Bool.false_eq_true, if_false]
      exact wpAny_pure ⟨rfl, rfl, rest'⟩
  · rintro ⟨r1, r2⟩ s' ⟨hr, rfl, _⟩
    simp only at hr
    subst hr
    exact wpAny_pure h
end
end DD
end T_DK2

section T_DK3
set_option Elab.async false
set_option linter.all false
set_option maxRecDepth 100000
set_option maxHeartbeats 1000000
set_option autoImplicit false
namespace DD
open PySem PySem.Spec L2
open PyProof.Rows hiding St

section
variable {P : Program} {w : World} {A : Around} {E : Value → Shared → Prop} {s : Shared} {a : Addr} {L : List Ent} {es : Array (Int × Value)} {ep : Nat} {t : SetTable}
/-- the way of a hash, from its first state on -/
abbrev st0 (m : Nat) (h : Int) : SetTable.Probe := runAt m (SetTable.bits h % (m + 1)) (SetTable.bits h)
theorem st0_way (m : Nat) (h : Int) (c q : Nat) : (nth m (nth m (st0 m h) c) q).j = way m h (c + q) := congrArg SetTable.Probe.j (nth_add m c (st0 m h) q).symm
theorem nth_dummy (m : Nat) : ∀ (n : Nat) (p : SetTable.Probe), p.dummy = none → (nth m p n).dummy = none
  | 0, _, h => h
  | n + 1, p, h => nth_dummy m n (adv m p) (by unfold adv; split <;> exact h)
theorem tb_search (R : SD w s.heap a L es ep t) (T : TbL w s.heap L t) {x : Ent} (hx : TbE s.heap x) (hu : A.units + 8 < cLine) {K : Nat} (hKf : K < 10 * SetTable.turns t.mask) (hK : way t.mask (x.2.hash w) K ∉ t.place.toList)
    (hKb : ∀ c, c < K → way t.mask (x.2.hash w) c ∈ t.place.toList) {Q : SetFound → Shared → Prop} (hin : x.2 ∈ L.map (·.2) → Q (.there none) s) (hout : x.2 ∉ L.map (·.2) → Q (.free (way t.mask (x.2.hash w) K) false) s) :
    ∀ (f c : Nat) (stand : Option SetTable.Probe), stand.getD (t.probeStart (x.2.hash w)) = nth t.mask (st0 t.mask (x.2.hash w)) c → c ≤ K → K - c < f →
      (∀ (i : Nat) p, L[i]? = some p → p.2 = x.2 → ∃ c', c ≤ c' ∧ c' < K ∧ t.place.toList[i]? = some (way t.mask (x.2.hash w) c')) → wpAny (model P w) A (setSearchFrom a x.1 (x.2.hash w) true f stand) Q E s
  | 0, c, stand, _, _, hf, _ => absurd hf (Nat.not_lt_zero _)
  | f + 1, c, stand, hst, hc, hf, hre => by
    obtain ⟨o, ho, hex, hd⟩ := R.ob
    have gw : ¬ t.gaveWay = true := by
      unfold SetTable.gaveWay
      rw [mask_odd T.tab.mok]
      decide
    rw [setSearchFrom_succ]
    refine wpAny_bind (wpAny_setState_of ho hd R.fits ?_)
    dsimp only
    refine wp_if_neg gw ?_
    have e0 : c + (K - c) = K := by omega
    have spec := go_spec t R.ris T.tab.dm (fun i => (es[i]?.map (·.1)).getD 0) (x.2.hash w) (10 * SetTable.turns t.mask) (K - c) _ (nth_dummy t.mask c (st0 t.mask (x.2.hash w)) rfl) (by omega)
      (fun q hq => by rw [st0_way]; exact hKb (c + q) (by omega)) (by rw [st0_way, e0]; exact hK)
    have hashAt : ∀ (i : Nat) p, L[i]? = some p → (fun i => (es[i]?.map (·.1)).getD 0) i = p.2.hash w := fun i p hp => by
      show (es[i]?.map (·.1)).getD 0 = _
      rw [hrows_at R.rows hp] <;> rfl
    rcases spec with ⟨q, i, hq, hi, hh, hno, hpr⟩ | ⟨hno, hpr⟩
    · have hnx : nth t.mask (nth t.mask (st0 t.mask (x.2.hash w)) c) (q + 1) = nth t.mask (st0 t.mask (x.2.hash w)) (c + (q + 1)) := (nth_add t.mask c _ _).symm
      have hpr' : t.probe (fun i => (es[i]?.map (·.1)).getD 0) (x.2.hash w) (stand.getD (t.probeStart (x.2.hash w))) = some (.candidate (way t.mask (x.2.hash w) (c + q)) i (nth t.mask (st0 t.mask (x.2.hash w)) (c + (q + 1)))) := by
        rw [hst, ← st0_way, ← hnx]
        exact hpr
      rw [hpr']
      dsimp only
      rw [st0_way] at hi
      have hil : i < L.length := by
        have h1 : i < t.place.toList.length := (List.getElem?_eq_some_iff.mp hi).1
        have h2 := T.tab.sz
        rw [List.length_map] at h2
        rw [Array.length_toList] at h1
        omega
      have hp : L[i]? = some L[i] := List.getElem?_eq_getElem hil
      generalize L[i] = p at hp
      have hmem : p ∈ L := List.mem_of_getElem? hp
      have hpt := T.each p hmem
      have rest : wpAny (model P w) A (searchRest a x.1 (x.2.hash w) true f es t (way t.mask (x.2.hash w) (c + q)) i (nth t.mask (st0 t.mask (x.2.hash w)) (c + (q + 1)))) Q E s := by
        obtain ⟨bp, kp, p1, p2, p3, p4⟩ := hpt
        obtain ⟨bx, kx, x1, x2, x3, x4⟩ := id hx
        unfold searchRest
        rw [hrows_at R.rows hp]
        dsimp only
        rw [p1, x1]
        rw [p1] at p3
        rw [x1] at x3
        refine wpAny_bind (wpAny_holding ((nestedKind P w).eqBool (show A.units + 8 < cLine from hu) ⟨p3, p4⟩ ⟨x3, x4⟩ ?_))
        refine wpAny_bind (wpAny_setState_of ho hd R.fits ?_)
        dsimp only
        by_cases hkk : p.2 = x.2
        · refine wp_if_pos (by simp [hkk]) ?_
          exact wpAny_pure (hin (List.mem_map.mpr ⟨p, hmem, hkk⟩))
        · refine wp_if_neg (by simp [hkk]) ?_
          rw [sameMem]
          dsimp only
          have hsl : t.slot (way t.mask (x.2.hash w) (c + q)) = .live i := slot_live R.ris hi
          have hee := hrows_at R.rows hp
          rw [p1] at hee
          simp only [if_true, hsl, hee]
          refine wpAny_bind (wpAny_isSame_ref_self (wpAny_bind (wpAny_pure ?_)))
          simp only [if_true]
          refine wp_if_neg (by simp [hkk]) ?_
          rw [← x1]
          refine tb_search R T hx hu hKf hK hKb hin hout f (c + (q + 1)) _ rfl (by omega) (by omega) fun i0 p0 h0 hk0 => ?_
          obtain ⟨c', a1, a2, a3⟩ := hre i0 p0 h0 hk0
          refine ⟨c', ?_, a2, a3⟩
          rcases Nat.lt_trichotomy c' (c + q) with z | z | z
          · exact absurd ((hashAt i0 p0 h0).trans (by rw [hk0])) (hno (c' - c) i0 (by omega) (by rw [st0_way, show c + (c' - c) = c' by omega]; exact a3))
          · rw [z] at a3
            have s0 := slot_live R.ris a3
            rw [hsl] at s0
            injection s0 with s0
            rw [← s0, hp] at h0
            exact absurd ((congrArg Prod.snd (Option.some.inj h0)).trans hk0) hkk
          · omega
      by_cases hl : t.led = true
      · exact wp_if_neg (by simp [hl]) rest
      · refine wp_if_pos (by simp [hl]) ?_
        refine wpAny_bind (tb_seen hx (fun y hy => ?_) (wp_if_neg (by decide) rest))
        obtain ⟨e, he, ee⟩ := List.mem_map.mp hy
        have he2 : e ∈ es.toList := (by simpa using he : e ∈ es ∧ _).1 |> Array.mem_toList_iff.mpr
        rw [R.rows] at he2
        obtain ⟨p2, hp2, e2⟩ := List.mem_map.mp he2
        exact ⟨p2, by rw [← ee, ← e2], T.each p2 hp2⟩
    · have hpr' : t.probe (fun i => (es[i]?.map (·.1)).getD 0) (x.2.hash w) (stand.getD (t.probeStart (x.2.hash w))) = some (.empty (way t.mask (x.2.hash w) K) none) := by
        have e2 : way t.mask (x.2.hash w) K = (nth t.mask (nth t.mask (st0 t.mask (x.2.hash w)) c) (K - c)).j := by rw [st0_way, e0]
        rw [hst, e2]
        exact hpr
      rw [hpr']
      dsimp only
      refine wpAny_pure (hout fun hm => ?_)
      obtain ⟨p0, h0, hk0⟩ := List.mem_map.mp hm
      obtain ⟨i0, hi0, e0'⟩ := List.getElem_of_mem h0
      have h00 : L[i0]? = some p0 := by rw [List.getElem?_eq_getElem hi0, e0']
      obtain ⟨c', a1, a2, a3⟩ := hre i0 p0 h00 hk0
      exact hno (c' - c) i0 (by omega) (by rw [st0_way, show c + (c' - c) = c' by omega]; exact a3) ((hashAt i0 p0 h00).trans (by rw [hk0]))
theorem tb_searchAt (R : SD w s.heap a L es ep t) (T : TbL w s.heap L t) {x : Ent} (hx : TbE s.heap x) (hu : A.units + 8 < cLine) {Q : SetFound → Shared → Prop} (hin : x.2 ∈ L.map (·.2) → Q (.there none) s)
    (hout : ∀ K, x.2 ∉ L.map (·.2) → way t.mask (x.2.hash w) K ∉ t.place.toList → (∀ c, c < K → way t.mask (x.2.hash w) c ∈ t.place.toList) → Q (.free (way t.mask (x.2.hash w) K) false) s) :
    wpAny (model P w) A (setSearch a x.1 (x.2.hash w) true) Q E s := by
  have hroom := T.room
  obtain ⟨K, hKf, hK, hKb⟩ := T.tab.first (by rw [List.length_map]; omega) (x.2.hash w)
  have hbig : K < 100000 := by
    have : 10 * SetTable.turns t.mask ≤ 1420 := by
      unfold SetTable.turns
      rcases T.tab.mok with e | e | e <;> omega
    omega
  unfold setSearch
  refine tb_search R T hx hu hKf hK hKb hin (fun hn => hout K hn hK hKb) 100000 0 none rfl (Nat.zero_le _) (by omega) fun i p hp hk => ?_
  have hi : (hss w L)[i]? = some (x.2.hash w) := by rw [List.getElem?_map, hp, ← hk] <;> rfl
  have hil : i < t.place.toList.length := by
    have h1 : i < L.length := (List.getElem?_eq_some_iff.mp hp).1
    have h2 := T.tab.sz
    rw [List.length_map] at h2
    rw [Array.length_toList]
    omega
  have hj := List.getElem?_eq_getElem hil
  obtain ⟨c, hc, e⟩ := T.tab.before hK hi hj
  exact ⟨c, Nat.zero_le _, hc, by rw [hj, e]⟩
end
end DD
end T_DK3

section T_DK4
set_option Elab.async false
set_option linter.all false
set_option maxRecDepth 100000
set_option maxHeartbeats 1000000
set_option autoImplicit false
namespace DD
open PySem PySem.Spec L2
open PyProof.Rows hiding St

theorem tbE_at {h h' : Heap} {p : Ent} (e : TbE h p) (k : ∀ a o vs n, h.get? a = some o → o.data = .seq vs n → h'.get? a = some o) : TbE h' p := by
  obtain ⟨b, ks, e1, e2, e3, e4⟩ := e
  exact ⟨b, ks, e1, e2, NestedIs.at k _ _ e3, e4⟩
theorem tbE_but {h h' : Heap} {p : Ent} {a : Addr} {o : Obj} {es ep t} (e : TbE h p) (ho : h.get? a = some o) (hd : o.data = .set es ep t) (hs : Heap.SameBut a h h') : TbE h' p :=
  tbE_at e fun b ob vs n hb hc => (hs.2 b fun z => by
    subst z
    rw [ho] at hb
    cases hb
    rw [hd] at hc
    cases hc).trans hb
section
variable {P : Program} {w : World} {A : Around} {E : Value → Shared → Prop} {s : Shared} {a : Addr} {L : List Ent} {es : Array (Int × Value)} {ep : Nat} {t : SetTable}
/-- rows taken in another order -/
theorem rows_order (hr : es.toList = hrows w L) {order : Array Nat} (hp : order.toList.Perm (List.range L.length)) :
    ∃ L2, (order.filterMap (es[·]?)).toList = hrows w L2 ∧ L2.Perm L ∧ hss w L2 = order.toList.map fun i => (es.map (·.1)).getD i 0 := by
  have get : ∀ l : List Nat, (∀ i ∈ l, i < L.length) → ∃ L2 : List Ent, l.filterMap (fun i => es[i]?) = hrows w L2 ∧ L2 = l.filterMap (fun i => L[i]?) ∧ hss w L2 = l.map fun i => (es.map (·.1)).getD i 0 := by
    intro l
    induction l with
    | nil => intro _; exact ⟨[], rfl, rfl, rfl⟩
    | cons i l ih =>
      intro hl
      have hi := List.getElem?_eq_getElem (hl i List.mem_cons_self)
      obtain ⟨L2, e1, e2, e3⟩ := ih fun j hj => hl j (List.mem_cons_of_mem _ hj)
      generalize L[i]'(hl i List.mem_cons_self) = p at hi
      have he := hrows_at hr hi
      refine ⟨p :: L2, ?_, ?_, ?_⟩
      · rw [List.filterMap_cons_some he, e1] <;> rfl
      · rw [List.filterMap_cons_some hi, e2]
      · show p.2.hash w :: hss w L2 = _
        rw [List.map_cons, e3]
        have e4 : (es.map (·.1))[i]? = some (p.2.hash w) := by rw [Array.getElem?_map, he] <;> rfl
        rw [Array.getD_eq_getD_getElem?, e4] <;> rfl
  obtain ⟨L2, e1, e2, e3⟩ := get order.toList fun i hi => List.mem_range.mp (hp.mem_iff.mp hi)
  refine ⟨L2, by simpa using e1, ?_, e3⟩
  have whole : (List.range L.length).filterMap (fun i => L[i]?) = L := by
    have part : ∀ n, n ≤ L.length → (List.range n).filterMap (fun i => L[i]?) = L.take n := by
      intro n
      induction n with
      | zero => intro _; rfl
      | succ n ih =>
        intro hn
        have hi := List.getElem?_eq_getElem hn
        rw [List.range_succ, List.filterMap_append, ih (Nat.le_of_lt hn), List.take_succ, hi, List.filterMap_cons_some hi] <;> rfl
    rw [part L.length (Nat.le_refl _), List.take_length]
  have q := hp.filterMap (fun i => L[i]?)
  rw [← e2, whole] at q
  exact q
theorem tb_relay {o : Obj} (ho : s.heap.get? a = some o) (hex : o.ExactSet) (hd : o.data = .set es ep t) (hr : es.toList = hrows w L) (tab : TabOk t (hss w L)) (hfl : L.length ≤ t.mask) (nd : (L.map (·.2)).Nodup) (each : ∀ p ∈ L, TbE s.heap p)
    (ld : w.params.followText "set-order" = true ∨ t.led = true) (few : L.length < 64) {wanted M : Nat} (hw : SetTable.sizeAbove wanted - 1 = M) (hM : MaskOk M) (hw2 : SetTable.sizeAbove wanted ≤ 128) (hn : L.length * 5 < M * 3) {Q : Unit → Shared → Prop}
    (hQ : ∀ h' L' es' ep' t', Heap.SameBut a s.heap h' → SD w h' a L' es' ep' t' → TbL w h' L' t' → L'.Perm L → Q () { s with heap := h' }) : wpAny (model P w) A (setRelay a wanted) Q E s := by
  have hsl := hrows_size hr
  have hsz := tab.sz
  rw [List.length_map] at hsz
  have hfits : t.fits es.size = true := by
    unfold SetTable.fits SetTable.fill
    rw [tab.dm, Bool.and_eq_true, beq_iff_eq, decide_eq_true_eq]
    show t.place.size = es.size ∧ t.place.size + 0 ≤ t.mask
    omega
  obtain ⟨t', order, e, hp, T, em, el, ep', ed⟩ := relaid_ok t (hs := es.map (·.1)) (wanted := wanted) hw hM (by rw [Array.size_map]; omega)
  rw [Array.size_map, hsl] at hp
  obtain ⟨L2, r1, r2, r3⟩ := rows_order hr hp
  rw [← r3] at T
  have hs2 : (order.filterMap (es[·]?)).size = es.size := by rw [hrows_size r1, r2.length_eq, hsl]
  have n2 := r2.length_eq
  rw [setRelay_eq]
  refine wpAny_bind (wpAny_setState_of ho hd hfits ?_)
  dsimp only
  refine wp_if_neg (by rw [sizeLine_eq]; omega) ?_
  rw [e]
  dsimp only
  refine wpAny_bind ?_
  refine wp_if_neg (by rw [hs2]; simp) ?_
  refine wpAny_pure ?_
  dsimp only
  refine wpAny_storeSet_of ho hd ?_ (by rw [hs2, hsl, sizeLine_eq]; omega)
  have sb : Heap.SameBut a s.heap (s.heap.update a (Obj.putSet (order.filterMap (es[·]?)) t')) := Heap.SameBut.update ..
  have szt := T.sz
  rw [List.length_map] at szt
  refine hQ _ L2 (order.filterMap (es[·]?)) (ep + 1) t' sb ⟨⟨_, store_at ho hd, hex, rfl⟩, r1, T.ris, ?_, by rw [el]; exact ld, (r2.map (·.2)).nodup_iff.mpr nd, by omega⟩ ⟨T, by rw [n2, em]; exact hn, fun p hpm => tbE_but (each p (r2.mem_iff.mp hpm)) ho hd sb⟩ r2
  unfold SetTable.fits SetTable.fill
  rw [T.dm, Bool.and_eq_true, beq_iff_eq, decide_eq_true_eq]
  show t'.place.size = _ ∧ t'.place.size + 0 ≤ t'.mask
  omega
theorem tab_plain {t : SetTable} {hs : List Int} (T : TabOk t hs) : TabOk { t with plain := false } hs := ⟨T.ris, T.dm, T.sz, T.mok, T.bd, T.reach⟩
theorem tb_add (R : SD w s.heap a L es ep t) (T : TbL w s.heap L t) {x : Ent} (hx : TbE s.heap x) (hu : A.units + 8 < cLine) (hfew : L.length + 1 < 64) {Q : Bool → Shared → Prop}
    (hQ : ∀ b h' L' es' ep' t', Heap.SameBut a s.heap h' → SD w h' a L' es' ep' t' → TbL w h' L' t' → Added L x L' → Q b { s with heap := h' }) : wpAny (model P w) A (setAddHashed a x.1 (x.2.hash w)) Q E s := by
  obtain ⟨o, ho, hex, hd⟩ := R.ob
  have hsl := hrows_size R.rows
  have hroom := T.room
  have hbs : ¬ byScan x.1 es = true := by
    obtain ⟨b, ks, e1, _⟩ := id hx
    rw [e1]
    simp [byScan, Value.scannable]
  unfold setAddHashed
  refine wpAny_holding ?_
  rw [show (100000 : Nat) = 99999 + 1 from rfl, setAddHashedIn_succ]
  refine wpAny_bind (wpAny_setState_of ho hd R.fits ?_)
  dsimp only
  refine wp_if_neg hbs ?_
  refine wpAny_bind (tb_searchAt R T hx hu (fun hm => ?_) fun K hm hK hb => ?_)
  · dsimp only
    exact wpAny_pure (hQ false s.heap L es ep t (Heap.SameBut.refl a s.heap) R T ⟨fun _ => rfl, fun z => absurd hm z⟩)
  · dsimp only
    refine wpAny_bind (wpAny_setState_of ho hd R.fits ?_)
    dsimp only
    obtain ⟨q1, q2, q3, q4, q5, q6, q7, q8, q9⟩ := T.tab.put hK hb
    generalize hpt : t.put (way t.mask (x.2.hash w) K) = pt at q1 q3 q4 q5 q6 q7 q8 q9 ⊢
    obtain ⟨t1, p⟩ := pt
    dsimp only at q1 q3 q4 q5 q6 q7 q8 q9 ⊢
    subst q1
    have hin : (SetTable.insertAt es (SetTable.below t.place (way t.mask (x.2.hash w) K)) (x.2.hash w, x.1)).toList = hrows w (L.take (SetTable.below t.place (way t.mask (x.2.hash w) K)) ++ x :: L.drop (SetTable.below t.place (way t.mask (x.2.hash w) K))) := by
      unfold hrows
      rw [SetTable.toList_insertAt, R.rows, List.map_append, List.map_cons, List.map_take, List.map_drop] <;> rfl
    generalize SetTable.below t.place (way t.mask (x.2.hash w) K) = p at q2 q3 hin ⊢
    have pm := put_perm L p x
    have hlen := pm.length_eq
    rw [List.length_cons] at hlen
    have hhs : hss w (L.take p ++ x :: L.drop p) = (hss w L).take p ++ x.2.hash w :: (hss w L).drop p := by
      unfold hss
      rw [List.map_append, List.map_cons, List.map_take, List.map_drop]
    rw [← hhs] at q3
    have nd1 : ((L.take p ++ x :: L.drop p).map (·.2)).Nodup := (pm.map (·.2)).nodup_iff.mpr (by rw [List.map_cons]; exact List.nodup_cons.mpr ⟨hm, R.nd⟩)
    have hes := hrows_size hin
    rw [hlen] at hes
    generalize SetTable.insertAt es p (x.2.hash w, x.1) = es1 at hin hes ⊢
    generalize L.take p ++ x :: L.drop p = L1 at pm hlen q3 nd1 hin
    rw [List.length_map] at q9
    -- whatever the byte says of plainness
    have tail : ∀ (t2 : SetTable), TabOk t2 (hss w L1) → t2.mask = t.mask → t2.led = t.led → t2.fill = L.length + 1 → wpAny (model P w) A (do
        storeSet a es1 t2
        if (!false && t2.tooFull) = true then setRelay a (SetTable.grown (es.size + 1))
        return true) Q E s := by
      intro t2 T2 m2 l2 f2
      refine wpAny_bind (wpAny_storeSet_of ho hd ?_ (by rw [hes, sizeLine_eq]; omega))
      have sb : Heap.SameBut a s.heap (s.heap.update a (Obj.putSet es1 t2)) := Heap.SameBut.update ..
      have ho1 := store_at (es' := es1) (t' := t2) ho hd
      generalize s.heap.update a (Obj.putSet es1 t2) = h1 at sb ho1 ⊢
      have tup1 : ∀ p ∈ L1, TbE h1 p := fun p hp => by
        rcases List.mem_cons.mp (pm.mem_iff.mp hp) with e | hp
        · rw [e]; exact tbE_but hx ho hd sb
        · exact tbE_but (T.each p hp) ho hd sb
      have ld1 : w.params.followText "set-order" = true ∨ t2.led = true := by rw [l2]; exact R.led
      by_cases hf : t2.tooFull = true
      · have hfull : (L.length + 1) * 5 ≥ t2.mask * 3 := by
          have h := hf
          unfold SetTable.tooFull at h
          rw [decide_eq_true_eq, f2] at h
          exact h
        have cases2 : (t.mask = 7 ∧ L.length = 4) ∨ (t.mask = 31 ∧ L.length = 18) := by
          rw [m2] at hfull
          rcases T.tab.mok with e | e | e
          · left; rw [e] at hfull hroom; exact ⟨e, by omega⟩
          · right; rw [e] at hfull hroom; exact ⟨e, by omega⟩
          · exfalso; rw [e] at hfull; omega
        have go : ∀ M, SetTable.sizeAbove (SetTable.grown (L.length + 1)) - 1 = M → MaskOk M → SetTable.sizeAbove (SetTable.grown (L.length + 1)) ≤ 128 → (L.length + 1) * 5 < M * 3 →
            wpAny (model P w) A (setRelay a (SetTable.grown (es.size + 1))) (fun _ s' => wpAny (model P w) A (pure true) Q E s') E { s with heap := h1 } := fun M h1' h2' h3' h4' => by
          rw [hsl]
          refine tb_relay (s := { s with heap := h1 }) ho1 hex rfl hin T2 (by rw [hlen, m2]; rcases cases2 with ⟨e, e2⟩ | ⟨e, e2⟩ <;> omega) nd1 tup1 ld1 (by omega) h1' h2' h3' (by rw [hlen]; exact h4') ?_
          intro h2 L2 es2 ep2 t2' sb2 R2 T2' pm2
          exact wpAny_pure (hQ true h2 L2 es2 ep2 t2' (sb.trans sb2) R2 T2' ⟨fun z => absurd z hm, fun _ => pm2.trans pm⟩)
        dsimp only
        refine wp_if_pos (by rw [hf]; rfl) (wpAny_bind ?_)
        rcases cases2 with ⟨_, e2⟩ | ⟨_, e2⟩
        · exact go 31 (by rw [e2, size_20]) (.inr (.inl rfl)) (by rw [e2, size_20]; decide) (by omega)
        · exact go 127 (by rw [e2, size_76]) (.inr (.inr rfl)) (by rw [e2, size_76]; decide) (by omega)
      · have room1 : L1.length * 5 < t2.mask * 3 := by
          have h := hf
          unfold SetTable.tooFull at h
          rw [decide_eq_true_eq, f2] at h
          omega
        have R1 : SD w h1 a L1 es1 (ep + 1) t2 := by
          have T3 : TbL w h1 L1 t2 := ⟨T2, room1, tup1⟩
          exact ⟨⟨_, ho1, hex, rfl⟩, hin, T2.ris, tb_fits (s := { s with heap := h1 }) T3 (by omega), ld1, nd1, by omega⟩
        dsimp only
        refine wp_if_neg (by simpa using hf) ?_
        exact wpAny_pure (hQ true h1 L1 es1 (ep + 1) t2 sb R1 ⟨T2, room1, tup1⟩ ⟨fun z => absurd z hm, fun _ => pm⟩)
    by_cases hp1 : t1.plain = true
    · refine wp_if_pos hp1 (wpAny_bind ?_)
      obtain ⟨bx, kx, x1, x2, x3, x4⟩ := id hx
      refine key_hby _ _ 8 _ x3 x4 _ _ _ fun b => ?_
      cases b with
      | true => exact tail t1 q3 q4 q5 q9
      | false => exact tail { t1 with plain := false } (tab_plain q3) q4 q5 q9
    · refine wp_if_neg hp1 (wpAny_bind (wpAny_pure ?_))
      exact tail t1 q3 q4 q5 q9
end
end DD
end T_DK4

section T_DK5
set_option Elab.async false
set_option linter.all false
set_option maxRecDepth 100000
set_option maxHeartbeats 1000000
set_option autoImplicit false
namespace DD
open PySem PySem.Spec L2
open PyProof.Rows hiding St

/-- of which kind the members are: tuples, or ints and texts -/
def KdE (m : Bool) (h : Heap) (p : Ent) : Prop := if m then TbE h p else ScE p
structure SS (m : Bool) (w : World) (h : Heap) (a : Addr) (L : List Ent) : Prop where
  ex : ∃ es ep t, SD w h a L es ep t ∧ (m = true → TbL w h L t)
  each : ∀ p ∈ L, KdE m h p
theorem kdE_at {m : Bool} {h h' : Heap} {p : Ent} (e : KdE m h p) (k : ∀ a o vs n, h.get? a = some o → o.data = .seq vs n → h'.get? a = some o) : KdE m h' p := by
  cases m with
  | true => exact tbE_at e k
  | false => exact e
theorem kdE_any {m : Bool} {h h' : Heap} {p : Ent} (e : KdE m h p) (k : ∀ a o, h.get? a = some o → h'.get? a = some o) : KdE m h' p := kdE_at e fun a o _ _ z _ => k a o z
/-- what a set has got of the first i things -/
structure Gat (xs : List Ent) (i : Nat) (L : List Ent) : Prop where
  sub : ∀ p ∈ L, p ∈ xs.take i
  all : ∀ p ∈ xs.take i, p.2 ∈ L.map (·.2)
  len : L.length ≤ i
theorem Gat.zero (xs : List Ent) : Gat xs 0 [] := ⟨fun _ h => (nomatch h), fun _ h => (by simp at h), Nat.le_refl _⟩
theorem Gat.step {xs L L' : List Ent} {i : Nat} {x : Ent} (g : Gat xs i L) (e : xs[i]? = some x) (ad : Added L x L') : Gat xs (i + 1) L' := by
  have et : xs.take (i + 1) = xs.take i ++ [x] := by rw [List.take_succ, e] <;> rfl
  by_cases hm : x.2 ∈ L.map (·.2)
  · rw [ad.old hm]
    refine ⟨fun p hp => by rw [et]; exact List.mem_append_left _ (g.sub p hp), fun p hp => ?_, Nat.le_succ_of_le g.len⟩
    rw [et] at hp
    rcases List.mem_append.mp hp with z | z
    · exact g.all p z
    · rw [List.mem_singleton.mp z]; exact hm
  · have pm := ad.new hm
    refine ⟨fun p hp => ?_, fun p hp => ?_, by rw [pm.length_eq]; exact Nat.succ_le_succ g.len⟩
    · rw [et]
      rcases List.mem_cons.mp (pm.mem_iff.mp hp) with z | z
      · rw [z]; exact List.mem_append_right _ (List.mem_singleton.mpr rfl)
      · exact List.mem_append_left _ (g.sub p z)
    · rw [(pm.map (·.2)).mem_iff, List.map_cons]
      rw [et] at hp
      rcases List.mem_append.mp hp with z | z
      · exact List.mem_cons_of_mem _ (g.all p z)
      · rw [List.mem_singleton.mp z]; exact List.mem_cons_self
section
variable {P : Program} {w : World} {A : Around} {E : Value → Shared → Prop} {s : Shared} {a : Addr} {L : List Ent} {m : Bool}
theorem SS.keep {h h' : Heap} (S : SS m w h a L) (ha : ∀ o, h.get? a = some o → h'.get? a = some o) (he : ∀ p ∈ L, KdE m h' p) : SS m w h' a L := by
  obtain ⟨es, ep, t, R, T⟩ := S.ex
  obtain ⟨o, ho, r⟩ := R.ob
  exact ⟨⟨es, ep, t, ⟨⟨o, ha o ho, r⟩, R.rows, R.ris, R.fits, R.led, R.nd, R.few⟩, fun e => ⟨(T e).tab, (T e).room, fun p hp => by have := he p hp; rw [e] at this; exact this⟩⟩, he⟩
/-- s.add(x), within the model -/
theorem ss_add (S : SS m w s.heap a L) {x : Ent} (hx : KdE m s.heap x) (hu : A.units + 8 < cLine) (hfew : L.length + 1 < 64) {Q : Bool → Shared → Prop}
    (hQ : ∀ b h' tk L', s.toks ≤ tk → Heap.SameBut a s.heap h' → SS m w h' a L' → Added L x L' → Q b { s with heap := h', toks := tk }) : wpAny (model P w) A (setAdd a x.1) Q E s := by
  obtain ⟨es, ep, t, R, T⟩ := S.ex
  obtain ⟨o, ho, hex, hd⟩ := R.ob
  unfold setAdd
  refine wpAny_holding ?_
  cases m with
  | true =>
    obtain ⟨bx, kx, x1, x2, x3, x4⟩ := id (show TbE s.heap x from hx)
    refine wpAny_bind (pyHash_key x.2 x.1 A s _ x3 (by omega) ?_)
    refine tb_add (s := { s with toks := s.toks + x.2.draws }) R (T rfl) hx hu hfew fun b h' L' es' ep' t' sb R' T' ad => ?_
    exact hQ b h' _ L' (Nat.le_add_right _ _) sb ⟨⟨es', ep', t', R', fun _ => T'⟩, fun p hp => T'.each p hp⟩ ad
  | false =>
    obtain ⟨v, k0⟩ := x
    obtain ⟨k, x1, r⟩ := id (show ScE (v, k0) from hx)
    dsimp only at x1 r
    subst x1
    refine wpAny_bind ((mixKind P w).pyHash (kV_is r) ?_)
    rw [nk_hash]
    refine scan_add (s := { s with toks := s.toks + 1 }) R (fun p hp => S.each p hp) r hfew fun b h' L' es' ep' t' sb R' ad => ?_
    refine hQ b h' _ L' (Nat.le_add_right _ _) sb ⟨⟨es', ep', t', R', fun e => nomatch e⟩, fun p hp => ?_⟩ ad
    by_cases hm : nkK k ∈ L.map (·.2)
    · rw [ad.old hm] at hp
      exact S.each p hp
    · rcases List.mem_cons.mp ((ad.new hm).mem_iff.mp hp) with z | z
      · rw [z]; exact hx
      · exact S.each p z
/-- a new set -/
theorem ss_fresh {h : Heap} (ho : h.get? a = some { cls := .type "set", dict := none, data := .set #[] 0 (.fresh 0 0 (!w.params.followText "set-order")) }) : SS m w h a [] where
  ex := by
    refine ⟨#[], 0, _, ⟨⟨_, ho, ⟨rfl, rfl, rfl⟩, rfl⟩, rfl, List.Pairwise.nil, rfl, ?_, List.nodup_nil, by show 0 < 64; decide⟩, fun _ => ⟨⟨List.Pairwise.nil, rfl, rfl, .inl rfl, fun x hx => (nomatch hx), fun i h j hi => (by simp at hi)⟩, by show 0 * 5 < 7 * 3; decide, fun p hp => (nomatch hp)⟩⟩
    show _ ∨ (!w.params.followText "set-order") = true
    cases w.params.followText "set-order"
    · exact .inr rfl
    · exact .inl rfl
  each := fun p hp => nomatch hp
/-- set.update's loop -/
theorem ss_update {I : Addr} {fp wr : List Addr} {G : Array GenState → Array GenState → Prop} {n : Nat} {Pv : Nat → Value → Prop} {St : Nat → Shared → Prop} {R : Result → Shared → Prop} (W : WalksS P w A.in1 I fp wr G n Pv St) (S : Addr) (hSf : S ∉ fp)
    (xs : List Ent) (hn : n = xs.length) (hfew : xs.length < 64) (hval : ∀ i v, Pv i v → ∃ p, xs[i]? = some p ∧ v = p.1) (h0 : Heap) (hk : ∀ p ∈ xs, KdE m h0 p) (hS0 : h0.get? S = none) (hw0 : ∀ b ∈ wr, h0.get? b = none) (hu : A.in1.units + 8 < cLine) :
    ∀ (k i : Nat) (s : Shared), n - i = k → i ≤ n → St i s → (∀ b o, h0.get? b = some o → s.heap.get? b = some o) → (∃ L, SS m w s.heap S L ∧ Gat xs i L) →
      (∀ s' L, Moved (S :: wr) G s s' → SS m w s'.heap S L → Gat xs n L → (∀ b o, h0.get? b = some o → s'.heap.get? b = some o) → R (.ok (.ret .none)) s') →
      codeAny (model P w) A (.builtin "set.update.loop" ⟨[.ref S, .ref I], []⟩) R s := by
  have hSw : S ∉ wr := fun h => hSf (W.sub _ h)
  have hsub : ∀ b ∈ wr, b ∈ S :: wr := fun b hb => List.mem_cons_of_mem _ hb
  have keepM : ∀ {s s' : Shared}, Moved wr G s s' → (∀ b o, h0.get? b = some o → s.heap.get? b = some o) → ∀ b o, h0.get? b = some o → s'.heap.get? b = some o := fun hm hkp b o e =>
    hm.heap b o (fun hb => by rw [hw0 b hb] at e; cases e) (hkp b o e)
  have eachOf : ∀ {L : List Ent} {i : Nat} {h : Heap}, Gat xs i L → (∀ b o, h0.get? b = some o → h.get? b = some o) → ∀ p ∈ L, KdE m h p := fun g k p hp => kdE_any (hk p (List.mem_of_mem_take (g.sub p hp))) k
  intro k
  induction k with
  | zero =>
    intro i s hk' hi hst hkp ⟨L, hS, g⟩ hR
    have hin : i = n := by omega
    subst hin
    refine codeAny_builtin PyProof.Rows.F.entry_set_update_loop ?_
    rw [Around.under_plainId PyProof.Rows.F.plain_set_update_loop _]
    show wpAny _ A.in1 (pyNext (.ref I) >>= _) _ _ s
    refine wpAny_bind (W.done s _ _ hst fun s' hm => ?_)
    have hkp' := keepM hm hkp
    exact wpAny_pure (hR s' L (hm.mono hsub) (hS.keep (fun o e => hm.heap S o hSw e) (eachOf g hkp')) g hkp')
  | succ k ih =>
    intro i s hk' hi hst hkp ⟨L, hS, g⟩ hR
    have hlt : i < n := by omega
    refine codeAny_builtin PyProof.Rows.F.entry_set_update_loop ?_
    rw [Around.under_plainId PyProof.Rows.F.plain_set_update_loop _]
    show wpAny _ A.in1 (pyNext (.ref I) >>= _) _ _ s
    refine wpAny_bind (W.item i s _ _ hlt hst fun v s' hP hst' hm => ?_)
    obtain ⟨p, hp, rfl⟩ := hval i v hP
    have hkp' := keepM hm hkp
    have hS' : SS m w s'.heap S L := hS.keep (fun o e => hm.heap S o hSw e) (eachOf g hkp')
    show wpAny _ A.in1 (holding [p.1] (setAdd S p.1) >>= _) _ _ s'
    refine wpAny_bind (wpAny_holding (ss_add hS' (kdE_any (hk p (List.mem_of_getElem? hp)) hkp') hu (by have := g.len; omega) fun b h' tk L' htk hsb hS2 ad => ?_))
    have hkp2 : ∀ b o, h0.get? b = some o → h'.get? b = some o := fun b o e => (hsb.2 b (fun z => by rw [z, hS0] at e; cases e)).trans (hkp' b o e)
    refine wpAny_pure ⟨plainId_quiet PyProof.Rows.F.plain_set_update_loop _, ih (i + 1) _ (by omega) hlt (W.frame _ s' _ _ hst' htk fun b hb o e => ?_) hkp2 ⟨L', hS2, g.step hp ad⟩ fun s'' L2 hm'' hS'' g'' hkp'' => ?_⟩
    · rw [hsb.2 b (fun h : b = S => hSf (by rw [← h]; exact hb))]; exact e
    · refine hR s'' L2 (Moved.trans W.gtrans ((hm.mono hsub).then_heap htk fun b o hb e => ?_) hm'') hS'' g'' hkp''
      rw [hsb.2 b (fun h : b = S => hb (by rw [h]; exact List.mem_cons_self))]; exact e
end
end DD
end T_DK5

section T_DK6
set_option Elab.async false
set_option linter.all false
set_option maxRecDepth 100000
set_option maxHeartbeats 3200000
set_option autoImplicit false
namespace DD
open PySem PySem.Spec L2
open PyProof.Rows hiding St

abbrev newSetO (w : World) : Obj := { cls := .type "set", dict := none, data := .set #[] 0 (.fresh 0 0 (!w.params.followText "set-order")) }
section
variable {P : Program} {w : World} {A : Around} {E : Value → Shared → Prop} {s : Shared} {m : Bool}
/-- set(xs) of a list -/
theorem call_set_list {l : Addr} {items : Array Value} (xs : List Ent) {Q : Value → Shared → Prop} (hh : A.handled = none) (hl : s.heap.IsList l items) (hit : items.toList = xs.map (·.1)) (hk : ∀ p ∈ xs, KdE m s.heap p) (hfew : xs.length < 64) (hu : A.units + 16 < cLine)
    (h : ∀ (h' : Heap) (tk : Nat) L, SS m w h' s.heap.objs.size L → Gat xs xs.length L → (∀ b o, s.heap.get? b = some o → h'.get? b = some o) → Q (.ref s.heap.objs.size) { s with heap := h', toks := tk }) :
    wpAny (model P w) A (call (.type "set") [.ref l]) Q E s := by
  have hisz : items.size = xs.length := by
    have q := congrArg List.length hit
    rw [Array.length_toList, List.length_map] at q
    exact q
  obtain ⟨c, tl, hmro⟩ := PySem.F.called_set.mro
  have hmade := PySem.F.called_set.made
  have hsub := PySem.F.called_set.sub
  refine wpAny_call (codeAny_of_tree ?_)
  show wpAny _ _ (callAny (.type "set") _) _ _ _
  refine wpAny_pure ⟨Code.quiet_builtin _ (by decide +kernel), codeAny_builtin PySem.F.entry_type_call ?_⟩
  rw [Around.under_plain (weight_type_call_type "set" [.ref l] []) rfl]
  have h1 := PySem.F.called_set.notType
  have h2 := PySem.F.called_set.canCreate
  have hct := PySem.F.typeCall_set_1 (.ref l)
  repeat (any_goals (first | assumption | wp_step))
  refine codeAny_mono (code_set_led1 (.ref l) (E := E) (Q₁ := fun obj s₁ => obj = .ref s.heap.objs.size ∧ s₁ = { s with heap := s.heap.push (newSetO w) }) ⟨rfl, rfl⟩) fun r s₁ hr => ?_
  cases r with
  | error e => exact hr
  | ok fl =>
    cases fl with
    | ret obj =>
      obtain ⟨rfl, rfl⟩ := hr
      have hS : (s.heap.push (newSetO w)).get? s.heap.objs.size = some (newSetO w) := Heap.get?_push_size _ rfl
      have hT : Shared.TypeIs { s with heap := s.heap.push (newSetO w) } (.ref s.heap.objs.size) "set" := ⟨_, hS, rfl⟩
      have hli := PySem.F.called_set.init.lookup
      have hbi := PySem.F.called_set.init.bind (.ref s.heap.objs.size)
      repeat (any_goals (first | assumption | wp_step))
      refine codeAny_mono (codeAny_call_builtin (R := wants (fun r s₂ => r = .none ∧ ∃ h' tk L, s₂ = { s with heap := h', toks := tk } ∧ SS m w h' s.heap.objs.size L ∧ Gat xs xs.length L ∧ (∀ b o, s.heap.get? b = some o → h'.get? b = some o)) E)
        PySem.F.called_set.init.plain PySem.F.entry_set_init (check_set_init_1 hT ?_)) fun r₂ s₂ hr₂ => ?_
      · obtain ⟨ol, hol, hcl, nl, hdl⟩ := hl
        obtain ⟨ocls, odict, odata, oslots⟩ := ol
        simp only at hcl hdl
        subst hcl; subst hdl
        have hol' : (s.heap.push (newSetO w)).get? l = some { cls := .type "list", dict := odict, data := .seq items nl, slots := oslots } := Heap.get?_push_of_some _ hol
        have hsls := PySem.F.sub_list_set
        have hslf := PySem.F.sub_list_frozenset
        have hne : (Value.type "list" == Value.type "dict") = false := by decide
        have hl1 : (s.heap.push (newSetO w)).IsList l items := ⟨_, hol', rfl, nl, rfl⟩
        unfold Builtin.«set.__init__» noKeywords Builtin.Frozenset.updateFrom
        generalize hPI : pyIter = PI
        wp_walk
        subst hPI
        refine wpAny_pyIter_list hl1 ?_
        refine wpAny_bind (wpAny_runValue ?_)
        have hlS : l < s.heap.objs.size := Heap.lt_size hol
        have hh3 : A.in1.in1.in1.handled = none := by simp [hh]
        have hz1 : (s.heap.push (newSetO w)).objs.size = s.heap.objs.size + 1 := Heap.size_push ..
        have hneI : l ≠ (s.heap.push (newSetO w)).objs.size := by rw [hz1]; exact Nat.ne_of_lt (Nat.lt_succ_of_lt hlS)
        have hSf : s.heap.objs.size ∉ [(s.heap.push (newSetO w)).objs.size, l] := by
          rw [hz1]
          simp only [List.mem_cons, List.not_mem_nil, or_false, not_or]
          exact ⟨Nat.ne_of_lt (Nat.lt_succ_self _), Nat.ne_of_gt hlS⟩
        have hval : ∀ (i : Nat) (v : Value), items[i]? = some v → ∃ p, xs[i]? = some p ∧ v = p.1 := fun i v hv => by
          have q : items.toList[i]? = some v := by rw [Array.getElem?_toList]; exact hv
          rw [hit, List.getElem?_map] at q
          cases hq : xs[i]? with
          | none => rw [hq] at q; cases q
          | some p =>
            rw [hq] at q
            exact ⟨p, rfl, (Option.some.inj q).symm⟩
        have none_of : ∀ b, s.heap.objs.size ≤ b → s.heap.get? b = none := fun b hb => by
          cases q : s.heap.get? b with
          | none => rfl
          | some o => exact absurd (Nat.lt_of_lt_of_le (Heap.lt_size q) hb) (Nat.lt_irrefl _)
        refine ss_update (m := m) ((Walks.list hh3 _ l hneI items).toS) s.heap.objs.size hSf xs hisz hfew hval s.heap hk (none_of _ (Nat.le_refl _)) (fun b hb => none_of b (by rw [List.mem_singleton.mp hb, hz1]; exact Nat.le_succ _))
          (by show A.units + 3 + 8 < cLine; omega) (items.size - 0) 0 _ (by omega) (Nat.zero_le _)
          ⟨⟨_, Heap.get?_push_size _ rfl, rfl, rfl⟩, (hl1.push _)⟩ (fun b o e => Heap.get?_push_of_some _ (Heap.get?_push_of_some _ e)) ⟨[], ss_fresh (Heap.get?_push_of_some _ hS), Gat.zero xs⟩ ?hR
        case hR =>
          intro s' L hm hS' g' hkp
          obtain ⟨h', g2, d', tk', os'⟩ := s'
          have eg : g2 = s.gens := hm.gens
          have ed : d' = s.drawn := hm.drawn
          have eo : os' = s.os := hm.os
          subst eg; subst ed; subst eo
          rw [hisz] at g'
          exact wpAny_pure (wpAny_pure ⟨rfl, h', tk', L, rfl, hS', g', hkp⟩)
      · cases r₂ with
        | error e => exact hr₂
        | ok fl₂ =>
          cases fl₂ with
          | ret r =>
            obtain ⟨rfl, h', tk, L, rfl, hS', g', hk'⟩ := hr₂
            repeat (any_goals (first | assumption | wp_step))
            exact h _ _ _ hS' g' hk'
          | _ => exact hr₂.elim
    | _ => exact hr.elim
/-- set(xs) of a tuple -/
theorem call_set_tuple {l : Addr} {items : Array Value} (xs : List Ent) {Q : Value → Shared → Prop} (hh : A.handled = none) (hl : s.heap.IsTuple l items) (hit : items.toList = xs.map (·.1)) (hk : ∀ p ∈ xs, KdE m s.heap p) (hfew : xs.length < 64) (hu : A.units + 16 < cLine)
    (h : ∀ (h' : Heap) (tk : Nat) L, SS m w h' s.heap.objs.size L → Gat xs xs.length L → (∀ b o, s.heap.get? b = some o → h'.get? b = some o) → Q (.ref s.heap.objs.size) { s with heap := h', toks := tk }) :
    wpAny (model P w) A (call (.type "set") [.ref l]) Q E s := by
  have hisz : items.size = xs.length := by
    have q := congrArg List.length hit
    rw [Array.length_toList, List.length_map] at q
    exact q
  obtain ⟨c, tl, hmro⟩ := PySem.F.called_set.mro
  have hmade := PySem.F.called_set.made
  have hsub := PySem.F.called_set.sub
  refine wpAny_call (codeAny_of_tree ?_)
  show wpAny _ _ (callAny (.type "set") _) _ _ _
  refine wpAny_pure ⟨Code.quiet_builtin _ (by decide +kernel), codeAny_builtin PySem.F.entry_type_call ?_⟩
  rw [Around.under_plain (weight_type_call_type "set" [.ref l] []) rfl]
  have h1 := PySem.F.called_set.notType
  have h2 := PySem.F.called_set.canCreate
  have hct := PySem.F.typeCall_set_1 (.ref l)
  repeat (any_goals (first | assumption | wp_step))
  refine codeAny_mono (code_set_led1 (.ref l) (E := E) (Q₁ := fun obj s₁ => obj = .ref s.heap.objs.size ∧ s₁ = { s with heap := s.heap.push (newSetO w) }) ⟨rfl, rfl⟩) fun r s₁ hr => ?_
  cases r with
  | error e => exact hr
  | ok fl =>
    cases fl with
    | ret obj =>
      obtain ⟨rfl, rfl⟩ := hr
      have hS : (s.heap.push (newSetO w)).get? s.heap.objs.size = some (newSetO w) := Heap.get?_push_size _ rfl
      have hT : Shared.TypeIs { s with heap := s.heap.push (newSetO w) } (.ref s.heap.objs.size) "set" := ⟨_, hS, rfl⟩
      have hli := PySem.F.called_set.init.lookup
      have hbi := PySem.F.called_set.init.bind (.ref s.heap.objs.size)
      repeat (any_goals (first | assumption | wp_step))
      refine codeAny_mono (codeAny_call_builtin (R := wants (fun r s₂ => r = .none ∧ ∃ h' tk L, s₂ = { s with heap := h', toks := tk } ∧ SS m w h' s.heap.objs.size L ∧ Gat xs xs.length L ∧ (∀ b o, s.heap.get? b = some o → h'.get? b = some o)) E)
        PySem.F.called_set.init.plain PySem.F.entry_set_init (check_set_init_1 hT ?_)) fun r₂ s₂ hr₂ => ?_
      · obtain ⟨ol, hol, hcl, nl, hdl⟩ := hl
        obtain ⟨ocls, odict, odata, oslots⟩ := ol
        simp only at hcl hdl
        subst hcl; subst hdl
        have hol' : (s.heap.push (newSetO w)).get? l = some { cls := .type "tuple", dict := odict, data := .seq items nl, slots := oslots } := Heap.get?_push_of_some _ hol
        have hsls := PySem.F.sub_tuple_set
        have hslf := PySem.F.sub_tuple_frozenset
        have hne : (Value.type "tuple" == Value.type "dict") = false := by decide
        have hl1 : (s.heap.push (newSetO w)).IsTuple l items := ⟨_, hol', rfl, nl, rfl⟩
        unfold Builtin.«set.__init__» noKeywords Builtin.Frozenset.updateFrom
        generalize hPI : pyIter = PI
        wp_walk
        subst hPI
        refine wpAny_pyIter_tuple hl1 ?_
        refine wpAny_bind (wpAny_runValue ?_)
        have hlS : l < s.heap.objs.size := Heap.lt_size hol
        have hh3 : A.in1.in1.in1.handled = none := by simp [hh]
        have hz1 : (s.heap.push (newSetO w)).objs.size = s.heap.objs.size + 1 := Heap.size_push ..
        have hneI : l ≠ (s.heap.push (newSetO w)).objs.size := by rw [hz1]; exact Nat.ne_of_lt (Nat.lt_succ_of_lt hlS)
        have hSf : s.heap.objs.size ∉ [(s.heap.push (newSetO w)).objs.size, l] := by
          rw [hz1]
          simp only [List.mem_cons, List.not_mem_nil, or_false, not_or]
          exact ⟨Nat.ne_of_lt (Nat.lt_succ_self _), Nat.ne_of_gt hlS⟩
        have hval : ∀ (i : Nat) (v : Value), items[i]? = some v → ∃ p, xs[i]? = some p ∧ v = p.1 := fun i v hv => by
          have q : items.toList[i]? = some v := by rw [Array.getElem?_toList]; exact hv
          rw [hit, List.getElem?_map] at q
          cases hq : xs[i]? with
          | none => rw [hq] at q; cases q
          | some p =>
            rw [hq] at q
            exact ⟨p, rfl, (Option.some.inj q).symm⟩
        have none_of : ∀ b, s.heap.objs.size ≤ b → s.heap.get? b = none := fun b hb => by
          cases q : s.heap.get? b with
          | none => rfl
          | some o => exact absurd (Nat.lt_of_lt_of_le (Heap.lt_size q) hb) (Nat.lt_irrefl _)
        refine ss_update (m := m) ((Walks.tuple hh3 _ l hneI items).toS) s.heap.objs.size hSf xs hisz hfew hval s.heap hk (none_of _ (Nat.le_refl _)) (fun b hb => none_of b (by rw [List.mem_singleton.mp hb, hz1]; exact Nat.le_succ _))
          (by show A.units + 3 + 8 < cLine; omega) (items.size - 0) 0 _ (by omega) (Nat.zero_le _)
          ⟨⟨_, Heap.get?_push_size _ rfl, rfl, rfl⟩, (hl1.push _)⟩ (fun b o e => Heap.get?_push_of_some _ (Heap.get?_push_of_some _ e)) ⟨[], ss_fresh (Heap.get?_push_of_some _ hS), Gat.zero xs⟩ ?hR
        case hR =>
          intro s' L hm hS' g' hkp
          obtain ⟨h', g2, d', tk', os'⟩ := s'
          have eg : g2 = s.gens := hm.gens
          have ed : d' = s.drawn := hm.drawn
          have eo : os' = s.os := hm.os
          subst eg; subst ed; subst eo
          rw [hisz] at g'
          exact wpAny_pure (wpAny_pure ⟨rfl, h', tk', L, rfl, hS', g', hkp⟩)
      · cases r₂ with
        | error e => exact hr₂
        | ok fl₂ =>
          cases fl₂ with
          | ret r =>
            obtain ⟨rfl, h', tk, L, rfl, hS', g', hk'⟩ := hr₂
            repeat (any_goals (first | assumption | wp_step))
            exact h _ _ _ hS' g' hk'
          | _ => exact hr₂.elim
    | _ => exact hr.elim
end
end DD
end T_DK6

section T_DK7
set_option Elab.async false
set_option linter.all false
set_option maxRecDepth 100000
set_option maxHeartbeats 1000000
set_option autoImplicit false
namespace DD
open PySem PySem.Spec L2
open PyProof.Rows hiding St

/-! ### keys of data -/
mutual
/-- the key of a datum (a truth value has none here) -/
def nkD : D → Option NestedKey
  | .none => some .none
  | .bool _ => none
  | .int i => some (.num i)
  | .str x => some (.text x)
  | .list _ => none
  | .tuple ds => (nkAll ds).map .tup
  | .dict _ => none
def nkAll : List D → Option (List NestedKey)
  | [] => some []
  | d :: ds => match nkD d, nkAll ds with
    | some k, some ks => some (k :: ks)
    | _, _ => none
end
mutual
theorem nkD_data : ∀ (d : D) (k : NestedKey), nkD d = some k → k.data = d
  | .none, k, h => by simp only [nkD, Option.some.injEq] at h; subst h; rfl
  | .bool _, k, h => by simp [nkD] at h
  | .int i, k, h => by simp only [nkD, Option.some.injEq] at h; subst h; rfl
  | .str x, k, h => by simp only [nkD, Option.some.injEq] at h; subst h; rfl
  | .list _, k, h => by simp [nkD] at h
  | .tuple ds, k, h => by
    simp only [nkD] at h
    cases e : nkAll ds with
    | none => rw [e] at h; cases h
    | some ks =>
      rw [e] at h
      simp only [Option.map_some, Option.some.injEq] at h
      subst h
      simp only [NestedKey.data]
      rw [nkAll_data ds ks e]
  | .dict _, k, h => by simp [nkD] at h
theorem nkAll_data : ∀ (ds : List D) (ks : List NestedKey), nkAll ds = some ks → NestedKey.datas ks = ds
  | [], ks, h => by simp only [nkAll, Option.some.injEq] at h; subst h; rfl
  | d :: ds, ks, h => by
    simp only [nkAll] at h
    cases e1 : nkD d with
    | none => rw [e1] at h; cases h
    | some k =>
      cases e2 : nkAll ds with
      | none => rw [e1, e2] at h; cases h
      | some kl =>
        rw [e1, e2] at h
        simp only [Option.some.injEq] at h
        subst h
        simp only [NestedKey.datas]
        rw [nkD_data d k e1, nkAll_data ds kl e2]
end
theorem datas_map : ∀ ks : List NestedKey, NestedKey.datas ks = ks.map NestedKey.data
  | [] => rfl
  | k :: ks => by rw [NestedKey.datas, datas_map ks] <;> rfl
mutual
theorem reads_key {h : Heap} : ∀ (d : D) (k : NestedKey) (v : Value) (as : List Addr), nkD d = some k → Reads h v d as → NestedIs h k v
  | .none, k, v, as, e, r => by simp only [nkD, Option.some.injEq] at e; subst e; cases r; exact .none
  | .bool _, k, v, as, e, r => by simp [nkD] at e
  | .int i, k, v, as, e, r => by simp only [nkD, Option.some.injEq] at e; subst e; cases r; exact .int _ _
  | .str x, k, v, as, e, r => by simp only [nkD, Option.some.injEq] at e; subst e; cases r; exact .text _ _
  | .list _, k, v, as, e, r => by simp [nkD] at e
  | .tuple ds, k, v, as, e, r => by
    simp only [nkD] at e
    cases e1 : nkAll ds with
    | none => rw [e1] at e; cases e
    | some ks =>
      rw [e1] at e
      simp only [Option.map_some, Option.some.injEq] at e
      subst e
      cases r with
      | tuple h1 h2 h3 h4 => exact .tup h1 h2 h3 (reads_keys ds ks _ _ e1 h4)
  | .dict _, k, v, as, e, r => by simp [nkD] at e
theorem reads_keys {h : Heap} : ∀ (ds : List D) (ks : List NestedKey) (vs : List Value) (as : List Addr), nkAll ds = some ks → ReadsAll h vs ds as → NestedAll h ks vs
  | [], ks, vs, as, e, r => by simp only [nkAll, Option.some.injEq] at e; subst e; cases r; exact .nil
  | d :: ds, ks, vs, as, e, r => by
    simp only [nkAll] at e
    cases e1 : nkD d with
    | none => rw [e1] at e; cases e
    | some k =>
      cases e2 : nkAll ds with
      | none => rw [e1, e2] at e; cases e
      | some kl =>
        rw [e1, e2] at e
        simp only [Option.some.injEq] at e
        subst e
        cases r with
        | cons h1 h2 => exact .cons (reads_key d k _ _ e1 h1) (reads_keys ds kl _ _ e2 h2)
end
/-- each once -/
def ddK : List NestedKey → List NestedKey
  | [] => []
  | k :: l => if k ∈ l then ddK l else k :: ddK l
theorem ddK_mem : ∀ (l : List NestedKey) (k : NestedKey), k ∈ ddK l ↔ k ∈ l
  | [], k => Iff.rfl
  | x :: l, k => by
    unfold ddK
    split
    · rename_i h
      rw [ddK_mem l k, List.mem_cons]
      exact ⟨.inr, fun z => z.elim (fun e => e ▸ h) id⟩
    · rw [List.mem_cons, List.mem_cons, ddK_mem l k]
theorem ddK_nodup : ∀ l : List NestedKey, (ddK l).Nodup
  | [] => List.nodup_nil
  | x :: l => by
    unfold ddK
    split
    · exact ddK_nodup l
    · rename_i h
      exact List.nodup_cons.mpr ⟨fun z => h ((ddK_mem l x).mp z), ddK_nodup l⟩
def leafK : NestedKey → Bool
  | .num _ => true
  | .text _ => true
  | _ => false
def tupK : NestedKey → Bool
  | .tup ks => (NestedKey.tup ks).depth ≤ 8
  | _ => false
/-- fit for a set -/
def okSet (ks : List NestedKey) : Bool := (ks.all leafK || ks.all tupK) && decide (ks.length < 64)
/-- the set's members -/
def setD (ds : List D) : T (List NestedKey) := match nkAll ds with
  | some ks => .need (okSet ks) (.ret (ddK ks))
  | none => .fail

/-! ### the things for a set, of a walk's values -/
theorem ents_of {X : Cx} {pins : List (Addr × Obj)} {σ : L2.St} {H : Hp} {s : Shared} (I : Inv X pins σ H s) : ∀ {xs : List V} {us : List Value} {ds : List D} {ks : List NestedKey} (m : Bool), Vals xs us → DpAll X.K H xs ds → nkAll ds = some ks → (∀ k ∈ ks, (if m then tupK k else leafK k) = true) →
    ∀ p ∈ us.zip ks, KdE m s.heap p ∧ ∃ b ∈ xs.zip ds, RelV b.1 p.1 ∧ b.2 = p.2.data
  | [], _, _, _, m, .nil, h, e, hk => fun p hp => nomatch hp
  | x :: xs, u :: us, _, ks, m, .cons r t, h, e, hk => by
    cases h with
    | @cons _ _ d ds h1 h2 =>
      simp only [nkAll] at e
      cases e1 : nkD d with
      | none => rw [e1] at e; cases e
      | some k =>
        cases e2 : nkAll ds with
        | none => rw [e1, e2] at e; cases e
        | some kl =>
          rw [e1, e2] at e
          simp only [Option.some.injEq] at e
          subst e
          intro p hp
          rcases List.mem_cons.mp hp with z | z
          · subst z
            obtain ⟨as, rd⟩ := Dp.reads I d x u h1 r
            have ni := reads_key d k u as e1 rd
            have kk := hk k List.mem_cons_self
            refine ⟨?_, (x, d), List.mem_cons_self, r, (nkD_data d k e1).symm⟩
            cases m with
            | true =>
              cases k with
              | tup ks' =>
                have kk' : decide ((NestedKey.tup ks').depth ≤ 8) = true := kk
                cases ni with
                | tup a1 a2 a3 a4 => exact ⟨_, _, rfl, rfl, .tup a1 a2 a3 a4, of_decide_eq_true kk'⟩
              | _ => cases kk
            | false =>
              have dd := nkD_data d k e1
              cases k with
              | num i =>
                rw [← dd] at h1
                cases h1
                exact ⟨.inl i, rfl, r⟩
              | text y =>
                rw [← dd] at h1
                cases h1
                exact ⟨.inr y, rfl, r⟩
              | _ => cases kk
          · obtain ⟨q1, b, hb, q2, q3⟩ := ents_of I m t h2 e2 (fun k hk' => hk k (List.mem_cons_of_mem _ hk')) p z
            exact ⟨q1, b, List.mem_cons_of_mem _ hb, q2, q3⟩
theorem nk_len : ∀ {ds : List D} {ks : List NestedKey}, nkAll ds = some ks → ks.length = ds.length := fun {ds ks} e => by
  have := congrArg List.length (nkAll_data ds ks e)
  rw [datas_map, List.length_map] at this
  exact this
/-- a sequence's values in the heap -/
theorem seq_at {X : Cx} {pins : List (Addr × Obj)} {σ : L2.St} {H : Hp} {s : Shared} (I : Inv X pins σ H s) {a : Addr} {xs : List V} (hs : SqL X.K H a xs ∨ SqT X.K H a xs) :
    ∃ its : List Value, Vals xs its ∧ xs.length ≤ sizeLine ∧ (s.heap.IsList a its.toArray ∨ s.heap.IsTuple a its.toArray) := by
  rcases hs with hs | hs
  · obtain ⟨its, rv, hl, hz⟩ := I.list hs
    exact ⟨its, rv, hz, .inl hl.isList⟩
  · obtain ⟨its, rv, ⟨o, h1, h2, n, h3⟩, hz⟩ := I.tuple hs
    exact ⟨its, rv, hz, .inr ⟨o, h1, h2, n, h3⟩⟩
/-- set(xs): what is there behind it -/
theorem set_made {X : Cx} (hc : X.calm = true) (hu : X.A.units + 64 < cLine) {pins : List (Addr × Obj)} {σ : L2.St} {H : Hp} {s : Shared} (I : Inv X pins σ H s) {a : Addr} {xs : List V} {ds : List D} {ks : List NestedKey} (hs : SqL X.K H a xs ∨ SqT X.K H a xs) (hd : DpAll X.K H xs ds) (he : nkAll ds = some ks) (hk : okSet ks = true) {Q : Value → Shared → Prop}
    (h : ∀ (h' : Heap) (tk : Nat) (L : List Ent) (es : Array (Int × Value)) (ep : Nat) (t : SetTable), SD X.w h' s.heap.objs.size L es ep t → (L.map (·.2)).Perm (ddK ks) → (∀ p ∈ L, ∃ b ∈ xs.zip ds, RelV b.1 p.1 ∧ b.2 = p.2.data) → (∀ b o, s.heap.get? b = some o → h'.get? b = some o) → Q (.ref s.heap.objs.size) { s with heap := h', toks := tk }) :
    wpAny (model X.prog X.w) X.A (call (.type "set") [.ref a]) Q X.xe s := by
  obtain ⟨its, rv, hz, hq⟩ := seq_at I hs
  unfold okSet at hk
  rw [Bool.and_eq_true, Bool.or_eq_true, decide_eq_true_eq] at hk
  obtain ⟨m, hm⟩ : ∃ m : Bool, ∀ k ∈ ks, (if m then tupK k else leafK k) = true := by
    rcases hk.1 with z | z
    · exact ⟨false, fun k hk => List.all_eq_true.mp z k hk⟩
    · exact ⟨true, fun k hk => List.all_eq_true.mp z k hk⟩
  have ents := ents_of I m rv hd he hm
  have ln : its.length = ks.length := by rw [nk_len he, ← rv.length, dp_len hd]
  have e1 : (its.zip ks).map (·.1) = its := List.map_fst_zip (Nat.le_of_eq ln)
  have e2 : (its.zip ks).map (·.2) = ks := List.map_snd_zip (Nat.le_of_eq ln.symm)
  have lz : (its.zip ks).length = ks.length := by rw [List.length_zip, ln, Nat.min_self]
  have fin : ∀ (h' : Heap) (tk : Nat) L, SS m X.w h' s.heap.objs.size L → Gat (its.zip ks) (its.zip ks).length L → (∀ b o, s.heap.get? b = some o → h'.get? b = some o) → Q (.ref s.heap.objs.size) { s with heap := h', toks := tk } := fun h' tk L S g kp => by
    obtain ⟨es, ep, t, R, _⟩ := S.ex
    refine h h' tk L es ep t R ?_ (fun p hp => (ents p (List.mem_of_mem_take (g.sub p hp))).2) kp
    refine (List.perm_ext_iff_of_nodup R.nd (ddK_nodup ks)).mpr fun k => ?_
    rw [ddK_mem]
    constructor
    · intro hk'
      obtain ⟨p, hp, rfl⟩ := List.mem_map.mp hk'
      rw [← e2]
      exact List.mem_map.mpr ⟨p, List.mem_of_mem_take (g.sub p hp), rfl⟩
    · intro hk'
      rw [← e2] at hk'
      obtain ⟨p, hp, rfl⟩ := List.mem_map.mp hk'
      exact g.all p (by rw [List.take_length]; exact hp)
  rcases hq with hq | hq
  · exact call_set_list (its.zip ks) (I.ok.hd hc) hq (by simpa using e1.symm) (fun p hp => (ents p hp).1) (by rw [lz]; exact hk.2) (by omega) fin
  · exact call_set_tuple (its.zip ks) (I.ok.hd hc) hq (by simpa using e1.symm) (fun p hp => (ents p hp).1) (by rw [lz]; exact hk.2) (by omega) fin
end DD
end T_DK7

section T_DK8
set_option Elab.async false
set_option linter.all false
set_option maxRecDepth 100000
set_option maxHeartbeats 1000000
set_option autoImplicit false
namespace DD
open PySem PySem.Spec L2
open PyProof.Rows hiding St

/-! ### sorting forgets the order -/
mutual
theorem alike_eq : ∀ (d e : D), PySem.W.alike d e = true → PyData.eqv d e = true → d = e
  | .none, e, h, q => by cases e <;> first | rfl | simp [PySem.W.alike] at h
  | .bool a, e, h, q => by
    cases e <;> first
      | (simp [PySem.W.alike] at h; done)
      | (simp only [PyData.eqv, beq_iff_eq] at q; rw [q])
  | .int a, e, h, q => by
    cases e <;> first
      | (simp [PySem.W.alike] at h; done)
      | (simp only [PyData.eqv, beq_iff_eq] at q; rw [q])
  | .str a, e, h, q => by
    cases e <;> first
      | (simp [PySem.W.alike] at h; done)
      | (simp only [PyData.eqv, beq_iff_eq] at q; rw [q])
  | .list xs, e, h, q => by
    cases e <;> first
      | (simp [PySem.W.alike] at h; done)
      | (simp only [PyData.eqv] at q; simp only [PySem.W.alike] at h; rw [alikes_eq xs _ h q])
  | .tuple xs, e, h, q => by
    cases e <;> first
      | (simp [PySem.W.alike] at h; done)
      | (simp only [PyData.eqv] at q; simp only [PySem.W.alike] at h; rw [alikes_eq xs _ h q])
  | .dict _, e, h, q => by cases e <;> simp [PySem.W.alike] at h
theorem alikes_eq : ∀ (ds es : List D), PySem.W.alikeAll ds es = true → PyData.eqvAll ds es = true → ds = es
  | [], es, h, q => by
    cases es with
    | nil => rfl
    | cons e es => simp [PyData.eqvAll] at q
  | d :: ds, es, h, q => by
    cases es with
    | nil => simp [PyData.eqvAll] at q
    | cons e es =>
      obtain ⟨h1, h2⟩ := PySem.W.alike_all_cons h
      rw [PySem.W.eqv_all_cons, Bool.and_eq_true] at q
      rw [alike_eq d e h1 q.1, alikes_eq ds es h2 q.2]
end
theorem leS_anti {d e : D} (h : PySem.W.alike d e = true) (h1 : leS d e = true) (h2 : leS e d = true) : d = e := by
  have t : PySem.W.keyToks d = PySem.W.keyToks e := (PyProof.Rows.listOrd PyProof.Rows.itemOrd).total _ _ (show PySem.W.dataLt d e = false by unfold leS at h2; simpa using h2) (show PySem.W.dataLt e d = false by unfold leS at h1; simpa using h1)
  refine alike_eq d e h ?_
  cases q : PyData.eqv d e with
  | true => rfl
  | false =>
    have z := (PySem.W.toks_eqv d e h).2 q [] [.inl 0]
    rw [t, PySem.W.lex_pre] at z
    have z2 := (PySem.W.toks_eqv d e h).2 q [] []
    rw [t, PySem.W.lex_pre] at z2
    rw [← z2] at z
    exact absurd z (by decide)
theorem srt_pw (l : List D) : (srtD l).Pairwise fun a b => leS a b = true := by
  rw [← srt_merge]
  exact PySem.W.sort_pairwise leS_total l
theorem sorted_one : ∀ {l m : List D}, l.Perm m → (∀ x ∈ l, ∀ y ∈ l, leS x y = true → leS y x = true → x = y) → l.Pairwise (fun a b => leS a b = true) → m.Pairwise (fun a b => leS a b = true) → l = m
  | [], m, p, _, _, _ => (List.Perm.eq_nil p.symm).symm
  | x :: l, [], p, _, _, _ => absurd p.length_eq (by simp)
  | x :: l, y :: m, p, an, hl, hm => by
    have hx : x ∈ y :: m := p.mem_iff.mp List.mem_cons_self
    have hy : y ∈ x :: l := p.mem_iff.mpr List.mem_cons_self
    have a : leS x y = true := by
      rcases List.mem_cons.mp hy with e | e
      · rw [e]; exact leS_total.refl x
      · exact (List.pairwise_cons.mp hl).1 y e
    have b : leS y x = true := by
      rcases List.mem_cons.mp hx with e | e
      · rw [e]; exact leS_total.refl y
      · exact (List.pairwise_cons.mp hm).1 x e
    have e := an x List.mem_cons_self y hy a b
    subst e
    rw [sorted_one p.cons_inv (fun u hu v hv => an u (List.mem_cons_of_mem _ hu) v (List.mem_cons_of_mem _ hv)) (List.pairwise_cons.mp hl).2 (List.pairwise_cons.mp hm).2]
theorem srt_any {l m : List D} (p : l.Perm m) (h : alikeL l = true) : srtD l = srtD m := by
  refine sorted_one (((srt_perm l).trans p).trans (srt_perm m).symm) (fun x hx y hy => ?_) (srt_pw l) (srt_pw m)
  exact leS_anti (alikeL_all h x ((srt_perm l).mem_iff.mp hx) y ((srt_perm l).mem_iff.mp hy))
theorem all_perm {l m : List D} (p : l.Perm m) (f : D → Bool) : l.all f = m.all f := by
  rw [Bool.eq_iff_iff, List.all_eq_true, List.all_eq_true]
  exact ⟨fun h x hx => h x (p.mem_iff.mpr hx), fun h x hx => h x (p.mem_iff.mp hx)⟩
theorem okSort_perm {l m : List D} (p : l.Perm m) : okSort l = okSort m := by
  unfold okSort alikeL
  rw [all_perm p headed, all_perm p bare, all_perm p fun d => decide (d.depth ≤ 32), all_perm p fun d => l.all fun e => PySem.W.alike d e]
  have e : (fun d => l.all fun e => PySem.W.alike d e) = fun d => m.all fun e => PySem.W.alike d e := funext fun d => all_perm p _
  rw [e]
theorem okSort_alike {l : List D} (h : okSort l = true) : alikeL l = true := by
  unfold okSort at h
  rw [Bool.and_eq_true, Bool.and_eq_true] at h
  exact h.1.1

/-! ### len(set(e)), sorted(set(e)) -/
def tLenSetD (K : PySem.W.Frag) (ta : TE) : TE := fun σ H Q => ta σ H fun x H1 => ∃ a xs ds ks, x = .ref a ∧ (SqL K H1 a xs ∨ SqT K H1 a xs) ∧ DpAll K H1 xs ds ∧ nkAll ds = some ks ∧ okSet ks = true ∧ Q (.int (ddK ks).length) H1
def tSrtSetD (K : PySem.W.Frag) (ta : TE) : TE := fun σ H Q => ta σ H fun x H1 => ∃ a xs ds ks, x = .ref a ∧ (SqL K H1 a xs ∨ SqT K H1 a xs) ∧ DpAll K H1 xs ds ∧ nkAll ds = some ks ∧ okSet ks = true ∧ okSort ((ddK ks).map NestedKey.data) = true ∧
  ∀ (bs : List Trip) p, (∀ b ∈ bs, b ∈ xs.zip ds) → bs.map (·.2) = srtD ((ddK ks).map NestedKey.data) → H1 p = none → Q (.ref p) (upd H1 p (.lst (bs.map (·.1))))
theorem ddK_few {ks : List NestedKey} (h : okSet ks = true) : (ddK ks).length < 64 := by
  unfold okSet at h
  rw [Bool.and_eq_true, decide_eq_true_eq] at h
  exact Nat.lt_of_le_of_lt (List.Nodup.length_le_of_subset (ddK_nodup ks) fun k hk => (ddK_mem ks k).mp hk) h.2
section
variable {X : Cx} {a : Expr} {ta : TE} {p p2 q pos : Pos}
theorem pe_lenSetD (hc : X.calm = true) (hu : X.A.units + 64 < cLine) (hg : Gl X "len") (hm : X.mg "len" = none) (hg2 : Gl X "set") (hm2 : X.mg "set" = none) (ha : PE X a ta) (na : starEach [a] X.env = (false, eval a X.env) :: starEach [] X.env := by rfl) :
    PE X (.Call (.Name "len" p) [.Call (.Name "set" p2) [a] [] q] [] pos) (tLenSetD X.K ta) := by
  refine ⟨fun pins s σ H Q I h => ?_⟩
  refine Call_ (ld_blt I hg hm PySem.boot_len ?_)
  refine PyProof.Rows.callWith_builtin1 (PyProof.Rows.args_cons ?_ rfl) rfl rfl
  refine Call_ (ld_blt I hg2 hm2 PyProof.Rows.boot_set ?_)
  refine PyProof.Rows.callWith_type1 (PyProof.Rows.args_cons (thn (ha.run pins s σ H _ I h) fun v s1 ⟨x, H1, I1, r1, q1⟩ => PyProof.Rows.args_nil ?_) na) na rfl
  obtain ⟨l, xs, ds, ks, rfl, hs, hd, he, hk, q1⟩ := q1
  cases r1
  refine set_made hc hu I1 hs hd he hk fun h' tk L es ep t R pm _ kp => ?_
  refine PyProof.Rows.args_nil ?_
  obtain ⟨o, ho, hex, hdt⟩ := R.ob
  have e : es.size = (ddK ks).length := by rw [hrows_size R.rows, ← pm.length_eq, List.length_map]
  have few := ddK_few hk
  have I2 : Inv X pins σ H1 { s1 with heap := h', toks := tk } := I1.kept kp
  refine call_len_set ho hex hdt R.fits (by omega) ⟨.int (ddK ks).length, H1, I2.tok _, ⟨_, by rw [e]⟩, q1⟩
theorem trips_pick {bs : List Trip} {L : List Ent} (h : ∀ p ∈ L, ∃ b ∈ bs, RelV b.1 p.1 ∧ b.2 = p.2.data) : ∃ cs : List Trip, PySem.W.EachIs TripR (L.map (·.1)) cs ∧ (∀ c ∈ cs, c ∈ bs) ∧ cs.map (·.2) = (L.map (·.2)).map NestedKey.data := by
  induction L with
  | nil => exact ⟨[], .nil, fun c hc => (nomatch hc), rfl⟩
  | cons p L ih =>
    obtain ⟨b, hb, r, e⟩ := h p List.mem_cons_self
    obtain ⟨cs, h1, h2, h3⟩ := ih fun q hq => h q (List.mem_cons_of_mem _ hq)
    refine ⟨b :: cs, .cons r h1, fun c hc => ?_, by rw [List.map_cons, h3, e] <;> rfl⟩
    rcases List.mem_cons.mp hc with z | z
    · rw [z]; exact hb
    · exact h2 c z
theorem each_perm {us vs : List Value} (p : vs.Perm us) : ∀ {bs : List Trip}, PySem.W.EachIs TripR us bs → ∃ cs, cs.Perm bs ∧ PySem.W.EachIs TripR vs cs := by
  induction p with
  | nil => intro bs h; cases h; exact ⟨[], .nil, .nil⟩
  | cons x _ ih =>
    intro bs h
    cases h with
    | cons h1 t =>
      obtain ⟨cs, p, q⟩ := ih t
      exact ⟨_ :: cs, p.cons _, .cons h1 q⟩
  | swap x y _ =>
    intro bs h
    cases h with
    | cons h1 t =>
      cases t with
      | cons h2 t => exact ⟨_, .swap _ _ _, .cons h2 (.cons h1 t)⟩
  | trans _ _ ih1 ih2 =>
    intro bs h
    obtain ⟨c1, p1, q1⟩ := ih2 h
    obtain ⟨c2, p2, q2⟩ := ih1 q1
    exact ⟨c2, p2.trans p1, q2⟩
theorem pe_srtSetD (hc : X.calm = true) (hu : X.A.units + 64 < cLine) (hg : Gl X "sorted") (hm : X.mg "sorted" = none) (hg2 : Gl X "set") (hm2 : X.mg "set" = none) (ha : PE X a ta) (na : starEach [a] X.env = (false, eval a X.env) :: starEach [] X.env := by rfl) :
    PE X (.Call (.Name "sorted" p) [.Call (.Name "set" p2) [a] [] q] [] pos) (tSrtSetD X.K ta) := by
  refine ⟨fun pins s σ H Q I h => ?_⟩
  refine Call_ (ld_blt I hg hm PyProof.Rows.boot_sorted ?_)
  refine PyProof.Rows.callWith_builtin1 (PyProof.Rows.args_cons ?_ rfl) rfl rfl
  refine Call_ (ld_blt I hg2 hm2 PyProof.Rows.boot_set ?_)
  refine PyProof.Rows.callWith_type1 (PyProof.Rows.args_cons (thn (ha.run pins s σ H _ I h) fun v s1 ⟨x, H1, I1, r1, q1⟩ => PyProof.Rows.args_nil ?_) na) na rfl
  obtain ⟨l, xs, ds, ks, rfl, hs, hd, he, hk, hso, q1⟩ := q1
  cases r1
  refine set_made hc hu I1 hs hd he hk fun h' tk L es ep t R pm hL kp => ?_
  refine PyProof.Rows.args_nil ?_
  obtain ⟨o, ho, hex, hdt⟩ := R.ob
  obtain ⟨cs, c1, c2, c3⟩ := trips_pick hL
  have few := R.few
  have I2 : Inv X pins σ H1 { s1 with heap := h', toks := tk } := I1.kept kp
  have pd : (cs.map (·.2)).Perm ((ddK ks).map NestedKey.data) := by rw [c3]; exact pm.map _
  have okc : okSort (cs.map (·.2)) = true := by rw [okSort_perm pd]; exact hso
  have hes : es.toList.map (·.2) = L.map (·.1) := by
    rw [R.rows]
    unfold hrows
    rw [List.map_map] <;> rfl
  have lc : cs.length = L.length := by
    have := congrArg List.length c3
    simpa using this
  have reads : ∀ {s2 : Shared}, (∀ b u, s1.heap.get? b = some u → s2.heap.get? b = some u) → ∀ {vs : List Value} {bs : List Trip}, PySem.W.EachIs TripR vs bs → (∀ b ∈ bs, b ∈ cs) → PySem.W.EachIs (fun v (b : Trip) => ∃ as, Reads s2.heap v b.2 as) vs bs := fun {s2} kp2 {vs bs} e => by
    induction e with
    | nil => intro _; exact .nil
    | @cons v b vs bs h1 t ih =>
      intro hb
      have hz : ∀ {xs : List V} {ds : List D}, DpAll X.K H1 xs ds → ∀ b ∈ xs.zip ds, Dp X.K H1 b.1 b.2 := by
        intro xs
        induction xs with
        | nil => intro ds _ b hb; cases hb
        | cons x xs ih =>
          intro ds hd b hb
          cases hd with
          | cons g1 g2 =>
            rcases List.mem_cons.mp hb with e | e
            · rw [e]; exact g1
            · exact ih g2 b e
      obtain ⟨as, r⟩ := Dp.reads I1 b.2 b.1 v (hz hd b (c2 b (hb b List.mem_cons_self))) h1
      exact .cons ⟨as, PyProof.Rows.Reads.keeps kp2 r⟩ (ih fun c hc => hb c (List.mem_cons_of_mem _ hc))
  refine sorted_of (K := fun vs s2 => (∀ b u, h'.get? b = some u → s2.heap.get? b = some u) ∧ h'.objs.size ≤ s2.heap.objs.size ∧ s2.gens = s1.gens ∧ s2.os = s1.os ∧ vs.Perm (L.map (·.1))) (fun F hF => ?_) (fun vs s2 ⟨k1, k2, k3, k4, k5⟩ => ?_) hu
  · refine collect_set (by rw [show X.A.in1.handled = X.A.handled from rfl]; exact I2.ok.hd hc) ⟨o, ho, hex.1, hdt⟩ R.fits (by rw [hrows_size R.rows]; unfold scanBound; omega) R.ris R.led fun s2 vs k1 k2 k3 k4 k5 => hF vs s2 ⟨k1, k2, k3, k4, ?_⟩
    rw [hes] at k5
    exact k5
  · obtain ⟨bs, b1, b2⟩ := each_perm k5 c1
    have bo : (bs.map (·.2)).Perm ((ddK ks).map NestedKey.data) := (b1.map (·.2)).trans pd
    have okb : okSort (bs.map (·.2)) = true := by rw [okSort_perm bo]; exact hso
    have kall : ∀ b u, s1.heap.get? b = some u → s2.heap.get? b = some u := fun b u e => k1 b u (kp b u e)
    refine ⟨bs, b2, reads kall b2 fun b hb => b1.mem_iff.mp hb, okb, by rw [b1.length_eq, lc, sizeLine_eq]; omega, fun out bs' h2 c e1 e2 e3 e4 e5 => ?_⟩
    have hp : s1.heap.objs.size ≤ s2.heap.objs.size := Nat.le_trans (by
      have := R.ob
      exact Nat.le_of_lt (Heap.lt_size ho)) k2
    have hn : H1 s2.heap.objs.size = none := I1.hok.fresh hp
    have J : Inv X pins σ (upd H1 s2.heap.objs.size (.lst (bs'.map (·.1)))) { s2 with heap := h2 } := by
      refine I1.call' (ch := []) k4 (Un.laid (fun b u e => e4 b u (kall b u e)) hp hn) (I1.hok.laid (fun b u e => e4 b u (kall b u e)) hp ⟨?_, out, c, trips_vals e1, e5⟩) (by rw [show ({ s2 with heap := h2 } : Shared).gens = s2.gens from rfl, k3]; exact I1.bare) (fun _ z => nomatch z)
      rw [List.length_map, e2.length_eq, b1.length_eq, lc, sizeLine_eq]
      omega
    refine ⟨.ref s2.heap.objs.size, _, J, rfl, q1 bs' _ (fun b hb => c2 b (b1.mem_iff.mp (e2.mem_iff.mp hb))) ?_ hn⟩
    rw [e3]
    exact srt_any bo (okSort_alike okb)
end
end DD
end T_DK8

section T_DK9
set_option Elab.async false
set_option linter.all false
set_option maxRecDepth 100000
set_option maxHeartbeats 1000000
set_option autoImplicit false
namespace DD
open PySem PySem.Spec L2
open PyProof.Rows hiding St

/-! ### dict(pairs): how many keys -/
def pairsD : List D → Option (List (D × D))
  | [] => some []
  | .tuple [k, v] :: ds => (pairsD ds).map ((k, v) :: ·)
  | _ :: _ => none
theorem pairsD_data : ∀ {ds : List D} {ps : List (D × D)}, pairsD ds = some ps → ds = ps.map fun p => .tuple [p.1, p.2]
  | [], ps, h => by simp only [pairsD, Option.some.injEq] at h; subst h; rfl
  | d :: ds, ps, h => by
    unfold pairsD at h
    split at h
    · cases ‹_ :: _ = []›
    · rename_i k v ds' e
      obtain ⟨e1, e2⟩ := List.cons.inj e
      subst e1
      subst e2
      cases q : pairsD ds with
      | none => rw [q] at h; cases h
      | some ps' =>
        rw [q] at h
        simp only [Option.map_some, Option.some.injEq] at h
        subst h
        rw [List.map_cons, ← pairsD_data q]
    · cases h
section
variable {K : Type} [DecidableEq K]
theorem stored_keys (kvs : List (K × Value)) (k : K) (v : Value) (j : K) : j ∈ (stored kvs k v).map (·.1) ↔ j ∈ kvs.map (·.1) ∨ j = k := by
  unfold stored
  split
  · rename_i h
    have e : (kvs.map fun kv => if kv.1 = k then (kv.1, v) else kv).map (·.1) = kvs.map (·.1) := by
      rw [List.map_map]
      refine List.map_congr_left fun x _ => ?_
      show (if x.1 = k then (x.1, v) else x).1 = x.1
      split <;> rfl
    rw [e]
    obtain ⟨x, hx, hk⟩ := List.any_eq_true.mp h
    have hk' : x.1 = k := of_decide_eq_true hk
    exact ⟨.inl, fun z => z.elim id fun e => by rw [e, ← hk']; exact List.mem_map.mpr ⟨x, hx, rfl⟩⟩
  · rw [List.map_append, List.mem_append]
    simp
theorem merged_keys : ∀ (more kvs : List (K × Value)) (j : K), j ∈ (merged kvs more).map (·.1) ↔ j ∈ kvs.map (·.1) ∨ j ∈ more.map (·.1)
  | [], kvs, j => by simp [merged]
  | x :: more, kvs, j => by
    show j ∈ (merged (stored kvs x.1 x.2) more).map (·.1) ↔ _
    rw [merged_keys more, stored_keys, List.map_cons, List.mem_cons]
    exact ⟨fun z => z.elim (fun z => z.elim .inl fun e => .inr (.inl e)) fun z => .inr (.inr z), fun z => z.elim (fun z => .inl (.inl z)) fun z => z.elim (fun e => .inl (.inr e)) .inr⟩
theorem storedH_keys (xs : List (K × Addr × Value)) (k : K) (a : Addr) (v : Value) (j : K) : j ∈ (storedH xs k a v).map (·.1) ↔ j ∈ xs.map (·.1) ∨ j = k := by
  cases h : atKey xs k with
  | some p =>
    rw [storedH_old h, keys_map_putAt]
    refine ⟨.inl, fun z => z.elim id fun e => ?_⟩
    unfold atKey at h
    obtain ⟨x, hx, _⟩ := Option.map_eq_some_iff.mp h
    have h1 := List.find?_some hx
    have h2 := List.mem_of_find?_eq_some hx
    rw [e]
    exact List.mem_map.mpr ⟨x, h2, of_decide_eq_true h1⟩
  | none =>
    rw [storedH_new h, List.map_append, List.mem_append]
    simp
theorem storedAllH_keys : ∀ (ps xs : List (K × Addr × Value)) (j : K), j ∈ (storedAllH xs ps).map (·.1) ↔ j ∈ xs.map (·.1) ∨ j ∈ ps.map (·.1)
  | [], xs, j => by simp [storedAllH]
  | x :: ps, xs, j => by
    show j ∈ (storedAllH (storedH xs x.1 x.2.1 x.2.2) ps).map (·.1) ↔ _
    rw [storedAllH_keys ps, storedH_keys, List.map_cons, List.mem_cons]
    exact ⟨fun z => z.elim (fun z => z.elim .inl fun e => .inr (.inl e)) fun z => .inr (.inr z), fun z => z.elim (fun z => .inl (.inl z)) fun z => z.elim (fun e => .inl (.inr e)) .inr⟩
end
/-- the keys of a dict of pairs -/
def dictKeysD (ds : List D) : T (List NestedKey) := match pairsD ds with
  | some ps => setD (ps.map (·.1))
  | none => .fail
/-- what a list of pairs is, in the heap -/
structure PairsAt (H : Hp) (s : Shared) (K : PySem.W.Frag) (ps : List (D × D)) (its : List Value) where
  Ts : Nat → Addr
  kv : List (Value × Value)
  len : kv.length = ps.length
  items : PairItems s.heap its.toArray Ts kv
  key : ∀ (i : Nat) (k v : Value), kv[i]? = some (k, v) → ∃ p : D × D, ps[i]? = some p ∧ ∃ x, Dp K H x p.1 ∧ RelV x k
theorem pairs_at {X : Cx} {pins : List (Addr × Obj)} {σ : L2.St} {H : Hp} {s : Shared} (I : Inv X pins σ H s) : ∀ {ps : List (D × D)} {xs : List V} {its : List Value}, Vals xs its → DpAll X.K H xs (ps.map fun p => .tuple [p.1, p.2]) → Nonempty (PairsAt H s X.K ps its)
  | [], _, _, r, h => by
    cases h
    cases r
    exact ⟨⟨fun _ => 0, [], rfl, ⟨rfl, fun j k v e => by simp at e⟩, fun i k v e => by simp at e⟩⟩
  | p :: ps, _, _, r, h => by
    rw [List.map_cons] at h
    cases h with
    | @cons v vs d ds h1 h2 =>
      cases r with
      | @cons _ u _ us r1 r2 =>
        obtain ⟨T⟩ := pairs_at I r2 h2
        cases h1 with
        | @tup a ys _ e1 e2 =>
          obtain ⟨its, rv, ht, _⟩ := I.tuple e1
          cases e2 with
          | @cons y1 _ _ _ g1 g2 =>
            cases g2 with
            | @cons y2 _ _ _ g2 g3 =>
              cases g3
              obtain ⟨u1, u2, rfl, ru1, ru2⟩ := vals2 rv
              have eu : u = .ref a := r1
              subst eu
              refine ⟨⟨fun i => match i with | 0 => a | i + 1 => T.Ts i, (u1, u2) :: T.kv, by rw [List.length_cons, List.length_cons, T.len], ⟨?_, fun j k v e => ?_⟩, fun i k v e => ?_⟩⟩
              · have := T.items.1
                simp only [List.size_toArray, List.length_cons] at this ⊢
                omega
              · cases j with
                | zero =>
                  simp only [List.getElem?_cons_zero, Option.some.injEq, Prod.mk.injEq] at e
                  obtain ⟨rfl, rfl⟩ := e
                  exact ⟨rfl, .inl ht⟩
                | succ j =>
                  simp only [List.getElem?_cons_succ] at e
                  obtain ⟨q1, q2⟩ := T.items.2 j k v e
                  refine ⟨?_, q2⟩
                  simpa using q1
              · cases i with
                | zero =>
                  simp only [List.getElem?_cons_zero, Option.some.injEq, Prod.mk.injEq] at e
                  obtain ⟨rfl, rfl⟩ := e
                  exact ⟨p, rfl, y1, g1, ru1⟩
                | succ i =>
                  simp only [List.getElem?_cons_succ] at e
                  exact T.key i k v e
theorem nkAll_get : ∀ {ds : List D} {ks : List NestedKey} {i : Nat} {d : D}, nkAll ds = some ks → ds[i]? = some d → ∃ k, ks[i]? = some k ∧ nkD d = some k
  | [], _, i, d, _, e => by simp at e
  | x :: ds, ks, i, d, h, e => by
    simp only [nkAll] at h
    cases e1 : nkD x with
    | none => rw [e1] at h; cases h
    | some k =>
      cases e2 : nkAll ds with
      | none => rw [e1, e2] at h; cases h
      | some kl =>
        rw [e1, e2] at h
        simp only [Option.some.injEq] at h
        subst h
        cases i with
        | zero =>
          simp only [List.getElem?_cons_zero, Option.some.injEq] at e
          subst e
          exact ⟨k, rfl, e1⟩
        | succ i =>
          simp only [List.getElem?_cons_succ] at e
          obtain ⟨k', g1, g2⟩ := nkAll_get e2 e
          exact ⟨k', by simpa using g1, g2⟩
def keyN : NestedKey → Key
  | .num i => .inl i
  | .text x => .inr x
  | _ => .inl 0
theorem nkK_keyN {k : NestedKey} (h : leafK k = true) : nkK (keyN k) = k := by
  cases k <;> first | rfl | cases h
theorem ddK_count {ks : List NestedKey} {K : Type} [DecidableEq K] {l : List K} {f : K → NestedKey} (hn : l.Nodup) (hf : ∀ x ∈ l, ∀ y ∈ l, f x = f y → x = y) (hm : ∀ k, k ∈ l.map f ↔ k ∈ ks) : l.length = (ddK ks).length := by
  have nd : (l.map f).Nodup := List.pairwise_map.mpr (List.Pairwise.imp_of_mem (fun {a b} ha hb hne e => hne (hf a ha b hb e)) hn)
  have p : (l.map f).Perm (ddK ks) := (List.perm_ext_iff_of_nodup nd (ddK_nodup ks)).mpr fun k => by rw [hm, ddK_mem]
  have := p.length_eq
  rw [List.length_map] at this
  exact this
/-- len(dict(e)) -/
def tLenDictD (K : PySem.W.Frag) (ta : TE) : TE := fun σ H Q => ta σ H fun x H1 => ∃ (a : Addr) (xs : List V) (ps : List (D × D)) (ks : List NestedKey), x = .ref a ∧ SqL K H1 a xs ∧ DpAll K H1 xs (ps.map fun p => .tuple [p.1, p.2]) ∧ nkAll (ps.map (·.1)) = some ks ∧ okSet ks = true ∧ Q (.int (ddK ks).length) H1
section
variable {X : Cx} {a : Expr} {ta : TE} {p p2 q pos : Pos}
theorem pe_lenDictD (hc : X.calm = true) (hu : X.A.units + 64 < cLine) (hg : Gl X "len") (hm : X.mg "len" = none) (hg2 : Gl X "dict") (hm2 : X.mg "dict" = none) (ha : PE X a ta) (na : starEach [a] X.env = (false, eval a X.env) :: starEach [] X.env := by rfl) :
    PE X (.Call (.Name "len" p) [.Call (.Name "dict" p2) [a] [] q] [] pos) (tLenDictD X.K ta) := by
  refine ⟨fun pins s σ H Q I h => ?_⟩
  refine Call_ (ld_blt I hg hm PySem.boot_len ?_)
  refine PyProof.Rows.callWith_builtin1 (PyProof.Rows.args_cons ?_ rfl) rfl rfl
  refine Call_ (ld_blt I hg2 hm2 PyProof.Rows.boot_dict ?_)
  refine PyProof.Rows.callWith_type1 (PyProof.Rows.args_cons (thn (ha.run pins s σ H _ I h) fun v s1 ⟨x, H1, I1, r1, q1⟩ => PyProof.Rows.args_nil ?_) na) na rfl
  obtain ⟨l, xs, ps, ks, rfl, hs, hd, he, hk, q1⟩ := q1
  cases r1
  obtain ⟨its, rv, ⟨o, n, ho, hcl, hdc, hdt⟩, hz⟩ := I1.list hs
  obtain ⟨T⟩ := pairs_at I1 rv hd
  have hk0 := hk
  unfold okSet at hk
  rw [Bool.and_eq_true, Bool.or_eq_true, decide_eq_true_eq] at hk
  have lk : ks.length = ps.length := by rw [nk_len he, List.length_map]
  have few := hk.2
  have fdd := ddK_few hk0
  have hn : (s1.heap.objs.size == sysModules) = false := beq_eq_false_iff_ne.mpr (Nat.ne_of_gt I1.big)
  have hh : X.A.handled = none := I1.ok.hd hc
  have OKl : PlainSeq "list" s1.heap l its.toArray ∧ PairItems s1.heap its.toArray T.Ts T.kv := ⟨⟨o, n, ho, hcl, hdc, hdt⟩, T.items⟩
  -- the key of the i-th pair
  have key : ∀ i k v, T.kv[i]? = some (k, v) → ∃ kn x d, ks[i]? = some kn ∧ nkD d = some kn ∧ Dp X.K H1 x d ∧ RelV x k := fun i k v e => by
    obtain ⟨p, hp, x, hx, r⟩ := T.key i k v e
    obtain ⟨kn, h1, h2⟩ := nkAll_get he (i := i) (d := p.1) (by rw [List.getElem?_map, hp] <;> rfl)
    exact ⟨kn, x, p.1, h1, h2, hx, r⟩
  rcases hk.1 with z | z
  · -- ints and texts
    have hkl : ∀ k ∈ ks, leafK k = true := fun k hk => List.all_eq_true.mp z k hk
    refine call_dict_pairs (knd := mixKind X.prog X.w) (kvs := (List.range T.kv.length).map fun i => (keyN (ks.getD i .none), (T.kv.getD i (.none, .none)).2)) (PairArg.list l its.toArray T.Ts T.kv) hh OKl ⟨by simp, fun i k v e => ?_⟩ (by rw [T.len, ← lk, sizeLine_eq]; omega) fun h' tk dd kp => ?_
    · have e' : T.kv[i]? = some (k, v) := e
      have hi : i < T.kv.length := (List.getElem?_eq_some_iff.mp e').1
      obtain ⟨kn, x, d, h1, h2, h3, h4⟩ := key i k v e'
      have hl := hkl kn (List.mem_of_getElem? h1)
      have eg : ks.getD i .none = kn := by rw [List.getD_eq_getElem?_getD, h1] <;> rfl
      have ev : (T.kv.getD i (.none, .none)).2 = v := by rw [List.getD_eq_getElem?_getD, e'] <;> rfl
      refine ⟨keyN kn, ?_, ?_⟩
      · rw [List.getElem?_map, List.getElem?_range hi]
        show some (keyN (ks.getD i .none), (T.kv.getD i (Value.none, Value.none)).2) = _
        rw [eg, ev]
      · have dk := nkD_data d kn h2
        rw [← dk] at h3
        cases kn with
        | num j => cases h3; exact kV_is (k := .inl j) h4
        | text y => cases h3; exact kV_is (k := .inr y) h4
        | _ => cases hl
    · refine PyProof.Rows.args_nil ?_
      have nd := (Heap.dictOf_iff.mp dd)
      have I2 : Inv X pins σ H1 { s1 with heap := h', toks := tk } := I1.kept fun b o e => kp b o (fun z => nomatch z) e
      have cnt : (merged [] ((List.range T.kv.length).map fun i => (keyN (ks.getD i .none), (T.kv.getD i (.none, .none)).2))).length = (ddK ks).length := by
        obtain ⟨o', es, ep, _, _, _, _, _, nd⟩ := dd
        have c := ddK_count (ks := ks) (f := nkK) nd (fun x _ y _ e => nk_inj e) fun k => ?_
        · rw [List.length_map] at c
          exact c
        · rw [List.mem_map]
          constructor
          · rintro ⟨j, hj, rfl⟩
            rw [merged_keys] at hj
            rcases hj with hj | hj
            · cases hj
            · rw [List.map_map] at hj
              obtain ⟨i, hi, e⟩ := List.mem_map.mp hj
              have hi' : i < ks.length := by rw [lk, ← T.len]; exact List.mem_range.mp hi
              have e' : keyN (ks.getD i .none) = j := e
              have eg : ks.getD i .none = ks[i] := by rw [List.getD_eq_getElem?_getD, List.getElem?_eq_getElem hi'] <;> rfl
              rw [← e', eg, nkK_keyN (hkl _ (List.getElem_mem hi'))]
              exact List.getElem_mem hi'
          · intro hk'
            obtain ⟨i, hi, e⟩ := List.getElem_of_mem hk'
            refine ⟨keyN k, ?_, nkK_keyN (hkl k hk')⟩
            rw [merged_keys, List.map_map]
            refine .inr (List.mem_map.mpr ⟨i, List.mem_range.mpr (by rw [T.len, ← lk]; exact hi), ?_⟩)
            show keyN (ks.getD i .none) = keyN k
            rw [List.getD_eq_getElem?_getD, List.getElem?_eq_getElem hi, ← e] <;> rfl
      refine call_len_dict hn dd (by rw [cnt]; omega) ⟨.int (ddK ks).length, H1, I2.tok _, ⟨_, by rw [cnt]⟩, q1⟩
  · -- tuples
    have hkt : ∀ k ∈ ks, tupK k = true := fun k hk => List.all_eq_true.mp z k hk
    have adr : ∀ i k v, T.kv[i]? = some (k, v) → ∃ kn b, ks[i]? = some kn ∧ k = Value.ref b ∧ (nestedKind X.prog X.w).is s1.heap kn b := fun i k v e => by
      obtain ⟨kn, x, d, h1, h2, h3, h4⟩ := key i k v e
      obtain ⟨as, rd⟩ := Dp.reads I1 d x k h3 h4
      have ni := reads_key d kn k as h2 rd
      have ht := hkt kn (List.mem_of_getElem? h1)
      cases kn with
      | tup kk =>
        have ht' : decide ((NestedKey.tup kk).depth ≤ 8) = true := ht
        cases ni with
        | tup a1 a2 a3 a4 => exact ⟨_, _, h1, rfl, .tup a1 a2 a3 a4, of_decide_eq_true ht'⟩
      | _ => cases ht
    let bOf : Value → Addr := fun v => match v with | .ref b => b | _ => 0
    let psH : List (NestedKey × Addr × Value) := (List.range T.kv.length).map fun i => (ks.getD i .none, bOf (T.kv.getD i (.none, .none)).1, (T.kv.getD i (.none, .none)).2)
    have psAt : ∀ i k v, T.kv[i]? = some (k, v) → ∃ kn b, psH[i]? = some (kn, b, v) ∧ k = Value.ref b ∧ (nestedKind X.prog X.w).is s1.heap kn b := fun i k v e => by
      obtain ⟨kn, b, h1, h2, h3⟩ := adr i k v e
      have hi : i < T.kv.length := (List.getElem?_eq_some_iff.mp e).1
      refine ⟨kn, b, ?_, h2, h3⟩
      have eg : ks.getD i .none = kn := by rw [List.getD_eq_getElem?_getD, h1] <;> rfl
      have ev : T.kv.getD i (.none, .none) = (k, v) := by rw [List.getD_eq_getElem?_getD, e] <;> rfl
      show ((List.range T.kv.length).map _)[i]? = _
      rw [List.getElem?_map, List.getElem?_range hi]
      show some (ks.getD i .none, bOf (T.kv.getD i (.none, .none)).1, (T.kv.getD i (.none, .none)).2) = _
      rw [eg, ev, h2]
    have psL : psH.length = T.kv.length := by
      show ((List.range T.kv.length).map _).length = _
      rw [List.length_map, List.length_range]
    refine call_dict_pairsH (knd := nestedKind X.prog X.w) (ps := psH) (PairArg.list l its.toArray T.Ts T.kv) hh (show X.A.units + 2 + 8 < cLine by omega) OKl ⟨psL, fun i k v e => ?_⟩ (fun h' kp x hx => ?_) (by rw [T.len, ← lk, sizeLine_eq]; omega) fun h' tk dd kp => ?_
    · obtain ⟨kn, b, h1, h2, _⟩ := psAt i k v e
      exact ⟨kn, b, h1, h2⟩
    · obtain ⟨i, hi, e⟩ := List.getElem_of_mem hx
      have hi' : i < T.kv.length := by rw [← psL]; exact hi
      obtain ⟨kn, b, h1, h2, h3, h4⟩ := psAt i _ _ (List.getElem?_eq_getElem hi')
      have ex : x = (kn, b, T.kv[i].2) := by
        rw [List.getElem?_eq_getElem hi, Option.some.injEq, e] at h1
        exact h1
      subst ex
      exact ⟨NestedIs.at (fun b' ob vs n hb _ => kp b' ob (Nat.ne_of_lt (Heap.lt_size hb)) (fun z => nomatch z) hb) _ _ h3, h4⟩
    · refine PyProof.Rows.args_nil ?_
      have I2 : Inv X pins σ H1 { s1 with heap := h', toks := tk } := I1.kept fun b o e => kp b o (fun z => nomatch z) e
      have cnt : (storedAllH [] psH).length = (ddK ks).length := by
        obtain ⟨o', es, ep, _, _, _, _, _, nd⟩ := dd
        have c := ddK_count (ks := ks) (f := id) nd (fun x _ y _ e => e) fun k => ?_
        · rw [List.length_map] at c
          exact c
        · rw [List.map_id, storedAllH_keys]
          constructor
          · rintro (hj | hj)
            · cases hj
            · obtain ⟨x, hx, rfl⟩ := List.mem_map.mp hj
              obtain ⟨i, hi, rfl⟩ := List.mem_map.mp hx
              have hi' : i < ks.length := by rw [lk, ← T.len]; exact List.mem_range.mp hi
              show ks.getD i .none ∈ ks
              rw [List.getD_eq_getElem?_getD, List.getElem?_eq_getElem hi']
              exact List.getElem_mem hi'
          · intro hk'
            obtain ⟨i, hi, e⟩ := List.getElem_of_mem hk'
            refine .inr (List.mem_map.mpr ⟨_, List.mem_map.mpr ⟨i, List.mem_range.mpr (by rw [T.len, ← lk]; exact hi), rfl⟩, ?_⟩)
            show ks.getD i .none = k
            rw [List.getD_eq_getElem?_getD, List.getElem?_eq_getElem hi, ← e] <;> rfl
      refine call_len_dictH hn dd (by rw [cnt]; omega) ⟨.int (ddK ks).length, H1, I2.tok _, ⟨_, by rw [cnt]⟩, q1⟩
end
end DD
end T_DK9

section T_DR
set_option Elab.async false
set_option linter.all false
set_option maxRecDepth 100000
set_option maxHeartbeats 1000000
set_option autoImplicit false
namespace DD
open PySem PySem.Spec L2
open PyProof.Rows hiding St

/-! ### t[::-1] of a tuple -/
theorem adj_rev (n : Nat) : Builtin.Slice.sliceAdjust none none (-1) (n : Int) = ((n : Int) - 1, -1) := by
  unfold Builtin.Slice.sliceAdjust
  simp
theorem places_rev (n : Nat) : Builtin.Slice.slicePlaces ((n : Int) - 1) (-1) (-1) = n := by
  unfold Builtin.Slice.slicePlaces
  simp
  omega
theorem pick_rev (xs : Array Value) : ((List.range xs.size).filterMap fun (k : Nat) => xs[((xs.size : Int) - 1 + (k : Int) * (-1)).toNat]?).toArray = xs.toList.reverse.toArray := by
  have e : ((List.range xs.size).filterMap fun (k : Nat) => xs[((xs.size : Int) - 1 + (k : Int) * (-1)).toNat]?) = ((List.range xs.size).map fun k => xs.size - 1 - k).filterMap (xs[·]?) := by
    rw [List.filterMap_map]
    have key : ∀ l : List Nat, (∀ k ∈ l, k < xs.size) → l.filterMap (fun (k : Nat) => xs[((xs.size : Int) - 1 + (k : Int) * (-1)).toNat]?) = l.filterMap ((xs[·]?) ∘ fun k => xs.size - 1 - k) := by
      intro l
      induction l with
      | nil => intro _; rfl
      | cons k l ih =>
        intro h
        have hk := h k List.mem_cons_self
        have : ((xs.size : Int) - 1 + (k : Int) * (-1)).toNat = xs.size - 1 - k := by omega
        rw [List.filterMap_cons, List.filterMap_cons, ih fun j hj => h j (List.mem_cons_of_mem _ hj)]
        rw [this] <;> rfl
    exact key _ fun k hk => List.mem_range.mp hk
  rw [e, PySem.W.krv_range, List.filterMap_reverse, PySem.W.krv_all]
section
variable {P : Program} {w : World} {A : Around} {E : Value → Shared → Prop} {s : Shared}
theorem getItem_tuple_rev {t sl : Addr} {items : Array Value} {vs : Value} {Q : Value → Shared → Prop} (ht : IsTup s.heap t items) (hs : s.heap.IsSliceOf sl .none .none vs) (ps : IsPart vs (some (-1)))
    (h : Q (.ref s.heap.objs.size) { s with heap := s.heap.push { cls := .type "tuple", data := .seq items.toList.reverse.toArray } }) (hsz : items.size ≤ sizeLine) : wpAny (model P w) A (getItem (.ref t) (.ref sl)) Q E s := by
  obtain ⟨os, hos, hcs, hds⟩ := id hs
  have hTs : s.TypeIs (.ref sl) "slice" := ⟨os, hos, hcs⟩
  have hz : sizeOk (.seq items.toList.reverse.toArray) := by
    show items.toList.reverse.toArray.size ≤ sizeLine
    rw [List.size_toArray, List.length_reverse, Array.length_toList]
    exact hsz
  unfold getItem
  try with_reducible refine wpAny_holding ?_
  refine wpAny_bind (wpAny_sequenceKey ht.typeIs (by decide) ?_)
  refine wpAny_bind (wpAny_callSpecial?_slot (name := Str.ofString "__getitem__") ht.typeIs PyProof.Rows.slot_tuple_getitem (wpAny_call_entry PyProof.Rows.slot_tuple_getitem ht.typeIs entry_tuple_getitem ?_ (args_tuple_getitem _ _)))
  show wpAny _ _ (Builtin.Tuple.tupleItemsOf (.ref t) >>= _) _ _ s
  refine wpAny_bind (tupleItemsOf_ ht ?_)
  refine wpAny_bind (wpAny_typeOf hTs ?_)
  rw [if_pos (by decide)]
  unfold Builtin.Slice.sliceApplied Builtin.Slice.sliceFields
  refine wpAny_bind (wpAny_bind (wpAny_bind (wpAny_field hos hds (x := .none) rfl (wpAny_bind (wpAny_field hos hds (x := .none) rfl (wpAny_bind (wpAny_field hos hds (x := vs) rfl (wpAny_pure ?_))))))))
  refine wpAny_bind (HT.slicePart_ ps ?_)
  show wpAny _ _ (if ((-1 : Int) == 0) = true then _ else _) _ _ s
  rw [if_neg (by decide)]
  refine wpAny_bind (HT.slicePart_ .none (wpAny_bind (HT.slicePart_ .none (wpAny_bind (wpAny_pure ?_)))))
  show wpAny _ _ (match Builtin.Slice.sliceAdjust none none (-1) (items.size : Int) with | (lo, hi) => pure (lo, (-1 : Int), Builtin.Slice.slicePlaces lo hi (-1))) _ _ s
  rw [adj_rev]
  show wpAny _ _ (pure (((items.size : Int) - 1), (-1 : Int), Builtin.Slice.slicePlaces ((items.size : Int) - 1) (-1) (-1))) _ _ s
  rw [places_rev]
  refine wpAny_pure ?_
  show wpAny _ _ (if (((items.size : Int) - 1) == 0 && (-1 : Int) == 1 && items.size == items.size) = true then _ else _) _ _ s
  rw [if_neg (by rw [show ((-1 : Int) == 1) = false from by decide, Bool.and_false, Bool.false_and]; exact Bool.false_ne_true), pick_rev]
  first
    | exact wpAny_bind (m := Builtin.Tuple.tupleExact _) (wpAny_newObj_type (wpAny_pure ⟨_, rfl, wpAny_pure h⟩) hz)
    | exact wpAny_bind (m := Builtin.Tuple.tupleExact _) (wpAny_newObj_type (wpAny_bind (wpAny_pure (wpAny_pure ⟨_, rfl, wpAny_pure h⟩))) hz)
    | exact wpAny_bind (wpAny_bind (m := Builtin.Tuple.tupleExact _) (wpAny_newObj_type (wpAny_pure (wpAny_pure ⟨_, rfl, wpAny_pure h⟩)) hz))
    | exact wpAny_bind (wpAny_bind (m := Builtin.Tuple.tupleExact _) (wpAny_newObj_type (wpAny_pure ⟨_, rfl, wpAny_pure h⟩) hz))
end
def tRevT (K : PySem.W.Frag) (te : TE) : TE := fun σ H Q => te σ H fun x H1 => ∃ a xs, x = .ref a ∧ SqT K H1 a xs ∧ ∀ p, H1 p = none → Q (.ref p) (upd H1 p (.tup xs.reverse))
theorem pe_revT {X : Cx} {e : Expr} {te : TE} {k : Nat} {p1 p2 p3 pos : Pos} (he : PE X e te) : PE X (.Subscript e (.Slice none none (some (.UnaryOp .USub (.Constant (.int 1) k p1) p2)) p3) pos) (tRevT X.K te) := by
  refine ⟨fun pins s σ H Q I h => ?_⟩
  refine Subscript_ (thn (he.run pins s σ H _ I h) fun v s1 ⟨x, H1, I1, r1, q1⟩ => ?_)
  obtain ⟨a, xs, rfl, hx, q⟩ := q1
  cases r1
  have hst : PO X (some (.UnaryOp .USub (.Constant (.int 1) k p1) p2)) (tPart (tUn (rU fun i => .int (-i)) (tC (.int 1)))) := po_some (pe_un un_neg pe_int)
  refine wpAny_Slice (thn (po_none.run pins s1 σ H1 (fun o H2 => o = none ∧ H2 = H1) I1 ⟨rfl, rfl⟩) fun vl s2 ⟨l, H2, I2, pl, el, e2⟩ => ?_)
  subst el e2
  refine thn (po_none.run pins s2 σ H2 (fun o H3 => o = none ∧ H3 = H2) I2 ⟨rfl, rfl⟩) fun vu s3 ⟨u, H3, I3, pu, eu, e3⟩ => ?_
  subst eu e3
  refine thn (hst.run pins s3 σ H3 (fun o H4 => o = some (-1) ∧ H4 = H3) I3 ⟨1, rfl, -1, rfl, rfl, rfl⟩) fun vs s4 ⟨o, H4, I4, ps, eo, e4⟩ => ?_
  subst eo e4
  cases pl
  cases pu
  have I5 : Inv X pins σ H4 { s4 with heap := s4.heap.push { cls := .type "slice", data := .fields #[.none, .none, vs] } } := I4.kept (t' := s4.toks) fun b ob q => Heap.get?_push_of_some _ q
  obtain ⟨its, r, ht, hz⟩ := I5.tuple hx
  have hlen := r.length
  show wpAny (model X.prog X.w) X.A (subscriptTail e (.Slice none none (some (.UnaryOp .USub (.Constant (.int 1) k p1) p2)) p3) (.ref a) (.ref s4.heap.objs.size)) (EP X pins σ Q) X.xe { s4 with heap := s4.heap.push { cls := .type "slice", data := .fields #[.none, .none, vs] } }
  refine tail_any (ops := [.ref a, .ref s4.heap.objs.size]) ht.typeIs (PyProof.Rows.slot_tuple_getitem.lookup) ?_ (by with_unfolding_all rfl)
  refine getItem_tuple_rev ht (Heap.IsSliceOf.new _ .none .none vs) ps ?_ (by rw [List.size_toArray]; omega)
  refine ⟨.ref _, _, I5.laid (t' := s4.toks) (o := .tup xs.reverse) (fun b ob q => Heap.get?_push_of_some _ q) (Nat.le_refl _) ?_, rfl, q _ (I5.hok.fresh (Nat.le_refl _))⟩
  refine ⟨by rw [List.length_reverse]; exact hz, its.reverse, r.reverse, ?_⟩
  have z := IsTup.new (s4.heap.push { cls := .type "slice", data := .fields #[.none, .none, vs] }) its.reverse.toArray
  simpa using z

/-! ### the rules -/
section
variable {X : Ctx} {q : Option Addr} {ρ : List Sl} {pos p p2 p3 p4 : Pos} {e : Expr} {k : Nat} {t : T D}
def seqD : D → Option (List D)
  | .list ds => some ds
  | .tuple ds => some ds
  | _ => none
def revD : D → T D
  | .tuple ds => .ret (.tuple ds.reverse)
  | _ => .fail
theorem dx_revT (h : DX X q ρ e t) : DX X q ρ (.Subscript e (.Slice none none (some (.UnaryOp .USub (.Constant (.int 1) k p) p2)) p3) pos) (t.bind revD) := fun σ Hb H g Q ok0 sl ht => by
  refine ⟨tRevT X.K (wE X e), fun z => pe_revT pe_w, ?_⟩
  refine h.run ok0 sl (T.ok_bind.mp ht) fun d g1 v Hb1 H1 c1 s1 ok1 sl1 d1 => ?_
  cases d1 with
  | tup e1 a1 => exact ⟨_, _, rfl, sqT_mono ok1.sub e1, fun p hp => c1 _ _ _ (s1.trans ok1 (.new ok1 hp)) (ok1.new hp) (.tup (SqT.of upd_same) (dnAll_mono (same_upd (ok1.sub.free hp)) _ _ (DnAll.rev a1)))⟩
  | _ => exact c1.elim
def lenSetD (d : D) : T D := match seqD d with
  | some ds => (setD ds).bind fun ks => .ret (.int ks.length)
  | none => .fail
theorem seqD_at {X : Ctx} {Hb H : Hp} {g : Nat} {v : V} {d : D} {ds : List D} (ok : Ok X.K q Hb H g) (h : Dn X.K Hb v d) (e : seqD d = some ds) : ∃ a xs, v = .ref a ∧ (SqL X.K H a xs ∨ SqT X.K H a xs) ∧ DnAll X.K Hb xs ds := by
  cases h <;> simp only [seqD] at e <;> first
    | (cases e; done)
    | skip
  · rename_i a xs ds' e1 a1
    cases e
    exact ⟨_, _, rfl, .inl (SqL.of (ok.sub _ _ e1)), a1⟩
  · rename_i a xs ds' e1 a1
    cases e
    exact ⟨_, _, rfl, .inr (sqT_mono ok.sub e1), a1⟩
theorem setD_ok {ds : List D} {g : Nat} {C : List NestedKey → Nat → Prop} (h : (setD ds).ok g C) : ∃ ks, nkAll ds = some ks ∧ okSet ks = true ∧ C (ddK ks) g := by
  unfold setD at h
  cases e : nkAll ds with
  | none => rw [e] at h; exact h.elim
  | some ks =>
    rw [e] at h
    obtain ⟨h1, h2⟩ := T.ok_need h
    exact ⟨ks, rfl, h1, h2⟩
theorem dx_lenSet (hu : X.A.units + 64 < cLine) (hg : Gb X "len") (hm : X.mg "len" = none) (hg2 : Gb X "set") (hm2 : X.mg "set" = none) (h : DX X q ρ e t) (na : ∀ env : Env, starEach [e] env = (false, eval e env) :: starEach [] env := by intro _; rfl) :
    DX X q ρ (.Call (.Name "len" p) [.Call (.Name "set" p2) [e] [] p3] [] pos) (t.bind lenSetD) := fun σ Hb H g Q ok0 sl ht => by
  refine ⟨tLenSetD X.K (wE X e), fun z => pe_lenSetD (X := X.at z) rfl hu (hg.gl z) hm (hg2.gl z) hm2 pe_w (na _), ?_⟩
  refine h.run ok0 sl (T.ok_bind.mp ht) fun d g1 v Hb1 H1 c1 s1 ok1 sl1 d1 => ?_
  unfold lenSetD at c1
  cases e1 : seqD d with
  | none => rw [e1] at c1; exact c1.elim
  | some ds =>
    rw [e1] at c1
    obtain ⟨ks, h1, h2, h3⟩ := setD_ok (T.ok_bind.mp c1)
    obtain ⟨a, xs, rfl, hs, hd⟩ := seqD_at ok1 d1 e1
    exact ⟨a, xs, ds, ks, rfl, hs, DnAll.dp _ _ (dnAll_mono ok1.sub _ _ hd), h1, h2, h3 _ _ _ s1 ok1 (.int _)⟩
def srtSetD (d : D) : T (List D) := match seqD d with
  | some ds => (setD ds).bind fun ks => .need (okSort (ks.map NestedKey.data)) (.ret (srtD (ks.map NestedKey.data)))
  | none => .fail
theorem df_srtSet (hu : X.A.units + 64 < cLine) (hg : Gb X "sorted") (hm : X.mg "sorted" = none) (hg2 : Gb X "set") (hm2 : X.mg "set" = none) (h : DX X q ρ e t) (na : ∀ env : Env, starEach [e] env = (false, eval e env) :: starEach [] env := by intro _; rfl) :
    DF X q ρ (.Call (.Name "sorted" p) [.Call (.Name "set" p2) [e] [] p3] [] pos) (t.bind srtSetD) := fun σ Hb H g Q ok0 sl ht => by
  refine ⟨tSrtSetD X.K (wE X e), fun z => pe_srtSetD (X := X.at z) rfl hu (hg.gl z) hm (hg2.gl z) hm2 pe_w (na _), ?_⟩
  refine h.run ok0 sl (T.ok_bind.mp ht) fun d g1 v Hb1 H1 c1 s1 ok1 sl1 d1 => ?_
  unfold srtSetD at c1
  cases e1 : seqD d with
  | none => rw [e1] at c1; exact c1.elim
  | some ds =>
    rw [e1] at c1
    obtain ⟨ks, h1, h2, h3⟩ := setD_ok (T.ok_bind.mp c1)
    obtain ⟨h4, h5⟩ := T.ok_need h3
    obtain ⟨a, xs, rfl, hs, hd⟩ := seqD_at ok1 d1 e1
    refine ⟨a, xs, ds, ks, rfl, hs, DnAll.dp _ _ (dnAll_mono ok1.sub _ _ hd), h1, h2, h4, fun bs l hb hb2 hl => ?_⟩
    refine h5 l _ Hb1 _ (s1.trans ok1 (.own hl)) (ok1.own hl) (ok1.sub.free hl) (step_free ok0 s1 (free_nq ok1 hl) hl) upd_same ?_
    rw [← hb2]
    exact dn_trips bs fun b hb' => trips_dn hd b (hb b hb')
def lenDictD : D → T D
  | .list ds => (dictKeysD ds).bind fun ks => .ret (.int ks.length)
  | _ => .fail
theorem dx_lenDict (hu : X.A.units + 64 < cLine) (hg : Gb X "len") (hm : X.mg "len" = none) (hg2 : Gb X "dict") (hm2 : X.mg "dict" = none) (h : DX X q ρ e t) (na : ∀ env : Env, starEach [e] env = (false, eval e env) :: starEach [] env := by intro _; rfl) :
    DX X q ρ (.Call (.Name "len" p) [.Call (.Name "dict" p2) [e] [] p3] [] pos) (t.bind lenDictD) := fun σ Hb H g Q ok0 sl ht => by
  refine ⟨tLenDictD X.K (wE X e), fun z => pe_lenDictD (X := X.at z) rfl hu (hg.gl z) hm (hg2.gl z) hm2 pe_w (na _), ?_⟩
  refine h.run ok0 sl (T.ok_bind.mp ht) fun d g1 v Hb1 H1 c1 s1 ok1 sl1 d1 => ?_
  cases d1 with
  | lst e1 a1 =>
    rename_i ds
    have c2 := T.ok_bind.mp (show ((dictKeysD ds).bind fun ks => T.ret (PyData.int (ks.length : Nat))).ok g1 _ from c1)
    unfold dictKeysD at c2
    cases e2 : pairsD ds with
    | none => rw [e2] at c2; exact c2.elim
    | some ps =>
      rw [e2] at c2
      obtain ⟨ks, h1, h2, h3⟩ := setD_ok c2
      refine ⟨_, _, ps, ks, rfl, SqL.of (ok1.sub _ _ e1), ?_, h1, h2, h3 _ _ _ s1 ok1 (.int _)⟩
      rw [← pairsD_data e2]
      exact DnAll.dp _ _ (dnAll_mono ok1.sub _ _ a1)
  | _ => exact c1.elim
theorem dx_cmpB {a b : Expr} {ta tb : T D} {op : CmpOp} {m : D → D → T Bool} (ho : DOB X q (compareOp op) m) (ha : DX X q ρ a ta) (hb : DX X q ρ b tb) (hm : behindInMarks op b = false) :
    DX X q ρ (.Compare a [op] [b] pos) (bo (ta.bind fun x => tb.bind fun y => m x y)) := by
  have h := dx_cmp (pos := pos) ho ha hb hm
  unfold bo
  simp only [T.bind_assoc]
  exact h
/-- len(x) of a list that this def grows -/
theorem dx_lenOw (i : Nat) {ds : List D} {x : Str} (hg : Gb X "len") (hm : X.mg "len" = none) (er : ρ[i]? = some (Sl.ow ds)) (hN : X.N[i]? = some x) (hv : Vis X.sc x) (hd : (x == ("__debug__" : Str)) = false := by decide) (hcd : (x == ("__classdict__" : Str)) = false := by decide)
    (he : ∀ env : Env, starEach [.Name x p2] env = (false, eval (.Name x p2) env) :: starEach [] env := by intro _; rfl) (hpl : ∀ env : Env, (backTo pos (starEach [] env)).any (·.1) = false := by intro _; rfl) :
    DX X q ρ (.Call (.Name "len" p) [.Name x p2] [] pos) (.ret (.int ds.length)) := fun σ Hb H g Q ok0 sl ht => by
  refine ⟨tCB (fun xs H Q => ∃ x n, xs = [x] ∧ LenV X.K x H n ∧ Q (.int n) H) (tCons (tVar i) tNil), fun z => pe_callB call_len (hg.gl z) hm PySem.boot_len (pa_cons (pe_var hN (by rw [z.hsc]; exact hv) hd hcd) pa_nil (he _)) (by decide) (by decide) (he _) (hpl _), ?_⟩
  obtain ⟨s, e1, pp, vs, e2, h1, h2, h3, h4⟩ := sl.rel i _ er
  subst e2
  refine ⟨_, e1, ?_⟩
  refine ⟨_, _, rfl, .inl ⟨_, SqL.of h1, rfl⟩, ?_⟩
  rw [DnAll.len h3]
  exact ht _ Hb H .refl ok0 (.int _)
end

/-! ### loops and branches, more -/
section
variable {X : Ctx} {q : Option Addr} {ρ : List Sl} {R S π : Type} {ε : R → En} {rest body : List Stmt} {pos : Pos} {tg iter : Expr} {η : S → List Sl} {s0 : S} {ts : T (List D)} {ix : List Nat} {dec : D → Option π} {env : S → π → List Sl}
/-- what falls through, or a result -/
def enS (ε : R → En) : R ⊕ D → En
  | .inl r => ε r
  | .inr d => .rt d
theorem ds_in {sts : List Stmt} {t : T R} (h : DS X q ρ sts (t.bind fun r => .ret (.inl r)) (enS ε)) : DS X q ρ sts t ε := fun σ Hb H g C ok0 sl ht =>
  h σ Hb H g C ok0 sl (T.ok_bind.mpr (T.ok_mono ht fun _ _ z => z))
theorem ds_out {sts : List Stmt} {t : T R} (h : DS X q ρ sts t ε) : DS X q ρ sts (t.bind fun r => .ret (.inl r)) (enS ε) := fun σ Hb H g C ok0 sl ht =>
  h σ Hb H g C ok0 sl (T.ok_mono (T.ok_bind.mp ht) fun _ _ z => z)
/-- a loop whose turns all fall through -/
theorem ds_forN {tb : S → π → T S} {k : S → T R} (di : DI X q ρ tg iter ts) (h0 : leR (η s0) ρ) (dg : ∀ s, DG X q (η s) ix tg dec (env s)) (hb : ∀ s b, DS X q (env s b) body (tb s b) fun s' => .nx (η s')) (hr : ∀ s, DS X q (η s) rest (k s) ε)
    (hs : ∀ (env : Env) (x : Value), foldedSetIterable iter env x = pure x := by intro _ _; rfl) :
    DS X q ρ (.For tg iter body [] pos :: rest) (ts.bind fun ds => (T.foldM (fun d s => (T.opt (dec d)).bind (tb s)) ds s0).bind k) ε := by
  refine ds_in ?_
  have h := ds_for (pos := pos) (k := fun s => (k s).bind fun r => .ret (.inl r)) di h0 dg hb (fun s => ds_out (hr s)) Sum.inr (fun _ => rfl) hs
  simp only [T.bind_assoc] at h ⊢
  exact h
/-- behind a loop out of which nothing is returned -/
def endF (k : S → T R) : O S → T R
  | .nx s => k s
  | .ct s => k s
  | .bk s => k s
  | .rt _ => .fail
/-- .. with continue and break alone -/
theorem ds_forB {tb : S → π → T (O S)} {k : S → T R} (di : DI X q ρ tg iter ts) (h0 : leR (η s0) ρ) (dg : ∀ s, DG X q (η s) ix tg dec (env s)) (hb : ∀ s b, DS X q (env s b) body (tb s b) (enO η)) (hr : ∀ s, DS X q (η s) rest (k s) ε)
    (hs : ∀ (env : Env) (x : Value), foldedSetIterable iter env x = pure x := by intro _ _; rfl) :
    DS X q ρ (.For tg iter body [] pos :: rest) (ts.bind fun ds => (T.loopM (fun d s => (T.opt (dec d)).bind (tb s)) ds s0).bind (endF k)) ε := by
  refine ds_in ?_
  have h := ds_forO (pos := pos) (k := fun s => (k s).bind fun r => .ret (.inl r)) (inj := Sum.inr) (ε := enS ε) di h0 dg hb (fun s => ds_out (hr s)) (fun _ => rfl) hs
  intro σ Hb H g C ok0 sl ht
  refine h σ Hb H g C ok0 sl ?_
  rw [T.ok_bind, T.ok_bind] at ht
  rw [T.ok_bind]
  refine T.ok_mono ht fun ds g1 c => ?_
  rw [T.ok_bind] at c ⊢
  refine T.ok_mono c fun o g2 c => ?_
  cases o with
  | rt d => exact c.elim
  | nx s => exact T.ok_bind.mpr c
  | ct s => exact T.ok_bind.mpr c
  | bk s => exact T.ok_bind.mpr c
/-- a branch that leaves -/
inductive Xx (S : Type) where
  | ct (s : S) | bk (s : S) | rt (d : D)
def Xx.o : Xx S → O S
  | .ct s => .ct s
  | .bk s => .bk s
  | .rt d => .rt d
def enX (η : S → List Sl) : Xx S → En
  | .ct s => .ct (η s)
  | .bk s => .bk (η s)
  | .rt d => .rt d
theorem enX_no (r : Xx S) (ρ' : List Sl) : enX η r ≠ .nx ρ' := by
  cases r <;> intro e <;> cases e
theorem enX_o (r : Xx S) : enO η r.o = enX η r := by cases r <;> rfl
/-- an expression alone -/
theorem ds_expr {e : Expr} {t : T D} {k : D → T R} (h : DX X q ρ e t) (hk : ∀ d, DS X q ρ rest (k d) ε) (hs : ∀ env : Env, swapsWith e none pos.line env = pure false := by intro _; rfl) : DS X q ρ (.Expr e pos :: rest) (t.bind k) ε := fun σ Hb H g C ok0 sl ht => by
  refine ⟨tSeq (tDrop (wE X e)) (wSs X rest), fun z => pss_cons (ps_expr pe_w (hs _)) pss_w, ?_⟩
  refine h.run ok0 sl (T.ok_bind.mp ht) fun d g1 v Hb1 H1 c1 s1 ok1 sl1 d1 => ?_
  exact hk d σ Hb1 H1 g1 C ok1 sl1 (T.ok_mono c1 fun r g' c => enP_after ok1 ⟨g, ok0⟩ (.of s1) (fun p hp => .inl hp) c)
end
abbrev T.b2 {α : Type} (m : D → D → T α) (a b : T D) : T α := a.bind fun x => b.bind fun y => m x y
theorem r64 {k : Nat} {A : Around} (hr : Room k A) : A.units + 64 < cLine := by have := hr.un; omega
theorem r65 {k : Nat} {A : Around} (hr : Room k A) : A.units + 65 < cLine := by have := hr.un; omega
theorem g_rel {x : Str} (t : Tok) : RelV (.str x) (.str x t) := ⟨t, rfl⟩
theorem g_relI {i : Int} (t : Tok) : RelV (.int i) (.int i t) := ⟨t, rfl⟩
/-- a draw, a step of the pool -/
def drawD : D → T D
  | .int n => .need (decide (0 < n) && decide (n < 1073741824)) (.draw n.toNat fun v => .ret (.int (v : Nat)))
  | _ => .fail
def nextD : T D := .next (.ret .none)
theorem sw_cell {elt : Expr} {gs : List Comprehension} {scope : Scope} {pos py : Pos} {y : Str} {l : Nat} {env : Env} (hy : env.scope.names.lookup y = some .cell) : swapsWith (.ListComp elt gs scope pos) (some (.Name y py)) l env = pure false := by
  have ky : env.kindOf y = some .cell := hy
  unfold swapsWith
  simp only [ky]
  rw [show ((some NameKind.cell : Option NameKind) == some NameKind.local) = false from rfl, Bool.and_false, Bool.false_and, Bool.false_and]
/-- y = e where what the place says of y is asked -/
theorem dfa_s {X : Ctx} {q : Option Addr} {ρ : List Sl} {i : Nat} {x : Str} {e : Expr} {pos pos' : Pos} {tf : T (List D)} (hN : X.N.Nodup) (hi : X.N[i]? = some x) (hx : Loc X.sc x) (h : DF X q ρ e tf) (hs : ∀ env : Env, env.scope = X.sc → swapsWith e (some (.Name x pos')) pos.line env = pure false)
    (hf : X.fn x = true ∨ X.sc.names.lookup x = some .local := by first | exact .inl rfl | exact .inr rfl | assumption) : DFA X q ρ i (.Assign [.Name x pos'] e pos) tf := fun σ Hb H g Q ok0 sl ht =>
  ⟨wE X e, fun z => ps_set hN hi (by rw [z.hsc]; exact hx) pe_w (hs _ z.hsc) (by rw [z.hsc]; exact hf), h σ Hb H g Q ok0 sl ht⟩
end DD
end T_DR

section T_DK10
set_option Elab.async false
set_option linter.all false
set_option maxRecDepth 100000
set_option maxHeartbeats 1000000
set_option autoImplicit false
namespace DD
open PySem PySem.Spec L2
open PyProof.Rows hiding St

/-! ### sorted(dict(e)), keys of ints and texts -/
def tSrtDictD (K : PySem.W.Frag) (ta : TE) : TE := fun σ H Q => ta σ H fun x H1 => ∃ (a : Addr) (xs : List V) (ps : List (D × D)) (ks : List NestedKey), x = .ref a ∧ SqL K H1 a xs ∧ DpAll K H1 xs (ps.map fun p => .tuple [p.1, p.2]) ∧ nkAll (ps.map (·.1)) = some ks ∧ ks.all leafK = true ∧ ks.length < 64 ∧
  okSort ((ddK ks).map NestedKey.data) = true ∧ ∀ (bs : List Trip) p, (∀ b ∈ bs, ∃ k : Key, b = (kV k, (nkK k).data)) → bs.map (·.2) = srtD ((ddK ks).map NestedKey.data) → H1 p = none → Q (.ref p) (upd H1 p (.lst (bs.map (·.1))))
theorem each_keysN {h : Heap} : ∀ {vs : List Value} {l : List Key}, PySem.W.EachIs (fun v k => RelV (kV k) v) vs l → PySem.W.EachIs TripR vs (l.map fun k => (kV k, (nkK k).data)) ∧ PySem.W.EachIs (fun v (b : Trip) => ∃ as, Reads h v b.2 as) vs (l.map fun k => (kV k, (nkK k).data))
  | _, _, .nil => ⟨.nil, .nil⟩
  | _, k :: _, .cons r t => by
    obtain ⟨h1, h2⟩ := each_keysN (h := h) t
    refine ⟨.cons r h1, .cons ?_ h2⟩
    cases k with
    | inl i =>
      obtain ⟨tk, rfl⟩ := r
      exact ⟨_, .int _ _⟩
    | inr x =>
      obtain ⟨tk, rfl⟩ := r
      exact ⟨_, .str _ _⟩
section
variable {X : Cx} {a : Expr} {ta : TE} {p p2 q pos : Pos}
theorem pe_srtDictD (hc : X.calm = true) (hu : X.A.units + 64 < cLine) (hg : Gl X "sorted") (hm : X.mg "sorted" = none) (hg2 : Gl X "dict") (hm2 : X.mg "dict" = none) (ha : PE X a ta) (na : starEach [a] X.env = (false, eval a X.env) :: starEach [] X.env := by rfl) :
    PE X (.Call (.Name "sorted" p) [.Call (.Name "dict" p2) [a] [] q] [] pos) (tSrtDictD X.K ta) := by
  refine ⟨fun pins s σ H Q I h => ?_⟩
  refine Call_ (ld_blt I hg hm PyProof.Rows.boot_sorted ?_)
  refine PyProof.Rows.callWith_builtin1 (PyProof.Rows.args_cons ?_ rfl) rfl rfl
  refine Call_ (ld_blt I hg2 hm2 PyProof.Rows.boot_dict ?_)
  refine PyProof.Rows.callWith_type1 (PyProof.Rows.args_cons (thn (ha.run pins s σ H _ I h) fun v s1 ⟨x, H1, I1, r1, q1⟩ => PyProof.Rows.args_nil ?_) na) na rfl
  obtain ⟨l, xs, ps, ks, rfl, hs, hd, he, z, few, hso, q1⟩ := q1
  cases r1
  obtain ⟨its, rv, ⟨o, n, ho, hcl, hdc, hdt⟩, hz⟩ := I1.list hs
  obtain ⟨T⟩ := pairs_at I1 rv hd
  have lk : ks.length = ps.length := by rw [nk_len he, List.length_map]
  have hn : (s1.heap.objs.size == sysModules) = false := beq_eq_false_iff_ne.mpr (Nat.ne_of_gt I1.big)
  have hh : X.A.handled = none := I1.ok.hd hc
  have OKl : PlainSeq "list" s1.heap l its.toArray ∧ PairItems s1.heap its.toArray T.Ts T.kv := ⟨⟨o, n, ho, hcl, hdc, hdt⟩, T.items⟩
  have hkl : ∀ k ∈ ks, leafK k = true := fun k hk => List.all_eq_true.mp z k hk
  refine call_dict_pairs (knd := mixKind X.prog X.w) (kvs := (List.range T.kv.length).map fun i => (keyN (ks.getD i .none), (T.kv.getD i (.none, .none)).2)) (PairArg.list l its.toArray T.Ts T.kv) hh OKl ⟨by simp, fun i k v e => ?_⟩ (by rw [T.len, ← lk, sizeLine_eq]; omega) fun h' tk dd kp => ?_
  · have e' : T.kv[i]? = some (k, v) := e
    have hi : i < T.kv.length := (List.getElem?_eq_some_iff.mp e').1
    obtain ⟨p, hp, x, hx, r⟩ := T.key i k v e'
    obtain ⟨kn, h1, h2⟩ := nkAll_get he (i := i) (d := p.1) (by rw [List.getElem?_map, hp] <;> rfl)
    have hl := hkl kn (List.mem_of_getElem? h1)
    have eg : ks.getD i .none = kn := by rw [List.getD_eq_getElem?_getD, h1] <;> rfl
    have ev : (T.kv.getD i (.none, .none)).2 = v := by rw [List.getD_eq_getElem?_getD, e'] <;> rfl
    refine ⟨keyN kn, ?_, ?_⟩
    · rw [List.getElem?_map, List.getElem?_range hi]
      show some (keyN (ks.getD i .none), (T.kv.getD i (Value.none, Value.none)).2) = _
      rw [eg, ev]
    · have dk := nkD_data p.1 kn h2
      rw [← dk] at hx
      cases kn with
      | num j => cases hx; exact kV_is (k := .inl j) r
      | text y => cases hx; exact kV_is (k := .inr y) r
      | _ => cases hl
  · refine PyProof.Rows.args_nil ?_
    have I2 : Inv X pins σ H1 { s1 with heap := h', toks := tk } := I1.kept fun b o e => kp b o (fun z => nomatch z) e
    generalize hmg : merged [] ((List.range T.kv.length).map fun i => (keyN (ks.getD i .none), (T.kv.getD i (.none, .none)).2)) = M at dd
    have nd : (M.map (·.1)).Nodup := by
      obtain ⟨o', es, ep, _, _, _, _, _, nd⟩ := dd
      exact nd
    have mem : ∀ k, k ∈ (M.map (·.1)).map nkK ↔ k ∈ ks := fun k => by
      rw [List.mem_map, ← hmg]
      constructor
      · rintro ⟨j, hj, rfl⟩
        rw [merged_keys] at hj
        rcases hj with hj | hj
        · cases hj
        · rw [List.map_map] at hj
          obtain ⟨i, hi, e⟩ := List.mem_map.mp hj
          have hi' : i < ks.length := by rw [lk, ← T.len]; exact List.mem_range.mp hi
          have e' : keyN (ks.getD i .none) = j := e
          have eg : ks.getD i .none = ks[i] := by rw [List.getD_eq_getElem?_getD, List.getElem?_eq_getElem hi'] <;> rfl
          rw [← e', eg, nkK_keyN (hkl _ (List.getElem_mem hi'))]
          exact List.getElem_mem hi'
      · intro hk'
        obtain ⟨i, hi, e⟩ := List.getElem_of_mem hk'
        refine ⟨keyN k, ?_, nkK_keyN (hkl k hk')⟩
        rw [merged_keys, List.map_map]
        refine .inr (List.mem_map.mpr ⟨i, List.mem_range.mpr (by rw [T.len, ← lk]; exact hi), ?_⟩)
        show keyN (ks.getD i .none) = keyN k
        rw [List.getD_eq_getElem?_getD, List.getElem?_eq_getElem hi, ← e] <;> rfl
    have pm : ((M.map (·.1)).map nkK).Perm (ddK ks) := (List.perm_ext_iff_of_nodup (List.pairwise_map.mpr (List.Pairwise.imp (fun {a b} ne e => ne (nk_inj e)) nd)) (ddK_nodup ks)).mpr fun k => by rw [mem, ddK_mem]
    have hML : M.length ≤ 64 := by
      have h1 := pm.length_eq
      rw [List.length_map, List.length_map] at h1
      have h2 : (ddK ks).length < 64 := ddK_few (by unfold okSet; rw [z, Bool.true_or, Bool.true_and, decide_eq_true_eq]; exact few)
      omega
    obtain ⟨ep, hat⟩ := dd.dictAt
    have bd : ((M.map (·.1)).map fun k => ((kV k, (nkK k).data) : Trip)).map (·.2) = ((M.map (·.1)).map nkK).map NestedKey.data := by
      simp only [List.map_map]
      rfl
    have bp : (((M.map (·.1)).map fun k => ((kV k, (nkK k).data) : Trip)).map (·.2)).Perm ((ddK ks).map NestedKey.data) := by rw [bd]; exact pm.map _
    refine sorted_of (K := fun vs s2 => (∃ h2 tk2, s2 = { s1 with heap := h2, toks := tk2 } ∧ ∀ b o, h'.get? b = some o → h2.get? b = some o) ∧ PySem.W.EachIs (fun v k => RelV (kV k) v) vs (M.map (·.1))) (fun F hF => ?_) (fun vs s2 ⟨⟨h2, tk2, es2, k2⟩, ei⟩ => ?_) hu
    · refine PySem.W.kdu_collect (PySem.W.kdl_dict (knd := mixKind X.prog X.w) (kvs := M) (ep := ep) hn) (by rw [show X.A.in1.handled = X.A.handled from rfl]; exact hh) hat (by rw [sizeLine_eq]; omega) fun h2 tk2 acc k2 hacc => hF _ _ ⟨⟨h2, tk2, rfl, k2⟩, ?_⟩
      -- the keys, one by one
      have each : ∀ (us : List Value) (l : List Key), us.length = l.length → (∀ (i : Nat) (u : Value), us[i]? = some u → ∃ k : Key, l[i]? = some k ∧ RelV (kV k) u) → PySem.W.EachIs (fun v k => RelV (kV k) v) us l := by
        intro us
        induction us with
        | nil => intro l hl _; cases l with | nil => exact .nil | cons _ _ => cases hl
        | cons u us ih =>
          intro l hl h
          cases l with
          | nil => cases hl
          | cons k l =>
            obtain ⟨k', e1, r⟩ := h 0 u rfl
            cases e1
            exact .cons r (ih l (by simpa using hl) fun i w e => h (i + 1) w e)
      refine each _ _ (by rw [Array.length_toList, hacc.1, List.length_map]) fun i u e => ?_
      obtain ⟨k, y, e1, e2⟩ := hacc.2 i u (by rw [← Array.getElem?_toList]; exact e)
      exact ⟨k, by rw [List.getElem?_map, e1] <;> rfl, keyIs_rel e2⟩
    · subst es2
      obtain ⟨t1, t2⟩ := each_keysN (h := h2) ei
      refine ⟨_, t1, t2, by rw [okSort_perm bp]; exact hso, by rw [List.length_map, List.length_map, sizeLine_eq]; omega, fun out bs' h3 c e1 e2 e3 e4 e5 => ?_⟩
      have kall : ∀ b u, s1.heap.get? b = some u → h2.get? b = some u := fun b u e => k2 b u (kp b u (fun z => nomatch z) e)
      have I3 : Inv X pins σ H1 { s1 with heap := h2, toks := tk2 } := I1.kept kall
      have hnew : H1 h2.objs.size = none := I3.hok.fresh (Nat.le_refl _)
      dsimp only at e4 e5 ⊢
      have J : Inv X pins σ (upd H1 h2.objs.size (.lst (bs'.map (·.1)))) { s1 with heap := h3, toks := tk2 } := I3.laid (t' := tk2) e4 (Nat.le_refl _) ⟨by rw [List.length_map, e2.length_eq, List.length_map, List.length_map, sizeLine_eq]; omega, out, c, trips_vals e1, e5⟩
      refine ⟨.ref h2.objs.size, _, J, rfl, q1 bs' _ (fun b hb => ?_) ?_ hnew⟩
      · obtain ⟨k, _, e⟩ := List.mem_map.mp (e2.mem_iff.mp hb)
        exact ⟨k, e.symm⟩
      · rw [e3]
        exact srt_any bp (okSort_alike (by rw [okSort_perm bp]; exact hso))
end
section
variable {X : Ctx} {q : Option Addr} {ρ : List Sl} {pos p p2 p3 : Pos} {e : Expr} {t : T D}
def srtDictD : D → T (List D)
  | .list ds => match pairsD ds with
    | some ps => match nkAll (ps.map (·.1)) with
      | some ks => .need (ks.all leafK && decide (ks.length < 64) && okSort ((ddK ks).map NestedKey.data)) (.ret (srtD ((ddK ks).map NestedKey.data)))
      | none => .fail
    | none => .fail
  | _ => .fail
theorem df_srtDict (hu : X.A.units + 64 < cLine) (hg : Gb X "sorted") (hm : X.mg "sorted" = none) (hg2 : Gb X "dict") (hm2 : X.mg "dict" = none) (h : DX X q ρ e t) (na : ∀ env : Env, starEach [e] env = (false, eval e env) :: starEach [] env := by intro _; rfl) :
    DF X q ρ (.Call (.Name "sorted" p) [.Call (.Name "dict" p2) [e] [] p3] [] pos) (t.bind srtDictD) := fun σ Hb H g Q ok0 sl ht => by
  refine ⟨tSrtDictD X.K (wE X e), fun z => pe_srtDictD (X := X.at z) rfl hu (hg.gl z) hm (hg2.gl z) hm2 pe_w (na _), ?_⟩
  refine h.run ok0 sl (T.ok_bind.mp ht) fun d g1 v Hb1 H1 c1 s1 ok1 sl1 d1 => ?_
  cases d1 with
  | lst e1 a1 =>
    simp only [srtDictD] at c1
    split at c1
    · rename_i ps e2
      split at c1
      · rename_i ks e3
        obtain ⟨h1, c1⟩ := T.ok_need c1
        rw [Bool.and_eq_true, Bool.and_eq_true, decide_eq_true_eq] at h1
        refine ⟨_, _, ps, ks, rfl, SqL.of (ok1.sub _ _ e1), ?_, e3, h1.1.1, h1.1.2, h1.2, fun bs l hb hb2 hl => ?_⟩
        · rw [← pairsD_data e2]
          exact DnAll.dp _ _ (dnAll_mono ok1.sub _ _ a1)
        · refine c1 l _ Hb1 _ (s1.trans ok1 (.own hl)) (ok1.own hl) (ok1.sub.free hl) (step_free ok0 s1 (free_nq ok1 hl) hl) upd_same ?_
          rw [← hb2]
          refine dn_trips bs fun b hb' => ?_
          obtain ⟨k, rfl⟩ := hb b hb'
          cases k with
          | inl i => exact .int i
          | inr x => exact .str x
      · exact c1.elim
    · exact c1.elim
  | _ => exact c1.elim
/-! ### a value that is a Bool -/
def boolD : D → T Bool
  | .bool b => .ret b
  | _ => .fail
theorem dx_boolD (h : DX X q ρ e t) : DX X q ρ e (bo (t.bind boolD)) := fun σ Hb H g Q ok0 sl ht => by
  refine h σ Hb H g Q ok0 sl ?_
  unfold bo at ht
  rw [T.bind_assoc, T.ok_bind] at ht
  refine T.ok_mono ht fun d g' c => ?_
  cases d <;> first
    | exact c
    | exact c.elim
end
end DD
end T_DK10

section T_DK11
set_option Elab.async false
set_option linter.all false
set_option maxRecDepth 100000
set_option maxHeartbeats 1000000
set_option autoImplicit false
namespace DD
open PySem PySem.Spec L2
open PyProof.Rows hiding St
/-- x, y = a, b of two plain names of a def -/
theorem par_sw {sc : Scope} {env : Env} {x y : Str} {px py pt pt2 : Pos} {a b : Expr} {kt k2 : Nat} (he : env.scope = sc) (hk : sc.kind = .function) (hx : sc.names.lookup x = some .local) (hy : sc.names.lookup y = some .local) (hl : (py.line == px.line) = true) (hne : ([x, y].eraseDups.length != 2) = false)
    (ha : (match a with | .Starred .. => true | _ => false) = false) (hb : (match b with | .Starred .. => true | _ => false) = false) (hf : [a, b].all (foldedForSure 8) = false) (hc : [a, b].all (constantsAlone 8) = false) :
    swappedStores [.Tuple [.Name x px, .Name y py] kt pt] (.Tuple [a, b] k2 pt2) env = pure (some [x, y]) := by
  have k1 : (env.kindOf x == some .local) = true := by
    have : env.kindOf x = some .local := by unfold Env.kindOf; rw [he]; exact hx
    rw [this] <;> rfl
  have k2 : (env.kindOf y == some .local) = true := by
    have : env.kindOf y = some .local := by unfold Env.kindOf; rw [he]; exact hy
    rw [this] <;> rfl
  have kb : (env.blockKind != .function) = false := by
    unfold Env.blockKind
    rw [he, hk] <;> rfl
  have hl2 : (px.line == px.line) = true := beq_self_eq_true _
  unfold swappedStores
  simp only [List.length_cons, List.length_nil, Nat.zero_add, Nat.reduceAdd, beq_self_eq_true, Bool.true_or, Bool.not_true, bne_self_eq_false, Bool.false_or, kb, Bool.false_eq_true, if_false, List.any_cons, List.any_nil, Bool.or_false, List.head?_cons, Option.map_some, Option.getD_some, List.filterMap_cons, List.filterMap_nil, Expr.pos, k1, k2, hl, hl2, Bool.and_self, if_true]
  simp only [hf, hc]
  split
  · exact absurd ha (by simp)
  · split
    · exact absurd hb (by simp)
    · rw [if_neg (by simp), if_neg (by rw [hne]; exact Bool.false_ne_true), if_neg Bool.false_ne_true, if_neg Bool.false_ne_true]
/-- the slots, written out -/
theorem ds_at {X : Ctx} {q : Option Addr} {ρ : List Sl} {R : Type} {ε : R → En} {sts : List Stmt} {t : T R} {ρ' : List Sl} (e : ρ = ρ') (h : DS X q ρ' sts t ε) : DS X q ρ sts t ε := by
  rw [e]
  exact h
end DD
end T_DK11

section T_DP
set_option Elab.async false
set_option linter.all false
set_option maxRecDepth 100000
set_option maxHeartbeats 1000000
set_option autoImplicit false
namespace DD
open PySem PySem.Spec L2
open PyProof.Rows hiding St

/-! ### a list of ints that is only read -/
def ixF (ns : List Int) : D → T D
  | .int i => match atI ns i with
    | some n => .ret (.int n)
    | none => .fail
  | _ => .fail
section
variable {X : Ctx} {q : Option Addr} {ρ : List Sl} {pos p p2 : Pos} {e : Expr} {x : Str}
theorem dx_lenFz (i : Nat) {ns : List Int} (hg : Gb X "len") (hm : X.mg "len" = none) (er : ρ[i]? = some (Sl.fz ns)) (hN : X.N[i]? = some x) (hv : Vis X.sc x) (hd : (x == ("__debug__" : Str)) = false := by decide) (hcd : (x == ("__classdict__" : Str)) = false := by decide)
    (he : ∀ env : Env, starEach [.Name x p2] env = (false, eval (.Name x p2) env) :: starEach [] env := by intro _; rfl) (hpl : ∀ env : Env, (backTo pos (starEach [] env)).any (·.1) = false := by intro _; rfl) :
    DX X q ρ (.Call (.Name "len" p) [.Name x p2] [] pos) (.ret (.int ns.length)) := fun σ Hb H g Q ok0 sl ht => by
  refine ⟨tCB (fun xs H Q => ∃ x n, xs = [x] ∧ LenV X.K x H n ∧ Q (.int n) H) (tCons (tVar i) tNil), fun z => pe_callB call_len (hg.gl z) hm PySem.boot_len (pa_cons (pe_var hN (by rw [z.hsc]; exact hv) hd hcd) pa_nil (he _)) (by decide) (by decide) (he _) (hpl _), ?_⟩
  obtain ⟨s, e1, a, e2, h1⟩ := sl.rel i _ er
  subst e2
  refine ⟨_, e1, ?_⟩
  refine ⟨_, _, rfl, .inl ⟨_, ok0.sub.seq h1, rfl⟩, ?_⟩
  rw [List.length_map]
  exact ht _ Hb H .refl ok0 (.int _)
theorem dx_ixFz (i : Nat) {ns : List Int} {t : T D} (er : ρ[i]? = some (Sl.fz ns)) (hN : X.N[i]? = some x) (hv : Vis X.sc x) (h : DX X q ρ e t) (hd : (x == ("__debug__" : Str)) = false := by decide) (hcd : (x == ("__classdict__" : Str)) = false := by decide)
    (hs : PlainIx e := by exact fun _ _ => rfl) : DX X q ρ (.Subscript (.Name x p) e pos) (t.bind fun y => ixF ns y) := fun σ Hb H g Q ok0 sl ht => by
  refine ⟨tOp (rIxL X.K) (tVar i) (wE X e), fun z => pe_ix ix_list (pe_var hN (by rw [z.hsc]; exact hv) hd hcd) pe_w hs, ?_⟩
  obtain ⟨s, e1, a, e2, h1⟩ := sl.rel i _ er
  subst e2
  refine ⟨_, e1, ?_⟩
  refine h.run ok0 sl (T.ok_bind.mp ht) fun d g1 v Hb1 H1 c1 s1 ok1 sl1 d1 => ?_
  cases d1 with
  | int j =>
    unfold ixF at c1
    cases z : atI ns j with
    | none => simp only [z] at c1; exact c1.elim
    | some n =>
      simp only [z] at c1
      refine ⟨a, ns.map V.int, j, V.int n, rfl, rfl, (s1.ext.trans ok1.sub).seq h1, ?_, c1 _ Hb1 H1 s1 ok1 (.int _)⟩
      unfold atI at z ⊢
      rw [List.length_map]
      cases y : ixN ns.length j with
      | none => rw [y] at z; cases z
      | some k =>
        rw [y] at z
        show (ns.map V.int)[k]? = _
        rw [List.getElem?_map, show ns[k]? = some n from z] <;> rfl
  | _ => exact c1.elim
end
/-! ### what the pool draws from -/
def m_law_mixed (a_number : D) (a_place : D) : T D := ((T.b2 modD ((T.b2 addD (T.b2 addD (T.b2 mulD (T.ret a_number) (T.ret (.int 410338673998125441398711))) (T.b2 mulD (T.ret a_place) (T.ret (.int 736418259301774563982039)))) (T.ret (.int 295075153872261839517363))).bind intD) (T.ret (.int 618970019642690137449562111))).bind fun first1 => ((T.b2 modD ((T.b2 addD (T.b2 addD (T.b2 mulD (T.ret first1) (T.ret first1)) (T.b2 mulD (T.ret (.int 7)) (T.ret first1))) (T.ret a_place)).bind intD) (T.ret (.int 162259276829213363391578010288127))).bind fun second2 => ((T.b2 modD ((T.b2 addD (T.b2 mulD (T.ret second2) (T.ret second2)) (T.ret first1)).bind intD) (T.ret (.int 618970019642690137449562111))).bind fun third3 => (T.b2 addD (T.b2 mulD (T.ret second2) (T.ret (.int 618970019642690137449562111))) (T.ret third3)))))
def m_law_rest (ns : List Int) (a_place a_fills : D) : T D := ((T.ret (.int 0)).bind fun number1 => ((((T.b2 gtD (T.ret (.int (List.length (α := Int) ns))) (T.ret (.int 0))).bind fun k => if k then ((((T.b2 modD ((T.ret a_place).bind intD) (T.ret (.int (List.length (α := Int) ns)))).bind fun y => ixF ns y).bind intD).bind fun number3 => (T.ret number3)) else (T.ret number1)) : T (D)).bind fun s2 => ((((T.b2 ltD (T.ret s2) (T.ret (.int 0))).bind fun k => if k then ((T.b2 subD (T.ret (.int 1)) (T.b2 mulD (T.ret (.int 2)) (T.ret s2))).bind fun number5 => (T.ret number5)) else (T.ret s2)) : T (D)).bind fun s4 => ((andT (T.b2 eqD (T.ret a_fills) (T.ret (.int 0))) (andT (T.b2 ltD (T.ret a_place) (T.ret (.int (List.length (α := Int) ns)))) (T.b2 geD (T.ret s4) (T.b2 powD (T.ret (.int 10)) (T.ret (.int 18)))))).bind fun k => if k then (T.b2 subD (T.ret s4) (T.b2 powD (T.ret (.int 10)) (T.ret (.int 18)))) else ((T.b2 addD (T.ret s4) (T.b2 mulD (T.ret a_fills) (T.ret (.int 1000003)))).bind fun a => (T.ret a_place).bind fun b => m_law_mixed a b)))))
/-- numbers of a script -/
def Scr (ns : List Int) : Prop := ns.length ≤ 63 ∧ ∀ n ∈ ns, n.natAbs < 2 ^ 1048576
theorem mixed_ok {n p : Int} {g : Nat} {C : D → Nat → Prop} (hn : n.natAbs < 2 ^ 1048580) (hp : p.natAbs < 2 ^ 62) (h : ∀ r, 0 ≤ r → C (.int r) g) : (m_law_mixed (.int n) (.int p)).ok g C := by
  have b1 : mulOk n 410338673998125441398711 = true := by
    unfold mulOk
    have : CMulX n 410338673998125441398711 := mulx_ok (a := 1048580) (b := 79) hn (by decide) (by decide)
    rw [decide_eq_true (show (Builtin.Int.intBits n : Int) + (Builtin.Int.intBits 410338673998125441398711 : Int) ≤ 134217728 from this), Bool.or_true]
  have b2 : mulOk p 736418259301774563982039 = true := by
    unfold mulOk
    have : CMulX p 736418259301774563982039 := mulx_ok (a := 62) (b := 80) hp (by decide) (by decide)
    rw [decide_eq_true (show (Builtin.Int.intBits p : Int) + (Builtin.Int.intBits 736418259301774563982039 : Int) ≤ 134217728 from this), Bool.or_true]
  have mm : ∀ x y : Int, 0 ≤ x → x < 2 ^ 128 → 0 ≤ y → y < 2 ^ 128 → mulOk x y = true := fun x y h1 h2 h3 h4 => by
    unfold mulOk
    have : CMulX x y := mulx_ok (a := 128) (b := 128) (by omega) (by omega) (by decide)
    rw [decide_eq_true (show (Builtin.Int.intBits x : Int) + (Builtin.Int.intBits y : Int) ≤ 134217728 from this), Bool.or_true]
  have e1 : (0 : Int) ≤ (n * 410338673998125441398711 + p * 736418259301774563982039 + 295075153872261839517363) % 618970019642690137449562111 ∧ (n * 410338673998125441398711 + p * 736418259301774563982039 + 295075153872261839517363) % 618970019642690137449562111 < 618970019642690137449562111 := ⟨Int.emod_nonneg _ (by decide), Int.emod_lt_of_pos _ (by decide)⟩
  unfold m_law_mixed
  simp only [T.b2, T.ret_bind, mulD, b1, b2, T.need_true, addD, intD, modD, decide_true, show decide ((0 : Int) < 618970019642690137449562111) = true from by decide]
  generalize (n * 410338673998125441398711 + p * 736418259301774563982039 + 295075153872261839517363) % 618970019642690137449562111 = f at e1 ⊢
  simp only [T.ret_bind, mulD, mm f f e1.1 (by omega) e1.1 (by omega), mm 7 f (by decide) (by decide) e1.1 (by omega), T.need_true, addD, intD, modD, show decide ((0 : Int) < 162259276829213363391578010288127) = true from by decide]
  have e2 : (0 : Int) ≤ (f * f + 7 * f + p) % 162259276829213363391578010288127 ∧ (f * f + 7 * f + p) % 162259276829213363391578010288127 < 162259276829213363391578010288127 := ⟨Int.emod_nonneg _ (by decide), Int.emod_lt_of_pos _ (by decide)⟩
  generalize (f * f + 7 * f + p) % 162259276829213363391578010288127 = s at e2 ⊢
  simp only [T.ret_bind, mulD, mm s s e2.1 (by omega) e2.1 (by omega), mm s 618970019642690137449562111 e2.1 (by omega) (by decide) (by decide), T.need_true, addD, intD, modD, show decide ((0 : Int) < 618970019642690137449562111) = true from by decide]
  have e3 : (0 : Int) ≤ (s * s + f) % 618970019642690137449562111 := Int.emod_nonneg _ (by decide)
  generalize (s * s + f) % 618970019642690137449562111 = t at e3 ⊢
  exact h _ (by omega)
theorem ixF_ok {ns : List Int} (h0 : 0 < ns.length) {pl : Int} (hp : 0 ≤ pl) : ∃ n ∈ ns, ixF ns (.int (pl % (ns.length : Nat))) = .ret (.int n) := by
  have h1 := Int.emod_nonneg pl (show ((ns.length : Nat) : Int) ≠ 0 by omega)
  have h2 := Int.emod_lt_of_pos pl (show (0 : Int) < ((ns.length : Nat) : Int) by omega)
  obtain ⟨j, hj⟩ := Int.eq_ofNat_of_zero_le h1
  have hl : j < ns.length := by omega
  refine ⟨ns[j], List.getElem_mem hl, ?_⟩
  unfold ixF
  rw [hj]
  show (match atI ns (j : Int) with | some n => T.ret (PyData.int n) | none => T.fail) = _
  rw [atI_nat (List.getElem?_eq_getElem hl)]
theorem rest_ok {ns : List Int} (hs : Scr ns) {pl f : Int} (p0 : 0 ≤ pl) (p1 : pl < 2 ^ 61) (f0 : 0 ≤ f) (f1 : f < 2 ^ 61) {g : Nat} {C : D → Nat → Prop} (h : ∀ r, 0 ≤ r → C (.int r) g) : (m_law_rest ns (.int pl) (.int f)).ok g C := by
  have key : ∀ n : Int, 0 ≤ n → n.natAbs < 2 ^ 1048578 → ((andT (T.b2 eqD (T.ret (.int f)) (T.ret (.int 0))) (andT (T.b2 ltD (T.ret (.int pl)) (T.ret (.int (List.length (α := Int) ns)))) (T.b2 geD (T.ret (.int n)) (T.b2 powD (T.ret (.int 10)) (T.ret (.int 18)))))).bind fun k => if k then (T.b2 subD (T.ret (.int n)) (T.b2 powD (T.ret (.int 10)) (T.ret (.int 18)))) else ((T.b2 addD (T.ret (.int n)) (T.b2 mulD (T.ret (.int f)) (T.ret (.int 1000003)))).bind fun a => (T.ret (.int pl)).bind fun b => m_law_mixed a b)).ok g C := fun n n0 nb => by
    have hpow : powD (.int 10) (.int 18) = .ret (.int 1000000000000000000) := rfl
    have hmul : mulOk f 1000003 = true := by
      unfold mulOk small64
      rw [show decide ((-18446744073709551616 : Int) < 1000003) = true from by decide, show decide ((1000003 : Int) < 18446744073709551616) = true from by decide]
      simp
    have hm : (m_law_mixed (.int (n + f * 1000003)) (.int pl)).ok g C := by
      refine mixed_ok ?_ (by omega) h
      have e : (2 : Nat) ^ 1048580 = 2 ^ 1048578 * 4 := by rw [show (1048580 : Nat) = 1048578 + 2 from rfl, Nat.pow_add]
      have e2 : (2 : Nat) ^ 100 ≤ 2 ^ 1048578 := Nat.pow_le_pow_right (by decide) (by decide)
      rw [e]
      omega
    have he : eqD (.int f) (.int 0) = .ret (f == 0) := rfl
    simp only [T.b2, T.ret_bind, andT, he, ltD, hpow, geD, subD, mulD, hmul, T.need_true, addD]
    by_cases c1 : f = 0
    · subst c1
      simp only [show ((0 : Int) == 0) = true from rfl, if_true, T.ret_bind]
      by_cases c2 : pl < (ns.length : Nat)
      · rw [decide_eq_true c2]
        simp only [if_true, T.ret_bind]
        by_cases c3 : (1000000000000000000 : Int) ≤ n
        · rw [decide_eq_true c3]
          exact h _ (by omega)
        · rw [decide_eq_false c3]
          exact hm
      · rw [decide_eq_false c2]
        exact hm
    · have : (f == 0) = false := beq_eq_false_iff_ne.mpr c1
      rw [this]
      exact hm
  have two : ∀ n : Int, n.natAbs < 2 ^ 1048576 → ((((T.b2 ltD (T.ret (.int n)) (T.ret (.int 0))).bind fun k => if k then ((T.b2 subD (T.ret (.int 1)) (T.b2 mulD (T.ret (.int 2)) (T.ret (.int n)))).bind fun number5 => (T.ret number5)) else (T.ret (.int n))) : T (D)).bind fun s4 => ((andT (T.b2 eqD (T.ret (.int f)) (T.ret (.int 0))) (andT (T.b2 ltD (T.ret (.int pl)) (T.ret (.int (List.length (α := Int) ns)))) (T.b2 geD (T.ret s4) (T.b2 powD (T.ret (.int 10)) (T.ret (.int 18)))))).bind fun k => if k then (T.b2 subD (T.ret s4) (T.b2 powD (T.ret (.int 10)) (T.ret (.int 18)))) else ((T.b2 addD (T.ret s4) (T.b2 mulD (T.ret (.int f)) (T.ret (.int 1000003)))).bind fun a => (T.ret (.int pl)).bind fun b => m_law_mixed a b))).ok g C := fun n nb => by
    have e : (2 : Nat) ^ 1048578 = 2 ^ 1048576 * 4 := by rw [show (1048578 : Nat) = 1048576 + 2 from rfl, Nat.pow_add]
    have e1 : 1 ≤ (2 : Nat) ^ 1048576 := Nat.pow_pos (by decide)
    by_cases c : n < 0
    · have hmul : mulOk 2 n = true := by
        unfold mulOk small64
        rw [show decide ((-18446744073709551616 : Int) < 2) = true from by decide, show decide ((2 : Int) < 18446744073709551616) = true from by decide]
        simp
      have hk := key (1 - 2 * n) (by omega) (by rw [e]; omega)
      simp only [T.b2, T.ret_bind, ltD, decide_eq_true c, if_true, mulD, hmul, T.need_true, subD] at hk ⊢
      exact hk
    · have hk := key n (by omega) (by rw [e]; omega)
      simp only [T.b2, T.ret_bind, ltD, decide_eq_false c, Bool.false_eq_true, if_false] at hk ⊢
      exact hk
  unfold m_law_rest
  by_cases c : 0 < ns.length
  · obtain ⟨n, hn, e⟩ := ixF_ok c p0
    have ht := two n (hs.2 n hn)
    simp only [T.b2, T.ret_bind, gtD, show decide ((0 : Int) < ((ns.length : Nat) : Int)) = true from decide_eq_true (by omega), if_true, intD, modD, T.need_true, e] at ht ⊢
    exact ht
  · have ht := two 0 (by rw [show (0 : Int).natAbs = 0 from rfl]; exact Nat.pow_pos (by decide))
    simp only [T.b2, T.ret_bind, gtD, show decide ((0 : Int) < ((ns.length : Nat) : Int)) = false from decide_eq_false (by omega), Bool.false_eq_true, if_false] at ht ⊢
    exact ht
end DD
end T_DP

section T_DV
set_option Elab.async false
set_option linter.all false
set_option maxRecDepth 100000
set_option maxHeartbeats 1000000
set_option autoImplicit false
namespace DD
open PySem PySem.Spec L2
open PyProof.Rows hiding St
/-! ### the pool's defs: promises -/
def spRest (K : PySem.W.Frag) : Sp := fun vs H Q _ => ∃ sc ns pl f, vs = [.ref sc, .int pl, .int f] ∧ SqL K H sc (ns.map V.int) ∧ Scr ns ∧ 0 ≤ pl ∧ pl < 2 ^ 61 ∧ 0 ≤ f ∧ f < 2 ^ 61 ∧ ∀ r H', 0 ≤ r → Same H H' → Q (.int r) H'
def spPool (K : PySem.W.Frag) : Sp := fun vs H Q _ => ∃ sc ns, vs = [.ref sc] ∧ SqL K H sc (ns.map V.int) ∧ Scr ns ∧ ∀ p r H', 0 ≤ r → Same H H' → H p = none → H' p = some (.lst [.ref sc, .int 0, .int r, .int 0]) → Q (.ref p) H'
section
variable {P : Program} {w : World} {K : PySem.W.Frag} {mg : Str → Option Value} {x qual : Str} {st : Stmt} {f : Addr} {fd : FuncData} {N ps : List Str} {k : Nat}
theorem fn_rest (F : Fun K x qual st f fd) (S : FnScope N ps (defScope st)) (hps : ps.length = 3) (hN : N.length = 4) (body : ∀ A ns a b, Room k A → DS (bodyX P w K mg A N st) none [.fz ns, .va a, .va b, .un] (defBody st) (m_law_rest ns a b) En.rt) (base : Heap) :
    FnOk P w K mg base CX0 (k + 1) f fd ps (spRest K) := by
  refine F.ok S (fun vs H Q E ⟨sc, ns, pl, f, e, _⟩ => by rw [e, hps] <;> rfl) (fun cdv A outer s H vs Q E hr ⟨sc, ns, pl, fl, e, hS, hs, p0, p1, f0, f1, hk⟩ => ?_)
  subst e
  have est : L2.start N [V.ref sc, .int pl, .int fl] = [some (.ref sc), some (.int pl), some (.int fl), none] := by
    unfold L2.start
    rw [hN] <;> rfl
  have sl : Sls K none H H [.fz ns, .va (.int pl), .va (.int fl), .un] (L2.start N [V.ref sc, .int pl, .int fl]) := by
    rw [est]
    refine ⟨rfl, fun i sl e => ?_, fun i j a b p e1 _ _ _ => ?_⟩
    · match i, e with
      | 0, e => cases e; exact ⟨_, rfl, sc, rfl, hS⟩
      | 1, e => cases e; exact ⟨_, rfl, _, rfl, .int _⟩
      | 2, e => cases e; exact ⟨_, rfl, _, rfl, .int _⟩
      | 3, e => cases e; exact ⟨_, rfl, trivial⟩
      | i + 4, e => cases e
    · match i, e1 with
      | 0, e => cases e
      | 1, e => cases e
      | 2, e => cases e
      | 3, e => cases e
      | i + 4, e => cases e
  obtain ⟨u, hu, q1⟩ := body (A.deeper (envOfC qual (defScope st) s.heap.objs.size f cdv)) ns (.int pl) (.int fl) hr (L2.start N [V.ref sc, .int pl, .int fl]) H H 0 { nx := fun _ H' => Q .non H', rt := Q } ⟨Same.refl _, fun a e => nomatch e⟩ sl
    (rest_ok hs p0 p1 f0 f1 fun r hr0 v Hb' H' so ok' dv => by
      cases dv
      exact hk r H' hr0 (so.ext.trans ok'.sub))
  exact ⟨u, hu ⟨base, s, H, envOfC qual (defScope st) s.heap.objs.size f cdv, outer, envOfC qual (defScope st) s.heap.objs.size f cdv :: outer, [], [], rfl⟩, q1⟩
end
/-- the heap while the pool at a is written -/
structure Md (a : Addr) (Hb H H1 : Hp) (xs : List V) : Prop where
  sub : Same Hb H1
  keep : ∀ b o, b ≠ a → H b = some o → H1 b = some o
  pool : H1 a = some (.lst xs)
theorem Md.set {a : Addr} {Hb H H1 : Hp} {xs : List V} (m : Md a Hb H H1 xs) (nb : Hb a = none) (ys : List V) : Md a Hb H (upd H1 a (.lst ys)) ys :=
  ⟨fun b u hb => by rw [upd_ne (fun e => by rw [e, nb] at hb; cases hb)]; exact m.sub b u hb, fun b o n h => by rw [upd_ne n]; exact m.keep b o n h, upd_same⟩
theorem Md.same {a : Addr} {Hb H H1 H2 : Hp} {xs : List V} (m : Md a Hb H H1 xs) (s : Same H1 H2) : Md a Hb H H2 xs := ⟨m.sub.trans s, fun b o n h => s b o (m.keep b o n h), s _ _ m.pool⟩
theorem Md.step {a : Addr} {Hb H H1 : Hp} {xs : List V} (m : Md a Hb H H1 xs) : Step (some a) Hb H Hb H1 := ⟨Same.refl _, fun b o h n => m.keep b o (fun e => n (by rw [e])) h, fun _ _ _ h => h⟩
theorem Md.ok {K : PySem.W.Frag} {a sc : Addr} {Hb H H1 : Hp} {ns : List Int} {pl r f : Int} {g : Nat} (m : Md a Hb H H1 [.ref sc, .int pl, .int r, .int f]) (nb : Hb a = none) (hS : SqL K Hb sc (ns.map V.int)) (h1 : ns.length ≤ 63) (h2 : ∀ n ∈ ns, n.natAbs < 2 ^ 1048576) (p0 : 0 ≤ pl) (p1 : pl + g ≤ 2 ^ 60) (f0 : 0 ≤ f) (f1 : f + g ≤ 2 ^ 60) (r0 : 0 ≤ r) : Ok K (some a) Hb H1 g :=
  ⟨m.sub, fun b e => by cases e; exact ⟨nb, sc, ns, pl, r, f, m.pool, hS, h1, h2, p0, p1, f0, f1, r0⟩⟩
/-- the law's promise -/
def spLaw (K : PySem.W.Frag) : Sp := fun vs H Q _ => ∃ sc ns, vs = [.ref sc] ∧ SqL K H sc (ns.map V.int) ∧ Scr ns ∧ ∀ H', Q (.bl true) H'
theorem bits_lt' {z : Int} (h : Builtin.Int.intBits z ≤ 1048576) : z.natAbs < 2 ^ 1048576 := by
  by_cases c : z.natAbs = 0
  · rw [c]
    exact Nat.pow_pos (by decide)
  · have h2 : z.natAbs.log2 + 1 ≤ 1048576 := by
      unfold Builtin.Int.intBits at h
      simp only [beq_iff_eq, c, if_false, Int.natAbs_eq_zero] at h
      first
        | exact h
        | (split at h <;> first | exact h | omega)
    exact Nat.lt_of_lt_of_le Nat.lt_log2_self (Nat.pow_le_pow_right (by decide) h2)
/-- the law's slots behind its first row -/
def lawSl (i n : Nat) : List Sl := (List.replicate n .un).set i .po
theorem pool_sls {K : PySem.W.Frag} {Hb H : Hp} {N : List Str} {i n : Nat} {p : Addr} {x : V} (hn : N.length = n) (hi : i < n) (h0 : 0 < n) : Sls K (some p) Hb H (lawSl i n) ((L2.start N [x]).set i (some (.ref p))) := by
  have hl : (L2.start N [x]).length = n := by
    unfold L2.start
    rw [List.length_append, List.length_map, List.length_replicate, List.length_singleton, hn]
    omega
  refine ⟨by unfold lawSl; rw [List.length_set, List.length_set, List.length_replicate, hl], fun j sl e => ?_, fun j k a b c e1 _ _ _ => ?_⟩
  · unfold lawSl at e
    by_cases hj : i = j
    · subst hj
      rw [List.getElem?_set_self (by rw [List.length_replicate]; exact hi)] at e
      cases e
      exact ⟨_, List.getElem?_set_self (by rw [hl]; exact hi), p, rfl, rfl⟩
    · rw [List.getElem?_set_ne hj, List.getElem?_replicate] at e
      split at e
      · cases e
        rename_i hjn
        rw [List.getElem?_set_ne hj]
        exact ⟨_, List.getElem?_eq_getElem (by rw [hl]; exact hjn), trivial⟩
      · cases e
  · unfold lawSl at e1
    by_cases hj : i = j
    · subst hj
      rw [List.getElem?_set_self (by rw [List.length_replicate]; exact hi)] at e1
      cases e1
    · rw [List.getElem?_set_ne hj, List.getElem?_replicate] at e1
      split at e1 <;> cases e1
/-! ### trying all draws -/
def T.all {α : Type} (p : α → Bool) : T α → Nat → Bool
  | .ret a, _ => p a
  | .draw n k, g + 1 => decide (0 < n) && (decide (n < 1073741824) && (List.range n).all fun v => T.all p (k v) g)
  | .draw _ _, 0 => false
  | .next k, g + 1 => T.all p k g
  | .next _, 0 => false
  | .fail, _ => false
theorem T.all_ok {α : Type} {p : α → Bool} {t : T α} : ∀ {g : Nat}, T.all p t g = true → t.ok g fun a _ => p a = true := by
  induction t with
  | ret a => exact fun h => h
  | fail => intro g h; simp [T.all] at h
  | draw n k ih =>
    intro g h
    cases g with
    | zero => simp [T.all] at h
    | succ g =>
      simp only [T.all, Bool.and_eq_true, decide_eq_true_eq, List.all_eq_true] at h
      exact ⟨h.1, h.2.1, g, rfl, fun v hv => ih v (h.2.2 v (List.mem_range.mpr hv))⟩
  | next k ih =>
    intro g h
    cases g with
    | zero => simp [T.all] at h
    | succ g => exact ⟨g, rfl, ih (by simpa [T.all] using h)⟩
def isTrueD : D → Bool
  | .bool true => true
  | _ => false
theorem isTrueD_eq {d : D} (h : isTrueD d = true) : d = .bool true := by
  unfold isTrueD at h
  split at h
  · rfl
  · cases h
theorem law_by_all {t : T D} {g : Nat} (h : T.all isTrueD t g = true) : t.ok g fun d _ => d = .bool true := T.ok_mono (T.all_ok h) fun _ _ h => isTrueD_eq h
end DD
end T_DV

section T_W_K55
set_option Elab.async false
set_option linter.all false
set_option maxRecDepth 100000
set_option maxHeartbeats 2000000
set_option autoImplicit false
namespace K55
open PySem PySem.Spec L2 DD
open PyProof.Rows hiding St
def top (i : Nat) : Stmt := PySem.Challenge.pw_leaguewise_k55_whole_breaks_of_all_plans.main.body.getD i (.Pass ⟨0, 0, 0, 0⟩)
structure Gs (K : PySem.W.Frag) (mg : Str → Option Value) : Prop where
  b_all : mg ("all" : Str) = none
  b_dict : mg ("dict" : Str) = none
  b_int : mg ("int" : Str) = none
  b_isinstance : mg ("isinstance" : Str) = none
  b_len : mg ("len" : Str) = none
  b_list : mg ("list" : Str) = none
  b_range : mg ("range" : Str) = none
  b_set : mg ("set" : Str) = none
  b_sorted : mg ("sorted" : Str) = none
  b_str : mg ("str" : Str) = none
  b_tuple : mg ("tuple" : Str) = none
  c_DIGITS : ∃ t, mg ("DIGITS" : Str) = some (.str ("0123456789" : Str) t)
  c_LETTERS : ∃ t, mg ("LETTERS" : Str) = some (.str ("abcdefghijklmnopqrstuvwxyz" : Str) t)
  c_MOST_SIDES : ∃ t, mg ("MOST_SIDES" : Str) = some (.int 8 t)
section
variable {P : Program} {w : World} {K : PySem.W.Frag} {mg : Str → Option Value}
/-! ### is_word -/
abbrev s_is_word : Stmt := top 4
def N_is_word : List Str := [("value" : Str), ("sign" : Str)]
theorem sc_is_word : FnScope N_is_word [("value" : Str)] (defScope s_is_word) := ⟨rfl, rfl, rfl, by decide +kernel, rfl, by decide +kernel, by decide +kernel⟩
def m_is_word (a_value : D) : T D := ((orT (notT ((T.ret a_value).bind fun d => T.ret (isiD "str" d))) (orT (notT (chainT leD leD (T.ret (.int 1)) ((T.ret a_value).bind lenD) (T.ret (.int 12)))) (T.b2 ninD (T.b2 ixD (T.ret a_value) (T.ret (.int 0))) (T.ret (.str ("abcdefghijklmnopqrstuvwxyz" : Str)))))).bind fun k => if k then (T.ret (.bool false)) else (bo (((lcT ((T.ret a_value).bind itemsS) some (fun sign1 => (T.ret true)) fun sign1 => (bo (T.b2 inD (T.ret sign1) (T.b2 addD (T.ret (.str ("abcdefghijklmnopqrstuvwxyz" : Str))) (T.ret (.str ("0123456789" : Str))))))).bind fun ds => T.ret (.list ds)).bind allD)))
theorem d_is_word (G : Gs K mg) : ∀ A q ds, Room 0 A → ds.length = 1 → DS (bodyX P w K mg A N_is_word s_is_word) q (argSl N_is_word ds) (defBody s_is_word) (ar1 m_is_word ds) En.rt := fun A q ds hr hl => match ds, hl with
  | [a_value], _ => by
    have nd : (N_is_word).Nodup := by decide +kernel
    exact (ds_at (ρ' := [.va a_value, .un]) rfl (ds_ifr (dt_of_dw (dw_or (dt_not (dt_val (dx_isi (n := "str") (by decide +kernel) (by rfl) G.b_isinstance (by rfl) G.b_str boot_str (dx_va 0 rfl rfl (by first | exact .inl rfl | exact .inr (.inl rfl) | exact .inr (.inr rfl)))))) (dw_or (dt_not (dt_chain do_le do_le dx_int (dx_b1 dc_len (by rfl) G.b_len PySem.boot_len (dx_va 0 rfl rfl (by first | exact .inl rfl | exact .inr (.inl rfl) | exact .inr (.inr rfl)))) dx_int)) (dw_or1 (dt_cmp (do_nin (r65 hr)) (dx_ix (dx_va 0 rfl rfl (by first | exact .inl rfl | exact .inr (.inl rfl) | exact .inr (.inr rfl))) dx_int) (dx_glob (v := .str ("abcdefghijklmnopqrstuvwxyz" : Str)) (by rfl) G.c_LETTERS.choose_spec (g_rel _) fun _ => .str _) (by first | exact nomark _ | rfl | with_unfolding_all rfl)))))) (ds_at (ρ' := [.va a_value, .un]) rfl (ds_ret dx_bl)) (ds_at (ρ' := [.va a_value, .un]) rfl (ds_ret (dx_all (by rfl) G.b_all (dx_of_df (df_lc (own := [(("sign" : Str), 1)]) nd (di_str (dx_va 0 rfl rfl (by first | exact .inl rfl | exact .inr (.inl rfl) | exact .inr (.inr rfl)))) (by dsimp only [bodyX, Ctx.blk]; decide +kernel) (dg_nm 1 nd rfl (by first | exact .inl rfl | exact .inr rfl)) (by decide) (fun sign1 => dts_nil) fun sign1 => (dx_cmpB (do_in (r65 hr)) (dx_va 1 rfl rfl (by first | exact .inl rfl | exact .inr (.inl rfl) | exact .inr (.inr rfl))) (dx_op do_add (dx_glob (v := .str ("abcdefghijklmnopqrstuvwxyz" : Str)) (by rfl) G.c_LETTERS.choose_spec (g_rel _) fun _ => .str _) (dx_glob (v := .str ("0123456789" : Str)) (by rfl) G.c_DIGITS.choose_spec (g_rel _) fun _ => .str _)) (by first | exact nomark _ | rfl | with_unfolding_all rfl)))))))))
/-! ### are_sides -/
abbrev s_are_sides : Stmt := top 5
def N_are_sides : List Str := [("value" : Str), ("one" : Str)]
theorem sc_are_sides : FnScope N_are_sides [("value" : Str)] (defScope s_are_sides) := ⟨rfl, rfl, rfl, by decide +kernel, rfl, by decide +kernel, by decide +kernel⟩
def m_are_sides (a_value : D) : T D := ((orT (notT ((T.ret a_value).bind fun d => T.ret (isiD "tuple" d))) (orT (notT (chainT leD leD (T.ret (.int 2)) ((T.ret a_value).bind lenD) (T.ret (.int 8)))) (notT (((lcT ((T.ret a_value).bind itemsT) some (fun one1 => (T.ret true)) fun one1 => ((T.ret one1).bind m_is_word)).bind fun ds => T.ret (.list ds)).bind allD)))).bind fun k => if k then (T.ret (.bool false)) else (bo (T.b2 eqD (((T.ret a_value).bind listD).bind fun ds => T.ret (.list ds)) (((T.ret a_value).bind srtSetD).bind fun ds => T.ret (.list ds)))))
theorem d_are_sides (G : Gs K mg) (Fis_word : Fd P w K mg 1 ("is_word" : Str) (spI K 1 (ar1 m_is_word))) : ∀ A q ds, Room 1 A → ds.length = 1 → DS (bodyX P w K mg A N_are_sides s_are_sides) q (argSl N_are_sides ds) (defBody s_are_sides) (ar1 m_are_sides ds) En.rt := fun A q ds hr hl => match ds, hl with
  | [a_value], _ => by
    have nd : (N_are_sides).Nodup := by decide +kernel
    exact (ds_at (ρ' := [.va a_value, .un]) rfl (ds_ifr (dt_of_dw (dw_or (dt_not (dt_val (dx_isi (n := "tuple") (by decide +kernel) (by rfl) G.b_isinstance (by rfl) G.b_tuple boot_tuple (dx_va 0 rfl rfl (by first | exact .inl rfl | exact .inr (.inl rfl) | exact .inr (.inr rfl)))))) (dw_or (dt_not (dt_chain do_le do_le dx_int (dx_b1 dc_len (by rfl) G.b_len PySem.boot_len (dx_va 0 rfl rfl (by first | exact .inl rfl | exact .inr (.inl rfl) | exact .inr (.inr rfl)))) (dx_glob (v := .int 8) (by rfl) G.c_MOST_SIDES.choose_spec (g_relI _) fun _ => .int _))) (dw_or1 (dt_not (dt_val (dx_all (by rfl) G.b_all (dx_of_df (df_lc (own := [(("one" : Str), 1)]) nd (di_tup (dx_va 0 rfl rfl (by first | exact .inl rfl | exact .inr (.inl rfl) | exact .inr (.inr rfl)))) (by dsimp only [bodyX, Ctx.blk]; decide +kernel) (dg_nm 1 nd rfl (by first | exact .inl rfl | exact .inr rfl)) (by decide) (fun one1 => dts_nil) fun one1 => (dx_call1 Fis_word (hr.mono (by decide)) (by rfl) (dx_va 1 rfl rfl (by first | exact .inl rfl | exact .inr (.inl rfl) | exact .inr (.inr rfl))))))))))))) (ds_at (ρ' := [.va a_value, .un]) rfl (ds_ret dx_bl)) (ds_at (ρ' := [.va a_value, .un]) rfl (ds_ret (dx_cmpB (do_eq (r64 hr)) (dx_of_df (df_list (by rfl) G.b_list (dx_va 0 rfl rfl (by first | exact .inl rfl | exact .inr (.inl rfl) | exact .inr (.inr rfl))))) (dx_of_df (df_srtSet (r64 hr) (by rfl) G.b_sorted (by rfl) G.b_set (dx_va 0 rfl rfl (by first | exact .inl rfl | exact .inr (.inl rfl) | exact .inr (.inr rfl))))) (by first | exact nomark _ | rfl | with_unfolding_all rfl))))))
/-! ### is_round -/
abbrev s_is_round : Stmt := top 7
def N_is_round : List Str := [("value" : Str), ("sides" : Str), ("names" : Str), ("row" : Str), ("name" : Str)]
theorem sc_is_round : FnScope N_is_round [("value" : Str), ("sides" : Str)] (defScope s_is_round) := ⟨rfl, rfl, rfl, by decide +kernel, rfl, by decide +kernel, by decide +kernel⟩
def m_is_round (a_value : D) (a_sides : D) : T D := ((orT (notT ((T.ret a_value).bind fun d => T.ret (isiD "tuple" d))) (notT (((lcT ((T.ret a_value).bind itemsT) some (fun row1 => (T.ret true)) fun row1 => (bo (andT ((T.ret row1).bind fun d => T.ret (isiD "tuple" d)) (T.b2 eqD ((T.ret row1).bind lenD) (T.ret (.int 2)))))).bind fun ds => T.ret (.list ds)).bind allD))).bind fun k => if k then (T.ret (.bool false)) else ((lc2T ((T.ret a_value).bind itemsT) some (fun row3 => (T.ret true)) (fun row3 => ((T.ret row3).bind itemsT)) (fun row3 => some) (fun row3 name4 => (T.ret true)) fun row3 name4 => (T.ret name4)).bind fun names2 => (bo (andT (((lcT ((T.ret (.list names2)).bind itemsL) some (fun name5 => (T.ret true)) fun name5 => (bo (T.b2 inD (T.ret name5) (T.ret a_sides)))).bind fun ds => T.ret (.list ds)).bind allD) (andT (T.b2 eqD ((T.ret (.list names2)).bind lenSetD) ((T.ret (.list names2)).bind lenD)) (T.b2 eqD (((T.ret a_value).bind listD).bind fun ds => T.ret (.list ds)) (((T.ret a_value).bind sortedD).bind fun ds => T.ret (.list ds))))))))
theorem d_is_round (G : Gs K mg) : ∀ A q ds, Room 0 A → ds.length = 2 → DS (bodyX P w K mg A N_is_round s_is_round) q (argSl N_is_round ds) (defBody s_is_round) (ar2 m_is_round ds) En.rt := fun A q ds hr hl => match ds, hl with
  | [a_value, a_sides], _ => by
    have nd : (N_is_round).Nodup := by decide +kernel
    exact (ds_at (ρ' := [.va a_value, .va a_sides, .un, .un, .un]) rfl (ds_ifr (dt_of_dw (dw_or (dt_not (dt_val (dx_isi (n := "tuple") (by decide +kernel) (by rfl) G.b_isinstance (by rfl) G.b_tuple boot_tuple (dx_va 0 rfl rfl (by first | exact .inl rfl | exact .inr (.inl rfl) | exact .inr (.inr rfl)))))) (dw_or1 (dt_not (dt_val (dx_all (by rfl) G.b_all (dx_of_df (df_lc (own := [(("row" : Str), 3)]) nd (di_tup (dx_va 0 rfl rfl (by first | exact .inl rfl | exact .inr (.inl rfl) | exact .inr (.inr rfl)))) (by dsimp only [bodyX, Ctx.blk]; decide +kernel) (dg_nm 3 nd rfl (by first | exact .inl rfl | exact .inr rfl)) (by decide) (fun row1 => dts_nil) fun row1 => (dx_and (dx_isi (n := "tuple") (by decide +kernel) (by rfl) G.b_isinstance (by rfl) G.b_tuple boot_tuple (dx_va 3 rfl rfl (by first | exact .inl rfl | exact .inr (.inl rfl) | exact .inr (.inr rfl)))) (dx_and1 (dx_cmpB (do_eq (r64 hr)) (dx_b1 dc_len (by rfl) G.b_len PySem.boot_len (dx_va 3 rfl rfl (by first | exact .inl rfl | exact .inr (.inl rfl) | exact .inr (.inr rfl)))) dx_int (by first | exact nomark _ | rfl | with_unfolding_all rfl)))))))))))) (ds_at (ρ' := [.va a_value, .va a_sides, .un, .un, .un]) rfl (ds_ret dx_bl)) (ds_at (ρ' := [.va a_value, .va a_sides, .un, .un, .un]) rfl (ds_own (i := 2) (dfa_lc2 (own := [(("row" : Str), 3), (("name" : Str), 4)]) (vs1 := [4]) nd rfl rfl rfl (hsw := fun env he => sw_true (by rw [he]; rfl) (by rw [he]; rfl) rfl (by decide +kernel)) (di := (di_tup (dx_va 0 rfl rfl (by first | exact .inl rfl | exact .inr (.inl rfl) | exact .inr (.inr rfl))))) (bk := by dsimp only [bodyX, Ctx.blk]; decide +kernel) (hv := by decide) (dg := (dg_nm 3 nd rfl (by first | exact .inl rfl | exact .inr rfl))) (hix := by decide) (hc := fun row3 => dts_nil) (di1 := fun row3 => (di_tup (dx_va 3 rfl rfl (by first | exact .inl rfl | exact .inr (.inl rfl) | exact .inr (.inr rfl))))) (dg1 := fun row3 => (dg_nm 4 nd rfl (by first | exact .inl rfl | exact .inr rfl))) (hix1 := by decide) (hc1 := fun row3 name4 => dts_nil) (he := fun row3 name4 => (dx_va 4 rfl rfl (by first | exact .inl rfl | exact .inr (.inl rfl) | exact .inr (.inr rfl))))) fun names2 => (ds_at (ρ' := [.va a_value, .va a_sides, .ow names2, .un, .un]) rfl (ds_frz 2 rfl (ds_ret (dx_and (dx_all (by rfl) G.b_all (dx_of_df (df_lc (own := [(("name" : Str), 4)]) nd (di_list (dx_va 2 rfl rfl (by first | exact .inl rfl | exact .inr (.inl rfl) | exact .inr (.inr rfl)))) (by dsimp only [bodyX, Ctx.blk]; decide +kernel) (dg_nm 4 nd rfl (by first | exact .inl rfl | exact .inr rfl)) (by decide) (fun name5 => dts_nil) fun name5 => (dx_cmpB (do_in (r65 hr)) (dx_va 4 rfl rfl (by first | exact .inl rfl | exact .inr (.inl rfl) | exact .inr (.inr rfl))) (dx_va 1 rfl rfl (by first | exact .inl rfl | exact .inr (.inl rfl) | exact .inr (.inr rfl))) (by first | exact nomark _ | rfl | with_unfolding_all rfl))))) (dx_and (dx_cmpB (do_eq (r64 hr)) (dx_lenSet (r64 hr) (by rfl) G.b_len (by rfl) G.b_set (dx_va 2 rfl rfl (by first | exact .inl rfl | exact .inr (.inl rfl) | exact .inr (.inr rfl)))) (dx_b1 dc_len (by rfl) G.b_len PySem.boot_len (dx_va 2 rfl rfl (by first | exact .inl rfl | exact .inr (.inl rfl) | exact .inr (.inr rfl)))) (by first | exact nomark _ | rfl | with_unfolding_all rfl)) (dx_and1 (dx_cmpB (do_eq (r64 hr)) (dx_of_df (df_list (by rfl) G.b_list (dx_va 0 rfl rfl (by first | exact .inl rfl | exact .inr (.inl rfl) | exact .inr (.inr rfl))))) (dx_of_df (df_sorted (r64 hr) (by rfl) G.b_sorted (dx_va 0 rfl rfl (by first | exact .inl rfl | exact .inr (.inl rfl) | exact .inr (.inr rfl))))) (by first | exact nomark _ | rfl | with_unfolding_all rfl))))))))))))
/-! ### pairs_met -/
abbrev s_pairs_met : Stmt := top 8
def N_pairs_met : List Str := [("rounds" : Str), ("told" : Str), ("row" : Str)]
theorem sc_pairs_met : FnScope N_pairs_met [("rounds" : Str)] (defScope s_pairs_met) := ⟨rfl, rfl, rfl, by decide +kernel, rfl, by decide +kernel, by decide +kernel⟩
def m_pairs_met (a_rounds : D) : T D := ((((lc2T ((T.ret a_rounds).bind itemsT) some (fun told1 => (T.ret true)) (fun told1 => ((T.ret told1).bind itemsT)) (fun told1 => some) (fun told1 row2 => (T.ret true)) fun told1 row2 => ((((T.ret row2).bind sortedD).bind fun ds => T.ret (.list ds)).bind tupleD)).bind fun ds => T.ret (.list ds)).bind sortedD).bind fun ds => T.ret (.list ds))
theorem d_pairs_met (G : Gs K mg) : ∀ A q ds, Room 0 A → ds.length = 1 → DS (bodyX P w K mg A N_pairs_met s_pairs_met) q (argSl N_pairs_met ds) (defBody s_pairs_met) (ar1 m_pairs_met ds) En.rt := fun A q ds hr hl => match ds, hl with
  | [a_rounds], _ => by
    have nd : (N_pairs_met).Nodup := by decide +kernel
    exact (ds_at (ρ' := [.va a_rounds, .un, .un]) rfl (ds_ret (dx_of_df (df_sorted (r64 hr) (by rfl) G.b_sorted (dx_of_df (df_lc2 (own := [(("told" : Str), 1), (("row" : Str), 2)]) (vs1 := [2]) nd (di := (di_tup (dx_va 0 rfl rfl (by first | exact .inl rfl | exact .inr (.inl rfl) | exact .inr (.inr rfl))))) (bk := by dsimp only [bodyX, Ctx.blk]; decide +kernel) (hv := by decide) (dg := (dg_nm 1 nd rfl (by first | exact .inl rfl | exact .inr rfl))) (hix := by decide) (hc := fun told1 => dts_nil) (di1 := fun told1 => (di_tup (dx_va 1 rfl rfl (by first | exact .inl rfl | exact .inr (.inl rfl) | exact .inr (.inr rfl))))) (dg1 := fun told1 => (dg_nm 2 nd rfl (by first | exact .inl rfl | exact .inr rfl))) (hix1 := by decide) (hc1 := fun told1 row2 => dts_nil) (he := fun told1 row2 => (dx_ty1 dc_tuple (by rfl) G.b_tuple boot_tuple (dx_of_df (df_sorted (r64 hr) (by rfl) G.b_sorted (dx_va 2 rfl rfl (by first | exact .inl rfl | exact .inr (.inl rfl) | exact .inr (.inr rfl)))))))))))))
/-! ### fault_of_plan -/
abbrev s_fault_of_plan : Stmt := top 9
def N_fault_of_plan : List Str := [("value" : Str), ("_" : Str), ("sides" : Str), ("rounds" : Str), ("met" : Str), ("due" : Str), ("told" : Str)]
theorem sc_fault_of_plan : FnScope N_fault_of_plan [("value" : Str)] (defScope s_fault_of_plan) := ⟨rfl, rfl, rfl, by decide +kernel, rfl, by decide +kernel, by decide +kernel⟩
def m_fault_of_plan (a_value : D) : T D := ((orT (notT ((T.ret a_value).bind fun d => T.ret (isiD "tuple" d))) (orT (T.b2 neD ((T.ret a_value).bind lenD) (T.ret (.int 3))) (orT (T.b2 neD (T.b2 ixD (T.ret a_value) (T.ret (.int 0))) (T.ret (.str ("plan" : Str)))) (notT ((T.b2 ixD (T.ret a_value) (T.ret (.int 2))).bind fun d => T.ret (isiD "tuple" d)))))).bind fun k => if k then (T.ret (.str ("form" : Str))) else ((T.ret a_value).bind fun d => (T.opt ((tripO some some some) d)).bind fun p1 => ((notT (((T.ret p1.2.1).bind m_are_sides).bind truth)).bind fun k => if k then (T.ret (.str ("sides" : Str))) else ((notT (((lcT ((T.ret p1.2.2).bind itemsT) some (fun told8 => (T.ret true)) fun told8 => ((T.ret told8).bind fun a => (T.ret p1.2.1).bind fun b => m_is_round a b)).bind fun ds => T.ret (.list ds)).bind allD)).bind fun k => if k then (T.ret (.str ("round" : Str))) else (((T.ret p1.2.2).bind m_pairs_met).bind fun met9 => ((T.b2 neD ((T.ret met9).bind lenSetD) ((T.ret met9).bind lenD)).bind fun k => if k then (T.ret (.str ("twice" : Str))) else ((T.b2 addD (T.b2 subD ((T.ret p1.2.1).bind lenD) (T.ret (.int 1))) (T.b2 modD ((T.ret p1.2.1).bind lenD) (T.ret (.int 2)))).bind fun due10 => ((orT (T.b2 neD ((T.ret met9).bind lenD) (T.b2 divD (T.b2 mulD ((T.ret p1.2.1).bind lenD) (T.b2 subD ((T.ret p1.2.1).bind lenD) (T.ret (.int 1)))) (T.ret (.int 2)))) (T.b2 neD ((T.ret p1.2.2).bind lenD) (T.ret due10))).bind fun k => if k then (T.ret (.str ("lacks" : Str))) else (T.ret .none)))))))))
theorem d_fault_of_plan (G : Gs K mg) (Fare_sides : Fd P w K mg 2 ("are_sides" : Str) (spI K 1 (ar1 m_are_sides))) (Fis_round : Fd P w K mg 1 ("is_round" : Str) (spI K 2 (ar2 m_is_round))) (Fpairs_met : Fd P w K mg 1 ("pairs_met" : Str) (spI K 1 (ar1 m_pairs_met))) : ∀ A q ds, Room 2 A → ds.length = 1 → DS (bodyX P w K mg A N_fault_of_plan s_fault_of_plan) q (argSl N_fault_of_plan ds) (defBody s_fault_of_plan) (ar1 m_fault_of_plan ds) En.rt := fun A q ds hr hl => match ds, hl with
  | [a_value], _ => by
    have nd : (N_fault_of_plan).Nodup := by decide +kernel
    exact (ds_at (ρ' := [.va a_value, .un, .un, .un, .un, .un, .un]) rfl (ds_ifr (dt_of_dw (dw_or (dt_not (dt_val (dx_isi (n := "tuple") (by decide +kernel) (by rfl) G.b_isinstance (by rfl) G.b_tuple boot_tuple (dx_va 0 rfl rfl (by first | exact .inl rfl | exact .inr (.inl rfl) | exact .inr (.inr rfl)))))) (dw_or (dt_cmp (do_ne (r64 hr)) (dx_b1 dc_len (by rfl) G.b_len PySem.boot_len (dx_va 0 rfl rfl (by first | exact .inl rfl | exact .inr (.inl rfl) | exact .inr (.inr rfl)))) dx_int (by first | exact nomark _ | rfl | with_unfolding_all rfl)) (dw_or (dt_cmp (do_ne (r64 hr)) (dx_ix (dx_va 0 rfl rfl (by first | exact .inl rfl | exact .inr (.inl rfl) | exact .inr (.inr rfl))) dx_int) dx_str (by first | exact nomark _ | rfl | with_unfolding_all rfl)) (dw_or1 (dt_not (dt_val (dx_isi (n := "tuple") (by decide +kernel) (by rfl) G.b_isinstance (by rfl) G.b_tuple boot_tuple (dx_ix (dx_va 0 rfl rfl (by first | exact .inl rfl | exact .inr (.inl rfl) | exact .inr (.inr rfl))) dx_int))))))))) (ds_at (ρ' := [.va a_value, .un, .un, .un, .un, .un, .un]) rfl (ds_ret dx_str)) (ds_at (ρ' := [.va a_value, .un, .un, .un, .un, .un, .un]) rfl (ds_asgT (dx_va 0 rfl rfl (by first | exact .inl rfl | exact .inr (.inl rfl) | exact .inr (.inr rfl))) (dg_3 (dg_nm 1 nd rfl (by first | exact .inl rfl | exact .inr rfl)) (fun _ => (dg_nm 2 nd rfl (by first | exact .inl rfl | exact .inr rfl))) fun _ _ => (dg_nm 3 nd rfl (by first | exact .inl rfl | exact .inr rfl))) fun p1 => (ds_at (ρ' := [.va a_value, .va p1.1, .va p1.2.1, .va p1.2.2, .un, .un, .un]) rfl (ds_ifr (dt_not (dt_truth (dx_call1 Fare_sides (hr.mono (by decide)) (by rfl) (dx_va 2 rfl rfl (by first | exact .inl rfl | exact .inr (.inl rfl) | exact .inr (.inr rfl)))))) (ds_at (ρ' := [.va a_value, .va p1.1, .va p1.2.1, .va p1.2.2, .un, .un, .un]) rfl (ds_ret dx_str)) (ds_at (ρ' := [.va a_value, .va p1.1, .va p1.2.1, .va p1.2.2, .un, .un, .un]) rfl (ds_ifr (dt_not (dt_val (dx_all (by rfl) G.b_all (dx_of_df (df_lc (own := [(("told" : Str), 6)]) nd (di_tup (dx_va 3 rfl rfl (by first | exact .inl rfl | exact .inr (.inl rfl) | exact .inr (.inr rfl)))) (by dsimp only [bodyX, Ctx.blk]; decide +kernel) (dg_nm 6 nd rfl (by first | exact .inl rfl | exact .inr rfl)) (by decide) (fun told8 => dts_nil) fun told8 => (dx_call2 Fis_round (hr.mono (by decide)) (by rfl) (dx_va 6 rfl rfl (by first | exact .inl rfl | exact .inr (.inl rfl) | exact .inr (.inr rfl))) (dx_va 2 rfl rfl (by first | exact .inl rfl | exact .inr (.inl rfl) | exact .inr (.inr rfl))))))))) (ds_at (ρ' := [.va a_value, .va p1.1, .va p1.2.1, .va p1.2.2, .un, .un, .un]) rfl (ds_ret dx_str)) (ds_at (ρ' := [.va a_value, .va p1.1, .va p1.2.1, .va p1.2.2, .un, .un, .un]) rfl (ds_asg (i := 4) (dxa nd rfl (by first | exact .inl rfl | exact .inr rfl) (dx_call1 Fpairs_met (hr.mono (by decide)) (by rfl) (dx_va 3 rfl rfl (by first | exact .inl rfl | exact .inr (.inl rfl) | exact .inr (.inr rfl))))) fun met9 => (ds_at (ρ' := [.va a_value, .va p1.1, .va p1.2.1, .va p1.2.2, .va met9, .un, .un]) rfl (ds_ifr (dt_cmp (do_ne (r64 hr)) (dx_lenSet (r64 hr) (by rfl) G.b_len (by rfl) G.b_set (dx_va 4 rfl rfl (by first | exact .inl rfl | exact .inr (.inl rfl) | exact .inr (.inr rfl)))) (dx_b1 dc_len (by rfl) G.b_len PySem.boot_len (dx_va 4 rfl rfl (by first | exact .inl rfl | exact .inr (.inl rfl) | exact .inr (.inr rfl)))) (by first | exact nomark _ | rfl | with_unfolding_all rfl)) (ds_at (ρ' := [.va a_value, .va p1.1, .va p1.2.1, .va p1.2.2, .va met9, .un, .un]) rfl (ds_ret dx_str)) (ds_at (ρ' := [.va a_value, .va p1.1, .va p1.2.1, .va p1.2.2, .va met9, .un, .un]) rfl (ds_asg (i := 5) (dxa nd rfl (by first | exact .inl rfl | exact .inr rfl) (dx_op do_add (dx_op do_sub (dx_b1 dc_len (by rfl) G.b_len PySem.boot_len (dx_va 2 rfl rfl (by first | exact .inl rfl | exact .inr (.inl rfl) | exact .inr (.inr rfl)))) dx_int) (dx_op do_mod (dx_b1 dc_len (by rfl) G.b_len PySem.boot_len (dx_va 2 rfl rfl (by first | exact .inl rfl | exact .inr (.inl rfl) | exact .inr (.inr rfl)))) dx_int))) fun due10 => (ds_at (ρ' := [.va a_value, .va p1.1, .va p1.2.1, .va p1.2.2, .va met9, .va due10, .un]) rfl (ds_ifr (dt_of_dw (dw_or (dt_cmp (do_ne (r64 hr)) (dx_b1 dc_len (by rfl) G.b_len PySem.boot_len (dx_va 4 rfl rfl (by first | exact .inl rfl | exact .inr (.inl rfl) | exact .inr (.inr rfl)))) (dx_op do_div (dx_op do_mul (dx_b1 dc_len (by rfl) G.b_len PySem.boot_len (dx_va 2 rfl rfl (by first | exact .inl rfl | exact .inr (.inl rfl) | exact .inr (.inr rfl)))) (dx_op do_sub (dx_b1 dc_len (by rfl) G.b_len PySem.boot_len (dx_va 2 rfl rfl (by first | exact .inl rfl | exact .inr (.inl rfl) | exact .inr (.inr rfl)))) dx_int)) dx_int) (by first | exact nomark _ | rfl | with_unfolding_all rfl)) (dw_or1 (dt_cmp (do_ne (r64 hr)) (dx_b1 dc_len (by rfl) G.b_len PySem.boot_len (dx_va 3 rfl rfl (by first | exact .inl rfl | exact .inr (.inl rfl) | exact .inr (.inr rfl)))) (dx_va 5 rfl rfl (by first | exact .inl rfl | exact .inr (.inl rfl) | exact .inr (.inr rfl))) (by first | exact nomark _ | rfl | with_unfolding_all rfl))))) (ds_at (ρ' := [.va a_value, .va p1.1, .va p1.2.1, .va p1.2.2, .va met9, .va due10, .un]) rfl (ds_ret dx_str)) (ds_at (ρ' := [.va a_value, .va p1.1, .va p1.2.1, .va p1.2.2, .va met9, .va due10, .un]) rfl (ds_ret dx_non))))))))))))))))))
/-! ### ground -/
abbrev s_ground : Stmt := top 10
def N_ground : List Str := [("told" : Str), ("side" : Str), ("home" : Str), ("_" : Str), ("away" : Str)]
theorem sc_ground : FnScope N_ground [("told" : Str), ("side" : Str)] (defScope s_ground) := ⟨rfl, rfl, rfl, by decide +kernel, rfl, by decide +kernel, by decide +kernel⟩
def m_ground (a_told : D) (a_side : D) : T D := ((T.b2 inD (T.ret a_side) ((lcT ((T.ret a_told).bind itemsT) (pairO some some) (fun p2 => (T.ret true)) fun p2 => (T.ret p2.1)).bind fun ds => T.ret (.list ds))).bind fun k => if k then (T.ret (.str ("home" : Str))) else ((T.b2 inD (T.ret a_side) ((lcT ((T.ret a_told).bind itemsT) (pairO some some) (fun p6 => (T.ret true)) fun p6 => (T.ret p6.2)).bind fun ds => T.ret (.list ds))).bind fun k => if k then (T.ret (.str ("away" : Str))) else (T.ret (.str ("rest" : Str)))))
theorem d_ground (G : Gs K mg) : ∀ A q ds, Room 0 A → ds.length = 2 → DS (bodyX P w K mg A N_ground s_ground) q (argSl N_ground ds) (defBody s_ground) (ar2 m_ground ds) En.rt := fun A q ds hr hl => match ds, hl with
  | [a_told, a_side], _ => by
    have nd : (N_ground).Nodup := by decide +kernel
    exact (ds_at (ρ' := [.va a_told, .va a_side, .un, .un, .un]) rfl (ds_ifr (dt_cmp (do_in (r65 hr)) (dx_va 1 rfl rfl (by first | exact .inl rfl | exact .inr (.inl rfl) | exact .inr (.inr rfl))) (dx_of_df (df_lc (own := [(("home" : Str), 2), (("_" : Str), 3)]) nd (di_tup (dx_va 0 rfl rfl (by first | exact .inl rfl | exact .inr (.inl rfl) | exact .inr (.inr rfl)))) (by dsimp only [bodyX, Ctx.blk]; decide +kernel) (dg_2 (dg_nm 2 nd rfl (by first | exact .inl rfl | exact .inr rfl)) fun _ => (dg_nm 3 nd rfl (by first | exact .inl rfl | exact .inr rfl))) (by decide) (fun p2 => dts_nil) fun p2 => (dx_va 2 rfl rfl (by first | exact .inl rfl | exact .inr (.inl rfl) | exact .inr (.inr rfl))))) (by first | exact nomark _ | rfl | with_unfolding_all rfl)) (ds_at (ρ' := [.va a_told, .va a_side, .un, .un, .un]) rfl (ds_ret dx_str)) (ds_at (ρ' := [.va a_told, .va a_side, .un, .un, .un]) rfl (ds_ret (dx_ifExp (dt_cmp (do_in (r65 hr)) (dx_va 1 rfl rfl (by first | exact .inl rfl | exact .inr (.inl rfl) | exact .inr (.inr rfl))) (dx_of_df (df_lc (own := [(("_" : Str), 3), (("away" : Str), 4)]) nd (di_tup (dx_va 0 rfl rfl (by first | exact .inl rfl | exact .inr (.inl rfl) | exact .inr (.inr rfl)))) (by dsimp only [bodyX, Ctx.blk]; decide +kernel) (dg_2 (dg_nm 3 nd rfl (by first | exact .inl rfl | exact .inr rfl)) fun _ => (dg_nm 4 nd rfl (by first | exact .inl rfl | exact .inr rfl))) (by decide) (fun p6 => dts_nil) fun p6 => (dx_va 4 rfl rfl (by first | exact .inl rfl | exact .inr (.inl rfl) | exact .inr (.inr rfl))))) (by first | exact nomark _ | rfl | with_unfolding_all rfl)) dx_str dx_str)))))
/-! ### breaks -/
abbrev s_breaks : Stmt := top 11
def N_breaks : List Str := [("value" : Str), ("_" : Str), ("sides" : Str), ("rounds" : Str), ("found" : Str), ("here" : Str), ("number" : Str), ("side" : Str)]
theorem sc_breaks : FnScope N_breaks [("value" : Str)] (defScope s_breaks) := ⟨rfl, rfl, rfl, by decide +kernel, rfl, by decide +kernel, by decide +kernel⟩
def m_breaks (a_value : D) : T D := ((T.ret a_value).bind fun d => (T.opt ((tripO some some some) d)).bind fun p1 => ((T.ret []).bind fun found8 => (((T.ret p1.2.1).bind itemsT).bind fun ds => (T.foldM (fun d (s9 : List D) => (T.opt (some d)).bind fun side10 => ((T.b2 range2 (T.ret (.int 1)) ((T.ret p1.2.2).bind lenD)).bind fun ds => (T.foldM (fun d (s11 : List D) => (T.opt (some d)).bind fun number12 => (((T.b2 ixD (T.ret p1.2.2) (T.ret number12)).bind fun a => (T.ret side10).bind fun b => m_ground a b).bind fun here13 => ((andT (T.b2 neD (T.ret here13) (T.ret (.str ("rest" : Str)))) (T.b2 eqD (T.ret here13) ((T.b2 ixD (T.ret p1.2.2) (T.b2 subD (T.ret number12) (T.ret (.int 1)))).bind fun a => (T.ret side10).bind fun b => m_ground a b))).bind fun k => if k then (((T.ret side10).bind fun a => (T.b2 addD (T.ret number12) (T.ret (.int 1))).bind fun b => T.ret (.tuple [a, b])).bind fun e14 => T.chk (List.length (α := D) s11) (T.ret (s11 ++ [e14]))) else (T.ret s11)))) ds s9).bind fun s11 => (T.ret s11))) ds found8).bind fun s9 => ((T.ret (.list s9)).bind tupleD))))
theorem d_breaks (G : Gs K mg) (Fground : Fd P w K mg 1 ("ground" : Str) (spI K 2 (ar2 m_ground))) : ∀ A q ds, Room 1 A → ds.length = 1 → DS (bodyX P w K mg A N_breaks s_breaks) q (argSl N_breaks ds) (defBody s_breaks) (ar1 m_breaks ds) En.rt := fun A q ds hr hl => match ds, hl with
  | [a_value], _ => by
    have nd : (N_breaks).Nodup := by decide +kernel
    exact (ds_at (ρ' := [.va a_value, .un, .un, .un, .un, .un, .un, .un]) rfl (ds_asgT (dx_va 0 rfl rfl (by first | exact .inl rfl | exact .inr (.inl rfl) | exact .inr (.inr rfl))) (dg_3 (dg_nm 1 nd rfl (by first | exact .inl rfl | exact .inr rfl)) (fun _ => (dg_nm 2 nd rfl (by first | exact .inl rfl | exact .inr rfl))) fun _ _ => (dg_nm 3 nd rfl (by first | exact .inl rfl | exact .inr rfl))) fun p1 => (ds_at (ρ' := [.va a_value, .va p1.1, .va p1.2.1, .va p1.2.2, .un, .un, .un, .un]) rfl (ds_own (i := 4) (dfa nd rfl (by first | exact .inl rfl | exact .inr rfl) df_lst0) fun found8 => (ds_at (ρ' := [.va a_value, .va p1.1, .va p1.2.1, .va p1.2.2, .ow found8, .un, .un, .un]) rfl (ds_forN (S := List D) (η := fun s9 => [.va a_value, .va p1.1, .va p1.2.1, .va p1.2.2, .ow s9, .un, .un, .un]) (s0 := found8) (di_tup (dx_va 2 rfl rfl (by first | exact .inl rfl | exact .inr (.inl rfl) | exact .inr (.inr rfl)))) (And.intro rfl (And.intro rfl (And.intro rfl (And.intro rfl (And.intro rfl (And.intro trivial (And.intro trivial (And.intro trivial trivial)))))))) (fun s9 => (dg_nm 7 nd rfl (by first | exact .inl rfl | exact .inr rfl))) (fun s9 side10 => (ds_at (ρ' := [.va a_value, .va p1.1, .va p1.2.1, .va p1.2.2, .ow s9, .un, .un, .va side10]) rfl (ds_forN (S := List D) (η := fun s11 => [.va a_value, .va p1.1, .va p1.2.1, .va p1.2.2, .ow s11, .un, .un, .va side10]) (s0 := s9) (di_range2 (by rfl) G.b_range dx_int (dx_b1 dc_len (by rfl) G.b_len PySem.boot_len (dx_va 3 rfl rfl (by first | exact .inl rfl | exact .inr (.inl rfl) | exact .inr (.inr rfl))))) (And.intro rfl (And.intro rfl (And.intro rfl (And.intro rfl (And.intro rfl (And.intro trivial (And.intro trivial (And.intro rfl trivial)))))))) (fun s11 => (dg_nm 6 nd rfl (by first | exact .inl rfl | exact .inr rfl))) (fun s11 number12 => (ds_at (ρ' := [.va a_value, .va p1.1, .va p1.2.1, .va p1.2.2, .ow s11, .un, .va number12, .va side10]) rfl (ds_asg (i := 5) (dxa nd rfl (by first | exact .inl rfl | exact .inr rfl) (dx_call2 Fground (hr.mono (by decide)) (by rfl) (dx_ix (dx_va 3 rfl rfl (by first | exact .inl rfl | exact .inr (.inl rfl) | exact .inr (.inr rfl))) (dx_va 6 rfl rfl (by first | exact .inl rfl | exact .inr (.inl rfl) | exact .inr (.inr rfl)))) (dx_va 7 rfl rfl (by first | exact .inl rfl | exact .inr (.inl rfl) | exact .inr (.inr rfl))))) fun here13 => (ds_at (ρ' := [.va a_value, .va p1.1, .va p1.2.1, .va p1.2.2, .ow s11, .va here13, .va number12, .va side10]) rfl (ds_ite (dt_of_dw (dw_and (dt_cmp (do_ne (r64 hr)) (dx_va 5 rfl rfl (by first | exact .inl rfl | exact .inr (.inl rfl) | exact .inr (.inr rfl))) dx_str (by first | exact nomark _ | rfl | with_unfolding_all rfl)) (dw_and1 (dt_cmp (do_eq (r64 hr)) (dx_va 5 rfl rfl (by first | exact .inl rfl | exact .inr (.inl rfl) | exact .inr (.inr rfl))) (dx_call2 Fground (hr.mono (by decide)) (by rfl) (dx_ix (dx_va 3 rfl rfl (by first | exact .inl rfl | exact .inr (.inl rfl) | exact .inr (.inr rfl))) (dx_op do_sub (dx_va 6 rfl rfl (by first | exact .inl rfl | exact .inr (.inl rfl) | exact .inr (.inr rfl))) dx_int)) (dx_va 7 rfl rfl (by first | exact .inl rfl | exact .inr (.inl rfl) | exact .inr (.inr rfl)))) (by first | exact nomark _ | rfl | with_unfolding_all rfl))))) (ds_at (ρ' := [.va a_value, .va p1.1, .va p1.2.1, .va p1.2.2, .ow s11, .va here13, .va number12, .va side10]) rfl (ds_app 4 rfl rfl (by first | exact .inl rfl | exact .inr (.inl rfl) | exact .inr (.inr rfl)) (dx_tup2 (dx_va 7 rfl rfl (by first | exact .inl rfl | exact .inr (.inl rfl) | exact .inr (.inr rfl))) (dx_op do_add (dx_va 6 rfl rfl (by first | exact .inl rfl | exact .inr (.inl rfl) | exact .inr (.inr rfl))) dx_int)) fun e14 => (ds_at (ρ' := [.va a_value, .va p1.1, .va p1.2.1, .va p1.2.2, .ow (s11 ++ [e14]), .va here13, .va number12, .va side10]) rfl (ds_nil rfl (And.intro rfl (And.intro rfl (And.intro rfl (And.intro rfl (And.intro rfl (And.intro trivial (And.intro trivial (And.intro rfl trivial)))))))))))) (ds_at (ρ' := [.va a_value, .va p1.1, .va p1.2.1, .va p1.2.2, .ow s11, .va here13, .va number12, .va side10]) rfl (ds_nil rfl (And.intro rfl (And.intro rfl (And.intro rfl (And.intro rfl (And.intro rfl (And.intro trivial (And.intro trivial (And.intro rfl trivial))))))))))))))) (fun s11 => (ds_at (ρ' := [.va a_value, .va p1.1, .va p1.2.1, .va p1.2.2, .ow s11, .un, .un, .va side10]) rfl (ds_nil rfl (And.intro rfl (And.intro rfl (And.intro rfl (And.intro rfl (And.intro rfl (And.intro trivial (And.intro trivial (And.intro trivial trivial)))))))))))))) (fun s9 => (ds_at (ρ' := [.va a_value, .va p1.1, .va p1.2.1, .va p1.2.2, .ow s9, .un, .un, .un]) rfl (ds_frz 4 rfl (ds_ret (dx_ty1 dc_tuple (by rfl) G.b_tuple boot_tuple (dx_va 4 rfl rfl (by first | exact .inl rfl | exact .inr (.inl rfl) | exact .inr (.inr rfl))))))))))))))
/-! ### patterns -/
abbrev s_patterns : Stmt := top 12
def N_patterns : List Str := [("value" : Str), ("side" : Str), ("told" : Str)]
theorem sc_patterns : FnScope N_patterns [("value" : Str)] (defScope s_patterns) := ⟨rfl, rfl, rfl, by decide +kernel, rfl, by decide +kernel, by decide +kernel⟩
def m_patterns (a_value : D) : T D := (((lcT ((T.b2 ixD (T.ret a_value) (T.ret (.int 1))).bind itemsT) some (fun side1 => (T.ret true)) fun side1 => ((T.ret side1).bind fun a => (((lcT ((T.b2 ixD (T.ret a_value) (T.ret (.int 2))).bind itemsT) some (fun told2 => (T.ret true)) fun told2 => ((T.ret told2).bind fun a => (T.ret side1).bind fun b => m_ground a b)).bind fun ds => T.ret (.list ds)).bind tupleD).bind fun b => T.ret (.tuple [a, b]))).bind fun ds => T.ret (.list ds)).bind tupleD)
theorem d_patterns (G : Gs K mg) (Fground : Fd P w K mg 1 ("ground" : Str) (spI K 2 (ar2 m_ground))) : ∀ A q ds, Room 1 A → ds.length = 1 → DS (bodyX P w K mg A N_patterns s_patterns) q (argSl N_patterns ds) (defBody s_patterns) (ar1 m_patterns ds) En.rt := fun A q ds hr hl => match ds, hl with
  | [a_value], _ => by
    have nd : (N_patterns).Nodup := by decide +kernel
    exact (ds_at (ρ' := [.va a_value, .un, .un]) rfl (ds_ret (dx_ty1 dc_tuple (by rfl) G.b_tuple boot_tuple (dx_of_df (df_lc (own := [(("side" : Str), 1)]) nd (di_tup (dx_ix (dx_va 0 rfl rfl (by first | exact .inl rfl | exact .inr (.inl rfl) | exact .inr (.inr rfl))) dx_int)) (by dsimp only [bodyX, Ctx.blk]; decide +kernel) (dg_nm 1 nd rfl (by first | exact .inl rfl | exact .inr rfl)) (by decide) (fun side1 => dts_nil) fun side1 => (dx_tup2 (dx_va 1 rfl rfl (by first | exact .inl rfl | exact .inr (.inl rfl) | exact .inr (.inr rfl))) (dx_ty1 dc_tuple (by rfl) G.b_tuple boot_tuple (dx_of_df (df_lc (own := [(("told" : Str), 2)]) nd (di_tup (dx_ix (dx_va 0 rfl rfl (by first | exact .inl rfl | exact .inr (.inl rfl) | exact .inr (.inr rfl))) dx_int)) (by dsimp only [bodyX, Ctx.blk]; decide +kernel) (dg_nm 2 nd rfl (by first | exact .inl rfl | exact .inr rfl)) (by decide) (fun told2 => dts_nil) fun told2 => (dx_call2 Fground (hr.mono (by decide)) (by rfl) (dx_va 2 rfl rfl (by first | exact .inl rfl | exact .inr (.inl rfl) | exact .inr (.inr rfl))) (dx_va 1 rfl rfl (by first | exact .inl rfl | exact .inr (.inl rfl) | exact .inr (.inr rfl)))))))))))))
/-! ### _law_mixed -/
abbrev s_law_mixed : Stmt := top 14
def N_law_mixed : List Str := [("number" : Str), ("place" : Str), ("first" : Str), ("second" : Str), ("third" : Str)]
theorem sc_law_mixed : FnScope N_law_mixed [("number" : Str), ("place" : Str)] (defScope s_law_mixed) := ⟨rfl, rfl, rfl, by decide +kernel, rfl, by decide +kernel, by decide +kernel⟩
-- m_law_mixed stands in DP
theorem d_law_mixed (G : Gs K mg) : ∀ A q ds, Room 0 A → ds.length = 2 → DS (bodyX P w K mg A N_law_mixed s_law_mixed) q (argSl N_law_mixed ds) (defBody s_law_mixed) (ar2 m_law_mixed ds) En.rt := fun A q ds hr hl => match ds, hl with
  | [a_number, a_place], _ => by
    have nd : (N_law_mixed).Nodup := by decide +kernel
    exact (ds_at (ρ' := [.va a_number, .va a_place, .un, .un, .un]) rfl (ds_asg (i := 2) (dxa nd rfl (by first | exact .inl rfl | exact .inr rfl) (dx_op do_mod (dx_ty1 dc_int (by rfl) G.b_int boot_int (dx_op do_add (dx_op do_add (dx_op do_mul (dx_va 0 rfl rfl (by first | exact .inl rfl | exact .inr (.inl rfl) | exact .inr (.inr rfl))) dx_int) (dx_op do_mul (dx_va 1 rfl rfl (by first | exact .inl rfl | exact .inr (.inl rfl) | exact .inr (.inr rfl))) dx_int)) dx_int)) dx_int)) fun first1 => (ds_at (ρ' := [.va a_number, .va a_place, .va first1, .un, .un]) rfl (ds_asg (i := 3) (dxa nd rfl (by first | exact .inl rfl | exact .inr rfl) (dx_op do_mod (dx_ty1 dc_int (by rfl) G.b_int boot_int (dx_op do_add (dx_op do_add (dx_op do_mul (dx_va 2 rfl rfl (by first | exact .inl rfl | exact .inr (.inl rfl) | exact .inr (.inr rfl))) (dx_va 2 rfl rfl (by first | exact .inl rfl | exact .inr (.inl rfl) | exact .inr (.inr rfl)))) (dx_op do_mul dx_int (dx_va 2 rfl rfl (by first | exact .inl rfl | exact .inr (.inl rfl) | exact .inr (.inr rfl))))) (dx_va 1 rfl rfl (by first | exact .inl rfl | exact .inr (.inl rfl) | exact .inr (.inr rfl))))) dx_int)) fun second2 => (ds_at (ρ' := [.va a_number, .va a_place, .va first1, .va second2, .un]) rfl (ds_asg (i := 4) (dxa nd rfl (by first | exact .inl rfl | exact .inr rfl) (dx_op do_mod (dx_ty1 dc_int (by rfl) G.b_int boot_int (dx_op do_add (dx_op do_mul (dx_va 3 rfl rfl (by first | exact .inl rfl | exact .inr (.inl rfl) | exact .inr (.inr rfl))) (dx_va 3 rfl rfl (by first | exact .inl rfl | exact .inr (.inl rfl) | exact .inr (.inr rfl)))) (dx_va 2 rfl rfl (by first | exact .inl rfl | exact .inr (.inl rfl) | exact .inr (.inr rfl))))) dx_int)) fun third3 => (ds_at (ρ' := [.va a_number, .va a_place, .va first1, .va second2, .va third3]) rfl (ds_ret (dx_op do_add (dx_op do_mul (dx_va 3 rfl rfl (by first | exact .inl rfl | exact .inr (.inl rfl) | exact .inr (.inr rfl))) dx_int) (dx_va 4 rfl rfl (by first | exact .inl rfl | exact .inr (.inl rfl) | exact .inr (.inr rfl))))))))))))
/-! ### _law_rest -/
abbrev s_law_rest : Stmt := top 15
def N_law_rest : List Str := [("script" : Str), ("place" : Str), ("fills" : Str), ("number" : Str)]
theorem sc_law_rest : FnScope N_law_rest [("script" : Str), ("place" : Str), ("fills" : Str)] (defScope s_law_rest) := ⟨rfl, rfl, rfl, by decide +kernel, rfl, by decide +kernel, by decide +kernel⟩
-- m_law_rest stands in DP
theorem d_law_rest (G : Gs K mg) (F_law_mixed : Fd P w K mg 1 ("_law_mixed" : Str) (spI K 2 (ar2 m_law_mixed))) : ∀ A ns a_place a_fills, Room 1 A → DS (bodyX P w K mg A N_law_rest s_law_rest) none [.fz ns, .va a_place, .va a_fills, .un] (defBody s_law_rest) (m_law_rest ns a_place a_fills) En.rt := fun A ns a_place a_fills hr => by
    have nd : (N_law_rest).Nodup := by decide +kernel
    exact (ds_at (ρ' := [.fz ns, .va a_place, .va a_fills, .un]) rfl (ds_asg (i := 3) (dxa nd rfl (by first | exact .inl rfl | exact .inr rfl) dx_int) fun number1 => (ds_at (ρ' := [.fz ns, .va a_place, .va a_fills, .va number1]) rfl (ds_ifj (S := D) (env := fun s2 => [.fz ns, .va a_place, .va a_fills, .va s2]) (dt_cmp do_gt (dx_lenFz 0 (by rfl) G.b_len rfl rfl (by first | exact .inl rfl | exact .inr (.inl rfl) | exact .inr (.inr rfl))) dx_int (by first | exact nomark _ | rfl | with_unfolding_all rfl)) (ds_at (ρ' := [.fz ns, .va a_place, .va a_fills, .va number1]) rfl (ds_asg (i := 3) (dxa nd rfl (by first | exact .inl rfl | exact .inr rfl) (dx_ty1 dc_int (by rfl) G.b_int boot_int (dx_ixFz 0 rfl rfl (by first | exact .inl rfl | exact .inr (.inl rfl) | exact .inr (.inr rfl)) (dx_op do_mod (dx_ty1 dc_int (by rfl) G.b_int boot_int (dx_va 1 rfl rfl (by first | exact .inl rfl | exact .inr (.inl rfl) | exact .inr (.inr rfl)))) (dx_lenFz 0 (by rfl) G.b_len rfl rfl (by first | exact .inl rfl | exact .inr (.inl rfl) | exact .inr (.inr rfl))))))) fun number3 => (ds_at (ρ' := [.fz ns, .va a_place, .va a_fills, .va number3]) rfl (ds_nil rfl (And.intro rfl (And.intro rfl (And.intro rfl (And.intro rfl trivial)))))))) (ds_at (ρ' := [.fz ns, .va a_place, .va a_fills, .va number1]) rfl (ds_nil rfl (And.intro rfl (And.intro rfl (And.intro rfl (And.intro rfl trivial)))))) fun s2 => (ds_at (ρ' := [.fz ns, .va a_place, .va a_fills, .va s2]) rfl (ds_ifj (S := D) (env := fun s4 => [.fz ns, .va a_place, .va a_fills, .va s4]) (dt_cmp do_lt (dx_va 3 rfl rfl (by first | exact .inl rfl | exact .inr (.inl rfl) | exact .inr (.inr rfl))) dx_int (by first | exact nomark _ | rfl | with_unfolding_all rfl)) (ds_at (ρ' := [.fz ns, .va a_place, .va a_fills, .va s2]) rfl (ds_asg (i := 3) (dxa nd rfl (by first | exact .inl rfl | exact .inr rfl) (dx_op do_sub dx_int (dx_op do_mul dx_int (dx_va 3 rfl rfl (by first | exact .inl rfl | exact .inr (.inl rfl) | exact .inr (.inr rfl)))))) fun number5 => (ds_at (ρ' := [.fz ns, .va a_place, .va a_fills, .va number5]) rfl (ds_nil rfl (And.intro rfl (And.intro rfl (And.intro rfl (And.intro rfl trivial)))))))) (ds_at (ρ' := [.fz ns, .va a_place, .va a_fills, .va s2]) rfl (ds_nil rfl (And.intro rfl (And.intro rfl (And.intro rfl (And.intro rfl trivial)))))) fun s4 => (ds_at (ρ' := [.fz ns, .va a_place, .va a_fills, .va s4]) rfl (ds_ifr (dt_of_dw (dw_and (dt_cmp (do_eq (r64 hr)) (dx_va 2 rfl rfl (by first | exact .inl rfl | exact .inr (.inl rfl) | exact .inr (.inr rfl))) dx_int (by first | exact nomark _ | rfl | with_unfolding_all rfl)) (dw_and (dt_cmp do_lt (dx_va 1 rfl rfl (by first | exact .inl rfl | exact .inr (.inl rfl) | exact .inr (.inr rfl))) (dx_lenFz 0 (by rfl) G.b_len rfl rfl (by first | exact .inl rfl | exact .inr (.inl rfl) | exact .inr (.inr rfl))) (by first | exact nomark _ | rfl | with_unfolding_all rfl)) (dw_and1 (dt_cmp do_ge (dx_va 3 rfl rfl (by first | exact .inl rfl | exact .inr (.inl rfl) | exact .inr (.inr rfl))) (dx_op do_pow dx_int dx_int) (by first | exact nomark _ | rfl | with_unfolding_all rfl)))))) (ds_at (ρ' := [.fz ns, .va a_place, .va a_fills, .va s4]) rfl (ds_ret (dx_op do_sub (dx_va 3 rfl rfl (by first | exact .inl rfl | exact .inr (.inl rfl) | exact .inr (.inr rfl))) (dx_op do_pow dx_int dx_int)))) (ds_at (ρ' := [.fz ns, .va a_place, .va a_fills, .va s4]) rfl (ds_ret (dx_call2 F_law_mixed (hr.mono (by decide)) (by rfl) (dx_op do_add (dx_va 3 rfl rfl (by first | exact .inl rfl | exact .inr (.inl rfl) | exact .inr (.inr rfl))) (dx_op do_mul (dx_va 2 rfl rfl (by first | exact .inl rfl | exact .inr (.inl rfl) | exact .inr (.inr rfl))) dx_int)) (dx_va 1 rfl rfl (by first | exact .inl rfl | exact .inr (.inl rfl) | exact .inr (.inr rfl))))))))))))))
/-! ### _law_pick -/
abbrev s_law_pick : Stmt := top 19
def N_law_pick : List Str := [("pool" : Str), ("options" : Str)]
theorem sc_law_pick : FnScope N_law_pick [("pool" : Str), ("options" : Str)] (defScope s_law_pick) := ⟨rfl, rfl, rfl, by decide +kernel, rfl, by decide +kernel, by decide +kernel⟩
def m_law_pick (a_options : D) : T D := (T.b2 ixD (T.ret a_options) (((T.ret a_options).bind lenD).bind drawD))
theorem d_law_pick (G : Gs K mg) (F_law_draw : Fd P w K mg 3 ("_law_draw" : Str) (spP K 1 (ar1 drawD))) : ∀ A a ds, Room 3 A → ds.length = 1 → DS (bodyX P w K mg A N_law_pick s_law_pick) (some a) ((argSl N_law_pick (.none :: ds)).set 0 .po) (defBody s_law_pick) (ar1 m_law_pick ds) En.rt := fun A q ds hr hl => match ds, hl with
  | [a_options], _ => by
    have nd : (N_law_pick).Nodup := by decide +kernel
    exact (ds_at (ρ' := [.po, .va a_options]) rfl (ds_ret (dx_ix (dx_va 1 rfl rfl (by first | exact .inl rfl | exact .inr (.inl rfl) | exact .inr (.inr rfl))) (dx_callP1 0 F_law_draw (hr.mono (by decide)) (by rfl) rfl rfl (by first | exact .inl rfl | exact .inr (.inl rfl) | exact .inr (.inr rfl)) (dx_b1 dc_len (by rfl) G.b_len PySem.boot_len (dx_va 1 rfl rfl (by first | exact .inl rfl | exact .inr (.inl rfl) | exact .inr (.inr rfl))))))))
/-! ### _law_sides -/
abbrev s_law_sides : Stmt := top 20
def N_law_sides : List Str := [("many" : Str)]
theorem sc_law_sides : FnScope N_law_sides [("many" : Str)] (defScope s_law_sides) := ⟨rfl, rfl, rfl, by decide +kernel, rfl, by decide +kernel, by decide +kernel⟩
def m_law_sides (a_many : D) : T D := ((((T.ret (.str ("ann" : Str))).bind fun a => ((T.ret (.str ("bob" : Str))).bind fun a => ((T.ret (.str ("cid" : Str))).bind fun a => ((T.ret (.str ("dot" : Str))).bind fun a => ((T.ret (.str ("eve" : Str))).bind fun a => ((T.ret (.str ("fay" : Str))).bind fun a => ((T.ret (.str ("gus" : Str))).bind fun a => ((T.ret (.str ("hal" : Str))).bind fun a => (T.ret []).bind fun as => T.ret (a :: as)).bind fun as => T.ret (a :: as)).bind fun as => T.ret (a :: as)).bind fun as => T.ret (a :: as)).bind fun as => T.ret (a :: as)).bind fun as => T.ret (a :: as)).bind fun as => T.ret (a :: as)).bind fun as => T.ret (a :: as)).bind fun ds => T.chk ds.length (T.ret (.tuple ds))).bind fun x => (T.ret none : T (Option Int)).bind fun l => ((T.ret a_many).bind partD).bind fun u => slD x l u)
theorem d_law_sides (G : Gs K mg) : ∀ A q ds, Room 0 A → ds.length = 1 → DS (bodyX P w K mg A N_law_sides s_law_sides) q (argSl N_law_sides ds) (defBody s_law_sides) (ar1 m_law_sides ds) En.rt := fun A q ds hr hl => match ds, hl with
  | [a_many], _ => by
    have nd : (N_law_sides).Nodup := by decide +kernel
    exact (ds_at (ρ' := [.va a_many]) rfl (ds_ret (dx_sl (dx_tup (da_cons dx_str (da_cons dx_str (da_cons dx_str (da_cons dx_str (da_cons dx_str (da_cons dx_str (da_cons dx_str (da_cons dx_str da_nil))))))))) dp_none (dp_some (dx_va 0 rfl rfl (by first | exact .inl rfl | exact .inr (.inl rfl) | exact .inr (.inr rfl)))))))
/-! ### _law_ground -/
abbrev s_law_ground : Stmt := top 21
def N_law_ground : List Str := [("told" : Str), ("side" : Str), ("row" : Str)]
theorem sc_law_ground : FnScope N_law_ground [("told" : Str), ("side" : Str)] (defScope s_law_ground) := ⟨rfl, rfl, rfl, by decide +kernel, rfl, by decide +kernel, by decide +kernel⟩
def m_law_ground (a_told : D) (a_side : D) : T D := ((T.b2 inD (T.ret a_side) ((lcT ((T.ret a_told).bind itemsT) some (fun row1 => (T.ret true)) fun row1 => (T.b2 ixD (T.ret row1) (T.ret (.int 0)))).bind fun ds => T.ret (.list ds))).bind fun k => if k then (T.ret (.str ("home" : Str))) else ((T.b2 inD (T.ret a_side) ((lcT ((T.ret a_told).bind itemsT) some (fun row2 => (T.ret true)) fun row2 => (T.b2 ixD (T.ret row2) (T.ret (.int 1)))).bind fun ds => T.ret (.list ds))).bind fun k => if k then (T.ret (.str ("away" : Str))) else (T.ret (.str ("rest" : Str)))))
theorem d_law_ground (G : Gs K mg) : ∀ A q ds, Room 0 A → ds.length = 2 → DS (bodyX P w K mg A N_law_ground s_law_ground) q (argSl N_law_ground ds) (defBody s_law_ground) (ar2 m_law_ground ds) En.rt := fun A q ds hr hl => match ds, hl with
  | [a_told, a_side], _ => by
    have nd : (N_law_ground).Nodup := by decide +kernel
    exact (ds_at (ρ' := [.va a_told, .va a_side, .un]) rfl (ds_ifr (dt_cmp (do_in (r65 hr)) (dx_va 1 rfl rfl (by first | exact .inl rfl | exact .inr (.inl rfl) | exact .inr (.inr rfl))) (dx_of_df (df_lc (own := [(("row" : Str), 2)]) nd (di_tup (dx_va 0 rfl rfl (by first | exact .inl rfl | exact .inr (.inl rfl) | exact .inr (.inr rfl)))) (by dsimp only [bodyX, Ctx.blk]; decide +kernel) (dg_nm 2 nd rfl (by first | exact .inl rfl | exact .inr rfl)) (by decide) (fun row1 => dts_nil) fun row1 => (dx_ix (dx_va 2 rfl rfl (by first | exact .inl rfl | exact .inr (.inl rfl) | exact .inr (.inr rfl))) dx_int))) (by first | exact nomark _ | rfl | with_unfolding_all rfl)) (ds_at (ρ' := [.va a_told, .va a_side, .un]) rfl (ds_ret dx_str)) (ds_at (ρ' := [.va a_told, .va a_side, .un]) rfl (ds_ifr (dt_cmp (do_in (r65 hr)) (dx_va 1 rfl rfl (by first | exact .inl rfl | exact .inr (.inl rfl) | exact .inr (.inr rfl))) (dx_of_df (df_lc (own := [(("row" : Str), 2)]) nd (di_tup (dx_va 0 rfl rfl (by first | exact .inl rfl | exact .inr (.inl rfl) | exact .inr (.inr rfl)))) (by dsimp only [bodyX, Ctx.blk]; decide +kernel) (dg_nm 2 nd rfl (by first | exact .inl rfl | exact .inr rfl)) (by decide) (fun row2 => dts_nil) fun row2 => (dx_ix (dx_va 2 rfl rfl (by first | exact .inl rfl | exact .inr (.inl rfl) | exact .inr (.inr rfl))) dx_int))) (by first | exact nomark _ | rfl | with_unfolding_all rfl)) (ds_at (ρ' := [.va a_told, .va a_side, .un]) rfl (ds_ret dx_str)) (ds_at (ρ' := [.va a_told, .va a_side, .un]) rfl (ds_ret dx_str))))))
/-! ### _law_breaks -/
abbrev s_law_breaks : Stmt := top 22
def N_law_breaks : List Str := [("made" : Str), ("found" : Str), ("here" : Str), ("k" : Str), ("side" : Str)]
theorem sc_law_breaks : FnScope N_law_breaks [("made" : Str)] (defScope s_law_breaks) := ⟨rfl, rfl, rfl, by decide +kernel, rfl, by decide +kernel, by decide +kernel⟩
def m_law_breaks (a_made : D) : T D := ((T.ret []).bind fun found1 => (((T.b2 ixD (T.ret a_made) (T.ret (.int 1))).bind itemsT).bind fun ds => (T.foldM (fun d (s2 : List D) => (T.opt (some d)).bind fun side3 => ((T.b2 range2 (T.ret (.int 1)) ((T.b2 ixD (T.ret a_made) (T.ret (.int 2))).bind lenD)).bind fun ds => (T.foldM (fun d (s4 : List D) => (T.opt (some d)).bind fun k5 => (((T.b2 ixD (T.b2 ixD (T.ret a_made) (T.ret (.int 2))) (T.ret k5)).bind fun a => (T.ret side3).bind fun b => m_law_ground a b).bind fun here6 => ((andT (T.b2 neD (T.ret here6) (T.ret (.str ("rest" : Str)))) (T.b2 eqD (T.ret here6) ((T.b2 ixD (T.b2 ixD (T.ret a_made) (T.ret (.int 2))) (T.b2 subD (T.ret k5) (T.ret (.int 1)))).bind fun a => (T.ret side3).bind fun b => m_law_ground a b))).bind fun k => if k then (((T.ret side3).bind fun a => (T.b2 addD (T.ret k5) (T.ret (.int 1))).bind fun b => T.ret (.tuple [a, b])).bind fun e7 => T.chk (List.length (α := D) s4) (T.ret (s4 ++ [e7]))) else (T.ret s4)))) ds s2).bind fun s4 => (T.ret s4))) ds found1).bind fun s2 => ((T.ret (.list s2)).bind tupleD)))
theorem d_law_breaks (G : Gs K mg) (F_law_ground : Fd P w K mg 1 ("_law_ground" : Str) (spI K 2 (ar2 m_law_ground))) : ∀ A q ds, Room 1 A → ds.length = 1 → DS (bodyX P w K mg A N_law_breaks s_law_breaks) q (argSl N_law_breaks ds) (defBody s_law_breaks) (ar1 m_law_breaks ds) En.rt := fun A q ds hr hl => match ds, hl with
  | [a_made], _ => by
    have nd : (N_law_breaks).Nodup := by decide +kernel
    exact (ds_at (ρ' := [.va a_made, .un, .un, .un, .un]) rfl (ds_own (i := 1) (dfa nd rfl (by first | exact .inl rfl | exact .inr rfl) df_lst0) fun found1 => (ds_at (ρ' := [.va a_made, .ow found1, .un, .un, .un]) rfl (ds_forN (S := List D) (η := fun s2 => [.va a_made, .ow s2, .un, .un, .un]) (s0 := found1) (di_tup (dx_ix (dx_va 0 rfl rfl (by first | exact .inl rfl | exact .inr (.inl rfl) | exact .inr (.inr rfl))) dx_int)) (And.intro rfl (And.intro rfl (And.intro trivial (And.intro trivial (And.intro trivial trivial))))) (fun s2 => (dg_nm 4 nd rfl (by first | exact .inl rfl | exact .inr rfl))) (fun s2 side3 => (ds_at (ρ' := [.va a_made, .ow s2, .un, .un, .va side3]) rfl (ds_forN (S := List D) (η := fun s4 => [.va a_made, .ow s4, .un, .un, .va side3]) (s0 := s2) (di_range2 (by rfl) G.b_range dx_int (dx_b1 dc_len (by rfl) G.b_len PySem.boot_len (dx_ix (dx_va 0 rfl rfl (by first | exact .inl rfl | exact .inr (.inl rfl) | exact .inr (.inr rfl))) dx_int))) (And.intro rfl (And.intro rfl (And.intro trivial (And.intro trivial (And.intro rfl trivial))))) (fun s4 => (dg_nm 3 nd rfl (by first | exact .inl rfl | exact .inr rfl))) (fun s4 k5 => (ds_at (ρ' := [.va a_made, .ow s4, .un, .va k5, .va side3]) rfl (ds_asg (i := 2) (dxa nd rfl (by first | exact .inl rfl | exact .inr rfl) (dx_call2 F_law_ground (hr.mono (by decide)) (by rfl) (dx_ix (dx_ix (dx_va 0 rfl rfl (by first | exact .inl rfl | exact .inr (.inl rfl) | exact .inr (.inr rfl))) dx_int) (dx_va 3 rfl rfl (by first | exact .inl rfl | exact .inr (.inl rfl) | exact .inr (.inr rfl)))) (dx_va 4 rfl rfl (by first | exact .inl rfl | exact .inr (.inl rfl) | exact .inr (.inr rfl))))) fun here6 => (ds_at (ρ' := [.va a_made, .ow s4, .va here6, .va k5, .va side3]) rfl (ds_ite (dt_of_dw (dw_and (dt_cmp (do_ne (r64 hr)) (dx_va 2 rfl rfl (by first | exact .inl rfl | exact .inr (.inl rfl) | exact .inr (.inr rfl))) dx_str (by first | exact nomark _ | rfl | with_unfolding_all rfl)) (dw_and1 (dt_cmp (do_eq (r64 hr)) (dx_va 2 rfl rfl (by first | exact .inl rfl | exact .inr (.inl rfl) | exact .inr (.inr rfl))) (dx_call2 F_law_ground (hr.mono (by decide)) (by rfl) (dx_ix (dx_ix (dx_va 0 rfl rfl (by first | exact .inl rfl | exact .inr (.inl rfl) | exact .inr (.inr rfl))) dx_int) (dx_op do_sub (dx_va 3 rfl rfl (by first | exact .inl rfl | exact .inr (.inl rfl) | exact .inr (.inr rfl))) dx_int)) (dx_va 4 rfl rfl (by first | exact .inl rfl | exact .inr (.inl rfl) | exact .inr (.inr rfl)))) (by first | exact nomark _ | rfl | with_unfolding_all rfl))))) (ds_at (ρ' := [.va a_made, .ow s4, .va here6, .va k5, .va side3]) rfl (ds_app 1 rfl rfl (by first | exact .inl rfl | exact .inr (.inl rfl) | exact .inr (.inr rfl)) (dx_tup2 (dx_va 4 rfl rfl (by first | exact .inl rfl | exact .inr (.inl rfl) | exact .inr (.inr rfl))) (dx_op do_add (dx_va 3 rfl rfl (by first | exact .inl rfl | exact .inr (.inl rfl) | exact .inr (.inr rfl))) dx_int)) fun e7 => (ds_at (ρ' := [.va a_made, .ow (s4 ++ [e7]), .va here6, .va k5, .va side3]) rfl (ds_nil rfl (And.intro rfl (And.intro rfl (And.intro trivial (And.intro trivial (And.intro rfl trivial))))))))) (ds_at (ρ' := [.va a_made, .ow s4, .va here6, .va k5, .va side3]) rfl (ds_nil rfl (And.intro rfl (And.intro rfl (And.intro trivial (And.intro trivial (And.intro rfl trivial)))))))))))) (fun s4 => (ds_at (ρ' := [.va a_made, .ow s4, .un, .un, .va side3]) rfl (ds_nil rfl (And.intro rfl (And.intro rfl (And.intro trivial (And.intro trivial (And.intro trivial trivial))))))))))) (fun s2 => (ds_at (ρ' := [.va a_made, .ow s2, .un, .un, .un]) rfl (ds_frz 1 rfl (ds_ret (dx_ty1 dc_tuple (by rfl) G.b_tuple boot_tuple (dx_va 1 rfl rfl (by first | exact .inl rfl | exact .inr (.inl rfl) | exact .inr (.inr rfl))))))))))))
/-! ### _law_pairings -/
abbrev s_law_pairings : Stmt := top 23
def N_law_pairings : List Str := [("sides" : Str), ("found" : Str), ("further" : Str), ("taken" : Str), ("row" : Str), ("left" : Str), ("rows" : Str), ("step" : Str), ("side" : Str), ("other" : Str)]
theorem sc_law_pairings : FnScope N_law_pairings [("sides" : Str)] (defScope s_law_pairings) := ⟨rfl, rfl, rfl, by decide +kernel, rfl, by decide +kernel, by decide +kernel⟩
def m_law_pairings (a_sides : D) : T D := (((((T.ret []).bind fun ds => T.ret (.list ds)).bind fun a => T.ret [a]).bind fun ds => T.ret (.list ds)).bind fun found1 => (((T.ret (.int 4)).bind range1).bind fun ds => (T.foldM (fun d (s2 : D) => (T.opt (some d)).bind fun step3 => ((T.ret []).bind fun further4 => (((T.ret s2).bind itemsL).bind fun ds => (T.foldM (fun d (s5 : List D) => (T.opt (some d)).bind fun rows6 => (((T.ret []).bind fun ds => T.ret (.list ds)).bind fun taken7 => (((T.ret rows6).bind itemsL).bind fun ds => (T.foldM (fun d (s8 : D) => (T.opt (some d)).bind fun row9 => (((T.b2 catD (T.ret s8) (((T.ret row9).bind listD).bind fun ds => T.ret (.list ds))).bind fun ds => T.ret (.list ds)).bind fun taken10 => (T.ret taken10))) ds taken7).bind fun s8 => ((lcT ((T.ret a_sides).bind itemsT) some (fun side12 => (T.b2 ninD (T.ret side12) (T.ret s8))) fun side12 => (T.ret side12)).bind fun left11 => ((T.b2 eqD (T.ret (.list left11)) ((T.ret []).bind fun ds => T.ret (.list ds))).bind fun k => if k then ((T.ret rows6).bind fun e13 => T.chk (List.length (α := D) s5) (T.ret (s5 ++ [e13]))) else ((T.b2 catD (T.ret (.list s5)) ((lcT ((((T.ret (.list left11)).bind fun x => ((T.ret (.int 1)).bind partD).bind fun l => (T.ret none : T (Option Int)).bind fun u => slLD x l u).bind fun ds => T.ret (.list ds)).bind itemsL) some (fun other15 => (T.ret true)) fun other15 => ((T.b2 catD (T.ret rows6) ((((T.b2 ixD (T.ret (.list left11)) (T.ret (.int 0))).bind fun a => (T.ret other15).bind fun b => T.ret (.tuple [a, b])).bind fun a => T.ret [a]).bind fun ds => T.ret (.list ds))).bind fun ds => T.ret (.list ds))).bind fun ds => T.ret (.list ds))).bind fun further14 => (T.ret further14))))))) ds further4).bind fun s5 => ((T.ret (.list s5)).bind fun found16 => (T.ret found16))))) ds found1).bind fun s2 => (T.ret s2)))
theorem d_law_pairings (G : Gs K mg) : ∀ A q ds, Room 0 A → ds.length = 1 → DS (bodyX P w K mg A N_law_pairings s_law_pairings) q (argSl N_law_pairings ds) (defBody s_law_pairings) (ar1 m_law_pairings ds) En.rt := fun A q ds hr hl => match ds, hl with
  | [a_sides], _ => by
    have nd : (N_law_pairings).Nodup := by decide +kernel
    exact (ds_at (ρ' := [.va a_sides, .un, .un, .un, .un, .un, .un, .un, .un, .un]) rfl (ds_asg (i := 1) (dxa nd rfl (by first | exact .inl rfl | exact .inr rfl) (dx_of_df (df_lst1 (dx_of_df df_lst0)))) fun found1 => (ds_at (ρ' := [.va a_sides, .va found1, .un, .un, .un, .un, .un, .un, .un, .un]) rfl (ds_forN (S := D) (η := fun s2 => [.va a_sides, .va s2, .un, .un, .un, .un, .un, .un, .un, .un]) (s0 := found1) (di_range1 (by rfl) G.b_range dx_int) (And.intro rfl (And.intro rfl (And.intro trivial (And.intro trivial (And.intro trivial (And.intro trivial (And.intro trivial (And.intro trivial (And.intro trivial (And.intro trivial trivial)))))))))) (fun s2 => (dg_nm 7 nd rfl (by first | exact .inl rfl | exact .inr rfl))) (fun s2 step3 => (ds_at (ρ' := [.va a_sides, .va s2, .un, .un, .un, .un, .un, .va step3, .un, .un]) rfl (ds_own (i := 2) (dfa nd rfl (by first | exact .inl rfl | exact .inr rfl) df_lst0) fun further4 => (ds_at (ρ' := [.va a_sides, .va s2, .ow further4, .un, .un, .un, .un, .va step3, .un, .un]) rfl (ds_forN (S := List D) (η := fun s5 => [.va a_sides, .va s2, .ow s5, .un, .un, .un, .un, .va step3, .un, .un]) (s0 := further4) (di_list (dx_va 1 rfl rfl (by first | exact .inl rfl | exact .inr (.inl rfl) | exact .inr (.inr rfl)))) (And.intro rfl (And.intro rfl (And.intro rfl (And.intro trivial (And.intro trivial (And.intro trivial (And.intro trivial (And.intro rfl (And.intro trivial (And.intro trivial trivial)))))))))) (fun s5 => (dg_nm 6 nd rfl (by first | exact .inl rfl | exact .inr rfl))) (fun s5 rows6 => (ds_at (ρ' := [.va a_sides, .va s2, .ow s5, .un, .un, .un, .va rows6, .va step3, .un, .un]) rfl (ds_asg (i := 3) (dxa nd rfl (by first | exact .inl rfl | exact .inr rfl) (dx_of_df df_lst0)) fun taken7 => (ds_at (ρ' := [.va a_sides, .va s2, .ow s5, .va taken7, .un, .un, .va rows6, .va step3, .un, .un]) rfl (ds_forN (S := D) (η := fun s8 => [.va a_sides, .va s2, .ow s5, .va s8, .un, .un, .va rows6, .va step3, .un, .un]) (s0 := taken7) (di_list (dx_va 6 rfl rfl (by first | exact .inl rfl | exact .inr (.inl rfl) | exact .inr (.inr rfl)))) (And.intro rfl (And.intro rfl (And.intro rfl (And.intro rfl (And.intro trivial (And.intro trivial (And.intro rfl (And.intro rfl (And.intro trivial (And.intro trivial trivial)))))))))) (fun s8 => (dg_nm 4 nd rfl (by first | exact .inl rfl | exact .inr rfl))) (fun s8 row9 => (ds_at (ρ' := [.va a_sides, .va s2, .ow s5, .va s8, .va row9, .un, .va rows6, .va step3, .un, .un]) rfl (ds_asg (i := 3) (dxa nd rfl (by first | exact .inl rfl | exact .inr rfl) (dx_of_df (df_cat (dx_va 3 rfl rfl (by first | exact .inl rfl | exact .inr (.inl rfl) | exact .inr (.inr rfl))) (dx_of_df (df_list (by rfl) G.b_list (dx_va 4 rfl rfl (by first | exact .inl rfl | exact .inr (.inl rfl) | exact .inr (.inr rfl)))))))) fun taken10 => (ds_at (ρ' := [.va a_sides, .va s2, .ow s5, .va taken10, .va row9, .un, .va rows6, .va step3, .un, .un]) rfl (ds_nil rfl (And.intro rfl (And.intro rfl (And.intro rfl (And.intro rfl (And.intro trivial (And.intro trivial (And.intro rfl (And.intro rfl (And.intro trivial (And.intro trivial trivial))))))))))))))) (fun s8 => (ds_at (ρ' := [.va a_sides, .va s2, .ow s5, .va s8, .un, .un, .va rows6, .va step3, .un, .un]) rfl (ds_own (i := 5) (dfa_s nd rfl (by first | exact .inl rfl | exact .inr rfl) (df_lc (own := [(("side" : Str), 8)]) nd (di_tup (dx_va 0 rfl rfl (by first | exact .inl rfl | exact .inr (.inl rfl) | exact .inr (.inr rfl)))) (by dsimp only [bodyX, Ctx.blk]; decide +kernel) (dg_nm 8 nd rfl (by first | exact .inl rfl | exact .inr rfl)) (by decide) (fun side12 => (dts_one (dt_cmp (do_nin (r65 hr)) (dx_va 8 rfl rfl (by first | exact .inl rfl | exact .inr (.inl rfl) | exact .inr (.inr rfl))) (dx_va 3 rfl rfl (by first | exact .inl rfl | exact .inr (.inl rfl) | exact .inr (.inr rfl))) (by first | exact nomark _ | rfl | with_unfolding_all rfl)))) fun side12 => (dx_va 8 rfl rfl (by first | exact .inl rfl | exact .inr (.inl rfl) | exact .inr (.inr rfl)))) fun env he => sw_cell (by rw [he]; rfl)) fun left11 => (ds_at (ρ' := [.va a_sides, .va s2, .ow s5, .va s8, .un, .ow left11, .va rows6, .va step3, .un, .un]) rfl (ds_frz 5 rfl (ds_ite (dt_cmp (do_eq (r64 hr)) (dx_va 5 rfl rfl (by first | exact .inl rfl | exact .inr (.inl rfl) | exact .inr (.inr rfl))) (dx_of_df df_lst0) (by first | exact nomark _ | rfl | with_unfolding_all rfl)) (ds_at (ρ' := [.va a_sides, .va s2, .ow s5, .va s8, .un, .va (.list left11), .va rows6, .va step3, .un, .un]) rfl (ds_app 2 rfl rfl (by first | exact .inl rfl | exact .inr (.inl rfl) | exact .inr (.inr rfl)) (dx_va 6 rfl rfl (by first | exact .inl rfl | exact .inr (.inl rfl) | exact .inr (.inr rfl))) fun e13 => (ds_at (ρ' := [.va a_sides, .va s2, .ow (s5 ++ [e13]), .va s8, .un, .va (.list left11), .va rows6, .va step3, .un, .un]) rfl (ds_nil rfl (And.intro rfl (And.intro rfl (And.intro rfl (And.intro trivial (And.intro trivial (And.intro trivial (And.intro trivial (And.intro rfl (And.intro trivial (And.intro trivial trivial)))))))))))))) (ds_at (ρ' := [.va a_sides, .va s2, .ow s5, .va s8, .un, .va (.list left11), .va rows6, .va step3, .un, .un]) rfl (ds_frz 2 rfl (ds_own (i := 2) (dfa nd rfl (by first | exact .inl rfl | exact .inr rfl) (df_cat (dx_va 2 rfl rfl (by first | exact .inl rfl | exact .inr (.inl rfl) | exact .inr (.inr rfl))) (dx_of_df (df_lc (own := [(("other" : Str), 9)]) nd (di_list (dx_of_df (df_sl (dx_va 5 rfl rfl (by first | exact .inl rfl | exact .inr (.inl rfl) | exact .inr (.inr rfl))) (dp_some dx_int) dp_none))) (by dsimp only [bodyX, Ctx.blk]; decide +kernel) (dg_nm 9 nd rfl (by first | exact .inl rfl | exact .inr rfl)) (by decide) (fun other15 => dts_nil) fun other15 => (dx_of_df (df_cat (dx_va 6 rfl rfl (by first | exact .inl rfl | exact .inr (.inl rfl) | exact .inr (.inr rfl))) (dx_of_df (df_lst1 (dx_tup2 (dx_ix (dx_va 5 rfl rfl (by first | exact .inl rfl | exact .inr (.inl rfl) | exact .inr (.inr rfl))) dx_int) (dx_va 9 rfl rfl (by first | exact .inl rfl | exact .inr (.inl rfl) | exact .inr (.inr rfl)))))))))))) fun further14 => (ds_at (ρ' := [.va a_sides, .va s2, .ow further14, .va s8, .un, .va (.list left11), .va rows6, .va step3, .un, .un]) rfl (ds_nil rfl (And.intro rfl (And.intro rfl (And.intro rfl (And.intro trivial (And.intro trivial (And.intro trivial (And.intro trivial (And.intro rfl (And.intro trivial (And.intro trivial trivial)))))))))))))))))))))))))) (fun s5 => (ds_at (ρ' := [.va a_sides, .va s2, .ow s5, .un, .un, .un, .un, .va step3, .un, .un]) rfl (ds_frz 2 rfl (ds_asg (i := 1) (dxa nd rfl (by first | exact .inl rfl | exact .inr rfl) (dx_va 2 rfl rfl (by first | exact .inl rfl | exact .inr (.inl rfl) | exact .inr (.inr rfl)))) fun found16 => (ds_at (ρ' := [.va a_sides, .va found16, .va (.list s5), .un, .un, .un, .un, .va step3, .un, .un]) rfl (ds_nil rfl (And.intro rfl (And.intro rfl (And.intro trivial (And.intro trivial (And.intro trivial (And.intro trivial (And.intro trivial (And.intro trivial (And.intro trivial (And.intro trivial trivial))))))))))))))))))))) (fun s2 => (ds_at (ρ' := [.va a_sides, .va s2, .un, .un, .un, .un, .un, .un, .un, .un]) rfl (ds_ret (dx_va 1 rfl rfl (by first | exact .inl rfl | exact .inr (.inl rfl) | exact .inr (.inr rfl))))))))))
/-! ### _law_goes_on -/
abbrev s_law_goes_on : Stmt := top 25
def N_law_goes_on : List Str := [("pairings" : Str), ("met" : Str), ("many" : Str), ("found" : Str), ("further" : Str), ("rows" : Str), ("told" : Str), ("step" : Str), ("row" : Str)]
theorem sc_law_goes_on : FnScope N_law_goes_on [("pairings" : Str), ("met" : Str), ("many" : Str)] (defScope s_law_goes_on) := ⟨rfl, rfl, rfl, by decide +kernel, rfl, by decide +kernel, by decide +kernel⟩
def m_law_goes_on (a_pairings : D) (a_met : D) (a_many : D) : T D := ((((T.ret a_met).bind fun a => T.ret [a]).bind fun ds => T.ret (.list ds)).bind fun found1 => (((T.ret a_many).bind range1).bind fun ds => (T.foldM (fun d (s2 : D) => (T.opt (some d)).bind fun step3 => ((T.ret []).bind fun further4 => (((T.ret s2).bind itemsL).bind fun ds => (T.foldM (fun d (s5 : List D) => (T.opt (some d)).bind fun told6 => (((T.ret a_pairings).bind itemsL).bind fun ds => (T.foldM (fun d (s7 : List D) => (T.opt (some d)).bind fun rows8 => ((andT (T.b2 eqD (((lcT ((T.ret rows8).bind itemsL) some (fun row9 => (T.b2 inD (T.ret row9) (T.ret told6))) fun row9 => (T.ret row9)).bind fun ds => T.ret (.list ds)).bind lenD) (T.ret (.int 0))) (T.b2 ltD (T.ret (.int (List.length (α := D) s7))) (T.ret (.int 40)))).bind fun k => if k then (((T.b2 catD (T.ret told6) (T.ret rows8)).bind fun ds => T.ret (.list ds)).bind fun e10 => T.chk (List.length (α := D) s7) (T.ret (s7 ++ [e10]))) else (T.ret s7))) ds s5).bind fun s7 => (T.ret s7))) ds further4).bind fun s5 => ((T.ret (.list s5)).bind fun found11 => (T.ret found11))))) ds found1).bind fun s2 => (bo (T.b2 neD (T.ret s2) ((T.ret []).bind fun ds => T.ret (.list ds))))))
theorem d_law_goes_on (G : Gs K mg) : ∀ A q ds, Room 0 A → ds.length = 3 → DS (bodyX P w K mg A N_law_goes_on s_law_goes_on) q (argSl N_law_goes_on ds) (defBody s_law_goes_on) (ar3 m_law_goes_on ds) En.rt := fun A q ds hr hl => match ds, hl with
  | [a_pairings, a_met, a_many], _ => by
    have nd : (N_law_goes_on).Nodup := by decide +kernel
    exact (ds_at (ρ' := [.va a_pairings, .va a_met, .va a_many, .un, .un, .un, .un, .un, .un]) rfl (ds_asg (i := 3) (dxa nd rfl (by first | exact .inl rfl | exact .inr rfl) (dx_of_df (df_lst1 (dx_va 1 rfl rfl (by first | exact .inl rfl | exact .inr (.inl rfl) | exact .inr (.inr rfl)))))) fun found1 => (ds_at (ρ' := [.va a_pairings, .va a_met, .va a_many, .va found1, .un, .un, .un, .un, .un]) rfl (ds_forN (S := D) (η := fun s2 => [.va a_pairings, .va a_met, .va a_many, .va s2, .un, .un, .un, .un, .un]) (s0 := found1) (di_range1 (by rfl) G.b_range (dx_va 2 rfl rfl (by first | exact .inl rfl | exact .inr (.inl rfl) | exact .inr (.inr rfl)))) (And.intro rfl (And.intro rfl (And.intro rfl (And.intro rfl (And.intro trivial (And.intro trivial (And.intro trivial (And.intro trivial (And.intro trivial trivial))))))))) (fun s2 => (dg_nm 7 nd rfl (by first | exact .inl rfl | exact .inr rfl))) (fun s2 step3 => (ds_at (ρ' := [.va a_pairings, .va a_met, .va a_many, .va s2, .un, .un, .un, .va step3, .un]) rfl (ds_own (i := 4) (dfa nd rfl (by first | exact .inl rfl | exact .inr rfl) df_lst0) fun further4 => (ds_at (ρ' := [.va a_pairings, .va a_met, .va a_many, .va s2, .ow further4, .un, .un, .va step3, .un]) rfl (ds_forN (S := List D) (η := fun s5 => [.va a_pairings, .va a_met, .va a_many, .va s2, .ow s5, .un, .un, .va step3, .un]) (s0 := further4) (di_list (dx_va 3 rfl rfl (by first | exact .inl rfl | exact .inr (.inl rfl) | exact .inr (.inr rfl)))) (And.intro rfl (And.intro rfl (And.intro rfl (And.intro rfl (And.intro rfl (And.intro trivial (And.intro trivial (And.intro rfl (And.intro trivial trivial))))))))) (fun s5 => (dg_nm 6 nd rfl (by first | exact .inl rfl | exact .inr rfl))) (fun s5 told6 => (ds_at (ρ' := [.va a_pairings, .va a_met, .va a_many, .va s2, .ow s5, .un, .va told6, .va step3, .un]) rfl (ds_forN (S := List D) (η := fun s7 => [.va a_pairings, .va a_met, .va a_many, .va s2, .ow s7, .un, .va told6, .va step3, .un]) (s0 := s5) (di_list (dx_va 0 rfl rfl (by first | exact .inl rfl | exact .inr (.inl rfl) | exact .inr (.inr rfl)))) (And.intro rfl (And.intro rfl (And.intro rfl (And.intro rfl (And.intro rfl (And.intro trivial (And.intro rfl (And.intro rfl (And.intro trivial trivial))))))))) (fun s7 => (dg_nm 5 nd rfl (by first | exact .inl rfl | exact .inr rfl))) (fun s7 rows8 => (ds_at (ρ' := [.va a_pairings, .va a_met, .va a_many, .va s2, .ow s7, .va rows8, .va told6, .va step3, .un]) rfl (ds_ite (dt_of_dw (dw_and (dt_cmp (do_eq (r64 hr)) (dx_b1 dc_len (by rfl) G.b_len PySem.boot_len (dx_of_df (df_lc (own := [(("row" : Str), 8)]) nd (di_list (dx_va 5 rfl rfl (by first | exact .inl rfl | exact .inr (.inl rfl) | exact .inr (.inr rfl)))) (by dsimp only [bodyX, Ctx.blk]; decide +kernel) (dg_nm 8 nd rfl (by first | exact .inl rfl | exact .inr rfl)) (by decide) (fun row9 => (dts_one (dt_cmp (do_in (r65 hr)) (dx_va 8 rfl rfl (by first | exact .inl rfl | exact .inr (.inl rfl) | exact .inr (.inr rfl))) (dx_va 6 rfl rfl (by first | exact .inl rfl | exact .inr (.inl rfl) | exact .inr (.inr rfl))) (by first | exact nomark _ | rfl | with_unfolding_all rfl)))) fun row9 => (dx_va 8 rfl rfl (by first | exact .inl rfl | exact .inr (.inl rfl) | exact .inr (.inr rfl)))))) dx_int (by first | exact nomark _ | rfl | with_unfolding_all rfl)) (dw_and1 (dt_cmp do_lt (dx_lenOw 4 (by rfl) G.b_len rfl rfl (by first | exact .inl rfl | exact .inr (.inl rfl) | exact .inr (.inr rfl))) dx_int (by first | exact nomark _ | rfl | with_unfolding_all rfl))))) (ds_at (ρ' := [.va a_pairings, .va a_met, .va a_many, .va s2, .ow s7, .va rows8, .va told6, .va step3, .un]) rfl (ds_app 4 rfl rfl (by first | exact .inl rfl | exact .inr (.inl rfl) | exact .inr (.inr rfl)) (dx_of_df (df_cat (dx_va 6 rfl rfl (by first | exact .inl rfl | exact .inr (.inl rfl) | exact .inr (.inr rfl))) (dx_va 5 rfl rfl (by first | exact .inl rfl | exact .inr (.inl rfl) | exact .inr (.inr rfl))))) fun e10 => (ds_at (ρ' := [.va a_pairings, .va a_met, .va a_many, .va s2, .ow (s7 ++ [e10]), .va rows8, .va told6, .va step3, .un]) rfl (ds_nil rfl (And.intro rfl (And.intro rfl (And.intro rfl (And.intro rfl (And.intro rfl (And.intro trivial (And.intro rfl (And.intro rfl (And.intro trivial trivial))))))))))))) (ds_at (ρ' := [.va a_pairings, .va a_met, .va a_many, .va s2, .ow s7, .va rows8, .va told6, .va step3, .un]) rfl (ds_nil rfl (And.intro rfl (And.intro rfl (And.intro rfl (And.intro rfl (And.intro rfl (And.intro trivial (And.intro rfl (And.intro rfl (And.intro trivial trivial)))))))))))))) (fun s7 => (ds_at (ρ' := [.va a_pairings, .va a_met, .va a_many, .va s2, .ow s7, .un, .va told6, .va step3, .un]) rfl (ds_nil rfl (And.intro rfl (And.intro rfl (And.intro rfl (And.intro rfl (And.intro rfl (And.intro trivial (And.intro trivial (And.intro rfl (And.intro trivial trivial))))))))))))))) (fun s5 => (ds_at (ρ' := [.va a_pairings, .va a_met, .va a_many, .va s2, .ow s5, .un, .un, .va step3, .un]) rfl (ds_frz 4 rfl (ds_asg (i := 3) (dxa nd rfl (by first | exact .inl rfl | exact .inr rfl) (dx_va 4 rfl rfl (by first | exact .inl rfl | exact .inr (.inl rfl) | exact .inr (.inr rfl)))) fun found11 => (ds_at (ρ' := [.va a_pairings, .va a_met, .va a_many, .va found11, .va (.list s5), .un, .un, .va step3, .un]) rfl (ds_nil rfl (And.intro rfl (And.intro rfl (And.intro rfl (And.intro rfl (And.intro trivial (And.intro trivial (And.intro trivial (And.intro trivial (And.intro trivial trivial)))))))))))))))))))) (fun s2 => (ds_at (ρ' := [.va a_pairings, .va a_met, .va a_many, .va s2, .un, .un, .un, .un, .un]) rfl (ds_ret (dx_cmpB (do_ne (r64 hr)) (dx_va 3 rfl rfl (by first | exact .inl rfl | exact .inr (.inl rfl) | exact .inr (.inr rfl))) (dx_of_df df_lst0) (by first | exact nomark _ | rfl | with_unfolding_all rfl)))))))))
/-! ### _law_drawn_plan -/
abbrev s_law_drawn_plan : Stmt := top 24
def N_law_drawn_plan : List Str := [("pool" : Str), ("sides" : Str), ("pairings" : Str), ("rounds" : Str), ("met" : Str), ("free" : Str), ("good" : Str), ("rows" : Str), ("turned" : Str), ("row" : Str), ("number" : Str)]
theorem sc_law_drawn_plan : FnScope N_law_drawn_plan [("pool" : Str), ("sides" : Str)] (defScope s_law_drawn_plan) := ⟨rfl, rfl, rfl, by decide +kernel, rfl, by decide +kernel, by decide +kernel⟩
def m_law_drawn_plan (a_sides : D) : T D := (((T.ret a_sides).bind m_law_pairings).bind fun pairings1 => ((T.ret []).bind fun rounds2 => (((T.ret []).bind fun ds => T.ret (.list ds)).bind fun met3 => (((T.b2 subD ((T.ret a_sides).bind lenD) (T.ret (.int 1))).bind range1).bind fun ds => (T.foldM (fun d (s4 : D × List D) => (T.opt (some d)).bind fun number5 => (nextD.bind fun z6 => ((lcT ((T.ret pairings1).bind itemsL) some (fun rows8 => (T.b2 eqD (((lcT ((T.ret rows8).bind itemsL) some (fun row9 => (T.b2 inD (T.ret row9) (T.ret s4.1))) fun row9 => (T.ret row9)).bind fun ds => T.ret (.list ds)).bind lenD) (T.ret (.int 0)))) fun rows8 => (T.ret rows8)).bind fun free7 => ((lcT ((T.ret (.list free7)).bind itemsL) some (fun rows11 => (((T.ret pairings1).bind fun a => ((T.b2 catD (T.ret s4.1) (T.ret rows11)).bind fun ds => T.ret (.list ds)).bind fun b => (T.b2 subD (T.b2 subD ((T.ret a_sides).bind lenD) (T.ret (.int 2))) (T.ret number5)).bind fun c => m_law_goes_on a b c).bind truth)) fun rows11 => (T.ret rows11)).bind fun good10 => (((T.ret (.list good10)).bind m_law_pick).bind fun rows12 => (((T.b2 catD (T.ret s4.1) (T.ret rows12)).bind fun ds => T.ret (.list ds)).bind fun met13 => ((T.ret []).bind fun turned14 => (((T.ret rows12).bind itemsL).bind fun ds => (T.foldM (fun d (s15 : List D) => (T.opt (some d)).bind fun row16 => ((T.b2 ixD (((T.ret row16).bind fun a => ((T.ret row16).bind revD).bind fun b => T.ret [a, b]).bind fun ds => T.ret (.list ds)) ((T.ret (.int 2)).bind drawD)).bind fun e17 => T.chk (List.length (α := D) s15) (T.ret (s15 ++ [e17])))) ds turned14).bind fun s15 => (((((T.ret (.list s15)).bind sortedD).bind fun ds => T.ret (.list ds)).bind tupleD).bind fun e18 => T.chk (List.length (α := D) s4.2) (T.ret (met13, (s4.2 ++ [e18])))))))))))) ds (met3, rounds2)).bind fun s4 => ((T.ret (.str ("plan" : Str))).bind fun a => ((T.ret a_sides).bind tupleD).bind fun b => ((T.ret (.list s4.2)).bind tupleD).bind fun c => T.ret (.tuple [a, b, c]))))))
theorem d_law_drawn_plan (G : Gs K mg) (F_law_draw : Fd P w K mg 3 ("_law_draw" : Str) (spP K 1 (ar1 drawD))) (F_law_goes_on : Fd P w K mg 1 ("_law_goes_on" : Str) (spI K 3 (ar3 m_law_goes_on))) (F_law_next : Fd P w K mg 3 ("_law_next" : Str) (spP K 0 (ar0 nextD))) (F_law_pairings : Fd P w K mg 1 ("_law_pairings" : Str) (spI K 1 (ar1 m_law_pairings))) (F_law_pick : Fd P w K mg 4 ("_law_pick" : Str) (spP K 1 (ar1 m_law_pick))) : ∀ A a ds, Room 4 A → ds.length = 1 → DS (bodyX P w K mg A N_law_drawn_plan s_law_drawn_plan) (some a) ((argSl N_law_drawn_plan (.none :: ds)).set 0 .po) (defBody s_law_drawn_plan) (ar1 m_law_drawn_plan ds) En.rt := fun A q ds hr hl => match ds, hl with
  | [a_sides], _ => by
    have nd : (N_law_drawn_plan).Nodup := by decide +kernel
    exact (ds_at (ρ' := [.po, .va a_sides, .un, .un, .un, .un, .un, .un, .un, .un, .un]) rfl (ds_asg (i := 2) (dxa nd rfl (by first | exact .inl rfl | exact .inr rfl) (dx_call1 F_law_pairings (hr.mono (by decide)) (by rfl) (dx_va 1 rfl rfl (by first | exact .inl rfl | exact .inr (.inl rfl) | exact .inr (.inr rfl))))) fun pairings1 => (ds_at (ρ' := [.po, .va a_sides, .va pairings1, .un, .un, .un, .un, .un, .un, .un, .un]) rfl (ds_own (i := 3) (dfa nd rfl (by first | exact .inl rfl | exact .inr rfl) df_lst0) fun rounds2 => (ds_at (ρ' := [.po, .va a_sides, .va pairings1, .ow rounds2, .un, .un, .un, .un, .un, .un, .un]) rfl (ds_asg (i := 4) (dxa nd rfl (by first | exact .inl rfl | exact .inr rfl) (dx_of_df df_lst0)) fun met3 => (ds_at (ρ' := [.po, .va a_sides, .va pairings1, .ow rounds2, .va met3, .un, .un, .un, .un, .un, .un]) rfl (ds_forN (S := D × List D) (η := fun s4 => [.po, .va a_sides, .va pairings1, .ow s4.2, .va s4.1, .un, .un, .un, .un, .un, .un]) (s0 := (met3, rounds2)) (di_range1 (by rfl) G.b_range (dx_op do_sub (dx_b1 dc_len (by rfl) G.b_len PySem.boot_len (dx_va 1 rfl rfl (by first | exact .inl rfl | exact .inr (.inl rfl) | exact .inr (.inr rfl)))) dx_int)) (And.intro rfl (And.intro rfl (And.intro rfl (And.intro rfl (And.intro rfl (And.intro trivial (And.intro trivial (And.intro trivial (And.intro trivial (And.intro trivial (And.intro trivial trivial))))))))))) (fun s4 => (dg_nm 10 nd rfl (by first | exact .inl rfl | exact .inr rfl))) (fun s4 number5 => (ds_at (ρ' := [.po, .va a_sides, .va pairings1, .ow s4.2, .va s4.1, .un, .un, .un, .un, .un, .va number5]) rfl (ds_expr (dx_callP0 0 F_law_next (hr.mono (by decide)) (by rfl) rfl rfl (by first | exact .inl rfl | exact .inr (.inl rfl) | exact .inr (.inr rfl))) fun z6 => (ds_at (ρ' := [.po, .va a_sides, .va pairings1, .ow s4.2, .va s4.1, .un, .un, .un, .un, .un, .va number5]) rfl (ds_own (i := 5) (dfa_lc nd rfl rfl rfl (own := [(("rows" : Str), 7)]) (di := (di_list (dx_va 2 rfl rfl (by first | exact .inl rfl | exact .inr (.inl rfl) | exact .inr (.inr rfl))))) (bk := by dsimp only [bodyX, Ctx.blk]; decide +kernel) (dg := (dg_nm 7 nd rfl (by first | exact .inl rfl | exact .inr rfl))) (hix := by decide) (hc := fun rows8 => (dts_one (dt_cmp (do_eq (r64 hr)) (dx_b1 dc_len (by rfl) G.b_len PySem.boot_len (dx_of_df (df_lc (own := [(("row" : Str), 9)]) nd (di_list (dx_va 7 rfl rfl (by first | exact .inl rfl | exact .inr (.inl rfl) | exact .inr (.inr rfl)))) (by dsimp only [bodyX, Ctx.blk]; decide +kernel) (dg_nm 9 nd rfl (by first | exact .inl rfl | exact .inr rfl)) (by decide) (fun row9 => (dts_one (dt_cmp (do_in (r65 hr)) (dx_va 9 rfl rfl (by first | exact .inl rfl | exact .inr (.inl rfl) | exact .inr (.inr rfl))) (dx_va 4 rfl rfl (by first | exact .inl rfl | exact .inr (.inl rfl) | exact .inr (.inr rfl))) (by first | exact nomark _ | rfl | with_unfolding_all rfl)))) fun row9 => (dx_va 9 rfl rfl (by first | exact .inl rfl | exact .inr (.inl rfl) | exact .inr (.inr rfl)))))) dx_int (by first | exact nomark _ | rfl | with_unfolding_all rfl)))) (he := fun rows8 => (dx_va 7 rfl rfl (by first | exact .inl rfl | exact .inr (.inl rfl) | exact .inr (.inr rfl))))) fun free7 => (ds_at (ρ' := [.po, .va a_sides, .va pairings1, .ow s4.2, .va s4.1, .ow free7, .un, .un, .un, .un, .va number5]) rfl (ds_frz 5 rfl (ds_own (i := 6) (dfa_lc nd rfl rfl rfl (own := [(("rows" : Str), 7)]) (di := (di_list (dx_va 5 rfl rfl (by first | exact .inl rfl | exact .inr (.inl rfl) | exact .inr (.inr rfl))))) (bk := by dsimp only [bodyX, Ctx.blk]; decide +kernel) (dg := (dg_nm 7 nd rfl (by first | exact .inl rfl | exact .inr rfl))) (hix := by decide) (hc := fun rows11 => (dts_one (dt_truth (dx_call3 F_law_goes_on (hr.mono (by decide)) (by rfl) (dx_va 2 rfl rfl (by first | exact .inl rfl | exact .inr (.inl rfl) | exact .inr (.inr rfl))) (dx_of_df (df_cat (dx_va 4 rfl rfl (by first | exact .inl rfl | exact .inr (.inl rfl) | exact .inr (.inr rfl))) (dx_va 7 rfl rfl (by first | exact .inl rfl | exact .inr (.inl rfl) | exact .inr (.inr rfl))))) (dx_op do_sub (dx_op do_sub (dx_b1 dc_len (by rfl) G.b_len PySem.boot_len (dx_va 1 rfl rfl (by first | exact .inl rfl | exact .inr (.inl rfl) | exact .inr (.inr rfl)))) dx_int) (dx_va 10 rfl rfl (by first | exact .inl rfl | exact .inr (.inl rfl) | exact .inr (.inr rfl)))))))) (he := fun rows11 => (dx_va 7 rfl rfl (by first | exact .inl rfl | exact .inr (.inl rfl) | exact .inr (.inr rfl))))) fun good10 => (ds_at (ρ' := [.po, .va a_sides, .va pairings1, .ow s4.2, .va s4.1, .va (.list free7), .ow good10, .un, .un, .un, .va number5]) rfl (ds_frz 6 rfl (ds_asg (i := 7) (dxa nd rfl (by first | exact .inl rfl | exact .inr rfl) (dx_callP1 0 F_law_pick (hr.mono (by decide)) (by rfl) rfl rfl (by first | exact .inl rfl | exact .inr (.inl rfl) | exact .inr (.inr rfl)) (dx_va 6 rfl rfl (by first | exact .inl rfl | exact .inr (.inl rfl) | exact .inr (.inr rfl))))) fun rows12 => (ds_at (ρ' := [.po, .va a_sides, .va pairings1, .ow s4.2, .va s4.1, .va (.list free7), .va (.list good10), .va rows12, .un, .un, .va number5]) rfl (ds_asg (i := 4) (dxa nd rfl (by first | exact .inl rfl | exact .inr rfl) (dx_of_df (df_cat (dx_va 4 rfl rfl (by first | exact .inl rfl | exact .inr (.inl rfl) | exact .inr (.inr rfl))) (dx_va 7 rfl rfl (by first | exact .inl rfl | exact .inr (.inl rfl) | exact .inr (.inr rfl)))))) fun met13 => (ds_at (ρ' := [.po, .va a_sides, .va pairings1, .ow s4.2, .va met13, .va (.list free7), .va (.list good10), .va rows12, .un, .un, .va number5]) rfl (ds_own (i := 8) (dfa nd rfl (by first | exact .inl rfl | exact .inr rfl) df_lst0) fun turned14 => (ds_at (ρ' := [.po, .va a_sides, .va pairings1, .ow s4.2, .va met13, .va (.list free7), .va (.list good10), .va rows12, .ow turned14, .un, .va number5]) rfl (ds_forN (S := List D) (η := fun s15 => [.po, .va a_sides, .va pairings1, .ow s4.2, .va met13, .va (.list free7), .va (.list good10), .va rows12, .ow s15, .un, .va number5]) (s0 := turned14) (di_list (dx_va 7 rfl rfl (by first | exact .inl rfl | exact .inr (.inl rfl) | exact .inr (.inr rfl)))) (And.intro rfl (And.intro rfl (And.intro rfl (And.intro rfl (And.intro rfl (And.intro rfl (And.intro rfl (And.intro rfl (And.intro rfl (And.intro trivial (And.intro rfl trivial))))))))))) (fun s15 => (dg_nm 9 nd rfl (by first | exact .inl rfl | exact .inr rfl))) (fun s15 row16 => (ds_at (ρ' := [.po, .va a_sides, .va pairings1, .ow s4.2, .va met13, .va (.list free7), .va (.list good10), .va rows12, .ow s15, .va row16, .va number5]) rfl (ds_app 8 rfl rfl (by first | exact .inl rfl | exact .inr (.inl rfl) | exact .inr (.inr rfl)) (dx_ix (dx_of_df (df_lst2 (dx_va 9 rfl rfl (by first | exact .inl rfl | exact .inr (.inl rfl) | exact .inr (.inr rfl))) (dx_revT (dx_va 9 rfl rfl (by first | exact .inl rfl | exact .inr (.inl rfl) | exact .inr (.inr rfl)))))) (dx_callP1 0 F_law_draw (hr.mono (by decide)) (by rfl) rfl rfl (by first | exact .inl rfl | exact .inr (.inl rfl) | exact .inr (.inr rfl)) dx_int)) fun e17 => (ds_at (ρ' := [.po, .va a_sides, .va pairings1, .ow s4.2, .va met13, .va (.list free7), .va (.list good10), .va rows12, .ow (s15 ++ [e17]), .va row16, .va number5]) rfl (ds_nil rfl (And.intro rfl (And.intro rfl (And.intro rfl (And.intro rfl (And.intro rfl (And.intro rfl (And.intro rfl (And.intro rfl (And.intro rfl (And.intro trivial (And.intro rfl trivial)))))))))))))))) (fun s15 => (ds_at (ρ' := [.po, .va a_sides, .va pairings1, .ow s4.2, .va met13, .va (.list free7), .va (.list good10), .va rows12, .ow s15, .un, .va number5]) rfl (ds_frz 8 rfl (ds_app 3 rfl rfl (by first | exact .inl rfl | exact .inr (.inl rfl) | exact .inr (.inr rfl)) (dx_ty1 dc_tuple (by rfl) G.b_tuple boot_tuple (dx_of_df (df_sorted (r64 hr) (by rfl) G.b_sorted (dx_va 8 rfl rfl (by first | exact .inl rfl | exact .inr (.inl rfl) | exact .inr (.inr rfl)))))) fun e18 => (ds_at (ρ' := [.po, .va a_sides, .va pairings1, .ow (s4.2 ++ [e18]), .va met13, .va (.list free7), .va (.list good10), .va rows12, .va (.list s15), .un, .va number5]) rfl (ds_nil rfl (And.intro rfl (And.intro rfl (And.intro rfl (And.intro rfl (And.intro rfl (And.intro trivial (And.intro trivial (And.intro trivial (And.intro trivial (And.intro trivial (And.intro trivial trivial)))))))))))))))))))))))))))))))))) (fun s4 => (ds_at (ρ' := [.po, .va a_sides, .va pairings1, .ow s4.2, .va s4.1, .un, .un, .un, .un, .un, .un]) rfl (ds_frz 3 rfl (ds_ret (dx_tup3 dx_str (dx_ty1 dc_tuple (by rfl) G.b_tuple boot_tuple (dx_va 1 rfl rfl (by first | exact .inl rfl | exact .inr (.inl rfl) | exact .inr (.inr rfl)))) (dx_ty1 dc_tuple (by rfl) G.b_tuple boot_tuple (dx_va 3 rfl rfl (by first | exact .inl rfl | exact .inr (.inl rfl) | exact .inr (.inr rfl)))))))))))))))))
/-! ### law -/
abbrev s_law : Stmt := top 26
def N_law : List Str := [("script" : Str), ("pool" : Str), ("sides" : Str), ("told" : Str), ("found" : Str), ("rows" : Str), ("turn" : Str), ("side" : Str), ("row" : Str)]
theorem sc_law : FnScope N_law [("script" : Str)] (defScope s_law) := ⟨rfl, rfl, rfl, by decide +kernel, rfl, by decide +kernel, by decide +kernel⟩
def m_law : T D := (((T.ret (.int 3)).bind range1).bind fun ds => (T.loopM (S := Unit) (fun d s1 => (T.opt (some d)).bind fun turn2 => (nextD.bind fun z3 => (((T.b2 ixD (((T.ret (.int 4)).bind fun a => (T.ret (.int 6)).bind fun b => T.ret [a, b]).bind fun ds => T.ret (.list ds)) ((T.ret (.int 2)).bind drawD)).bind m_law_sides).bind fun sides4 => (((T.ret sides4).bind m_law_drawn_plan).bind fun told5 => (((T.ret told5).bind m_breaks).bind fun found6 => ((orT (T.b2 nisD ((T.ret told5).bind m_fault_of_plan) (T.ret .none)) (orT (T.b2 neD (T.ret found6) ((T.ret told5).bind m_law_breaks)) (T.b2 ltD ((T.ret found6).bind lenD) (T.b2 subD ((T.ret sides4).bind lenD) (T.ret (.int 2)))))).bind fun k => if k then (((T.ret (.bool false)).bind fun d => T.ret (.rt d)) : T (Xx (Unit))).bind fun r => T.ret r.o else ((T.b2 gtD (((lcT ((T.ret sides4).bind itemsT) some (fun side7 => (T.b2 ninD (T.ret side7) ((lcT ((T.ret found6).bind itemsT) some (fun row8 => (T.ret true)) fun row8 => (T.b2 ixD (T.ret row8) (T.ret (.int 0)))).bind fun ds => T.ret (.list ds)))) fun side7 => (T.ret side7)).bind fun ds => T.ret (.list ds)).bind lenD) (T.ret (.int 2))).bind fun k => if k then (((T.ret (.bool false)).bind fun d => T.ret (.rt d)) : T (Xx (Unit))).bind fun r => T.ret r.o else ((lcT (((T.ret told5).bind m_patterns).bind itemsT) some (fun row10 => (T.ret true)) fun row10 => (T.b2 ixD (T.ret row10) (T.ret (.int 1)))).bind fun rows9 => ((orT (T.b2 neD (((lcT ((T.ret (.list rows9)).bind itemsL) some (fun row11 => (T.ret true)) fun row11 => ((T.ret row11).bind fun a => (T.ret (.bool true)).bind fun b => T.ret (.tuple [a, b]))).bind fun ds => T.ret (.list ds)).bind lenDictD) ((T.ret sides4).bind lenD)) (notT ((T.ret found6).bind fun d => T.ret (isiD "tuple" d)))).bind fun k => if k then (((T.ret (.bool false)).bind fun d => T.ret (.rt d)) : T (Xx (Unit))).bind fun r => T.ret r.o else (T.ret (.nx ()))))))))))) ds ()).bind (endO (fun s1 => (T.ret (.bool true))) (fun d => d)))
theorem d_law (G : Gs K mg) (F_law_breaks : Fd P w K mg 2 ("_law_breaks" : Str) (spI K 1 (ar1 m_law_breaks))) (F_law_draw : Fd P w K mg 3 ("_law_draw" : Str) (spP K 1 (ar1 drawD))) (F_law_drawn_plan : Fd P w K mg 5 ("_law_drawn_plan" : Str) (spP K 1 (ar1 m_law_drawn_plan))) (F_law_next : Fd P w K mg 3 ("_law_next" : Str) (spP K 0 (ar0 nextD))) (F_law_sides : Fd P w K mg 1 ("_law_sides" : Str) (spI K 1 (ar1 m_law_sides))) (Fbreaks : Fd P w K mg 2 ("breaks" : Str) (spI K 1 (ar1 m_breaks))) (Ffault_of_plan : Fd P w K mg 3 ("fault_of_plan" : Str) (spI K 1 (ar1 m_fault_of_plan))) (Fpatterns : Fd P w K mg 2 ("patterns" : Str) (spI K 1 (ar1 m_patterns))) : ∀ A a, Room 5 A → DS (bodyX P w K mg A N_law s_law) (some a) [.un, .po, .un, .un, .un, .un, .un, .un, .un] (defBody s_law).tail m_law En.rt := fun A q hr => by
    have nd : (N_law).Nodup := by decide +kernel
    exact (ds_at (ρ' := [.un, .po, .un, .un, .un, .un, .un, .un, .un]) rfl (ds_forO (S := Unit) (η := fun s1 => [.un, .po, .un, .un, .un, .un, .un, .un, .un]) (s0 := ()) (inj := (fun d => d)) (di_range1 (by rfl) G.b_range dx_int) (And.intro trivial (And.intro rfl (And.intro trivial (And.intro trivial (And.intro trivial (And.intro trivial (And.intro trivial (And.intro trivial (And.intro trivial trivial))))))))) (fun s1 => (dg_nm 6 nd rfl (by first | exact .inl rfl | exact .inr rfl))) (fun s1 turn2 => (ds_at (ρ' := [.un, .po, .un, .un, .un, .un, .va turn2, .un, .un]) rfl (ds_expr (dx_callP0 1 F_law_next (hr.mono (by decide)) (by rfl) rfl rfl (by first | exact .inl rfl | exact .inr (.inl rfl) | exact .inr (.inr rfl))) fun z3 => (ds_at (ρ' := [.un, .po, .un, .un, .un, .un, .va turn2, .un, .un]) rfl (ds_asg (i := 2) (dxa nd rfl (by first | exact .inl rfl | exact .inr rfl) (dx_call1 F_law_sides (hr.mono (by decide)) (by rfl) (dx_ix (dx_of_df (df_lst2 dx_int dx_int)) (dx_callP1 1 F_law_draw (hr.mono (by decide)) (by rfl) rfl rfl (by first | exact .inl rfl | exact .inr (.inl rfl) | exact .inr (.inr rfl)) dx_int)))) fun sides4 => (ds_at (ρ' := [.un, .po, .va sides4, .un, .un, .un, .va turn2, .un, .un]) rfl (ds_asg (i := 3) (dxa nd rfl (by first | exact .inl rfl | exact .inr rfl) (dx_callP1 1 F_law_drawn_plan (hr.mono (by decide)) (by rfl) rfl rfl (by first | exact .inl rfl | exact .inr (.inl rfl) | exact .inr (.inr rfl)) (dx_va 2 rfl rfl (by first | exact .inl rfl | exact .inr (.inl rfl) | exact .inr (.inr rfl))))) fun told5 => (ds_at (ρ' := [.un, .po, .va sides4, .va told5, .un, .un, .va turn2, .un, .un]) rfl (ds_asg (i := 4) (dxa nd rfl (by first | exact .inl rfl | exact .inr rfl) (dx_call1 Fbreaks (hr.mono (by decide)) (by rfl) (dx_va 3 rfl rfl (by first | exact .inl rfl | exact .inr (.inl rfl) | exact .inr (.inr rfl))))) fun found6 => (ds_at (ρ' := [.un, .po, .va sides4, .va told5, .va found6, .un, .va turn2, .un, .un]) rfl (ds_ifx (RA := Xx (Unit)) (εA := enX (fun (s1 : Unit) => [.un, .po, .un, .un, .un, .un, .un, .un, .un])) (conv := Xx.o) (dt_of_dw (dw_or (dt_cmp do_nis (dx_call1 Ffault_of_plan (hr.mono (by decide)) (by rfl) (dx_va 3 rfl rfl (by first | exact .inl rfl | exact .inr (.inl rfl) | exact .inr (.inr rfl)))) dx_non (by first | exact nomark _ | rfl | with_unfolding_all rfl)) (dw_or (dt_cmp (do_ne (r64 hr)) (dx_va 4 rfl rfl (by first | exact .inl rfl | exact .inr (.inl rfl) | exact .inr (.inr rfl))) (dx_call1 F_law_breaks (hr.mono (by decide)) (by rfl) (dx_va 3 rfl rfl (by first | exact .inl rfl | exact .inr (.inl rfl) | exact .inr (.inr rfl)))) (by first | exact nomark _ | rfl | with_unfolding_all rfl)) (dw_or1 (dt_cmp do_lt (dx_b1 dc_len (by rfl) G.b_len PySem.boot_len (dx_va 4 rfl rfl (by first | exact .inl rfl | exact .inr (.inl rfl) | exact .inr (.inr rfl)))) (dx_op do_sub (dx_b1 dc_len (by rfl) G.b_len PySem.boot_len (dx_va 2 rfl rfl (by first | exact .inl rfl | exact .inr (.inl rfl) | exact .inr (.inr rfl)))) dx_int) (by first | exact nomark _ | rfl | with_unfolding_all rfl)))))) (ds_at (ρ' := [.un, .po, .va sides4, .va told5, .va found6, .un, .va turn2, .un, .un]) rfl (ds_retI (inj := Xx.rt) (fun _ => rfl) dx_bl)) enX_no enX_o (ds_at (ρ' := [.un, .po, .va sides4, .va told5, .va found6, .un, .va turn2, .un, .un]) rfl (ds_ifx (RA := Xx (Unit)) (εA := enX (fun (s1 : Unit) => [.un, .po, .un, .un, .un, .un, .un, .un, .un])) (conv := Xx.o) (dt_cmp do_gt (dx_b1 dc_len (by rfl) G.b_len PySem.boot_len (dx_of_df (df_lc (own := [(("side" : Str), 7)]) nd (di_tup (dx_va 2 rfl rfl (by first | exact .inl rfl | exact .inr (.inl rfl) | exact .inr (.inr rfl)))) (by dsimp only [bodyX, Ctx.blk]; decide +kernel) (dg_nm 7 nd rfl (by first | exact .inl rfl | exact .inr rfl)) (by decide) (fun side7 => (dts_one (dt_cmp (do_nin (r65 hr)) (dx_va 7 rfl rfl (by first | exact .inl rfl | exact .inr (.inl rfl) | exact .inr (.inr rfl))) (dx_of_df (df_lc (own := [(("row" : Str), 8)]) nd (di_tup (dx_va 4 rfl rfl (by first | exact .inl rfl | exact .inr (.inl rfl) | exact .inr (.inr rfl)))) (by dsimp only [bodyX, Ctx.blk]; decide +kernel) (dg_nm 8 nd rfl (by first | exact .inl rfl | exact .inr rfl)) (by decide) (fun row8 => dts_nil) fun row8 => (dx_ix (dx_va 8 rfl rfl (by first | exact .inl rfl | exact .inr (.inl rfl) | exact .inr (.inr rfl))) dx_int))) (by first | exact nomark _ | rfl | with_unfolding_all rfl)))) fun side7 => (dx_va 7 rfl rfl (by first | exact .inl rfl | exact .inr (.inl rfl) | exact .inr (.inr rfl)))))) dx_int (by first | exact nomark _ | rfl | with_unfolding_all rfl)) (ds_at (ρ' := [.un, .po, .va sides4, .va told5, .va found6, .un, .va turn2, .un, .un]) rfl (ds_retI (inj := Xx.rt) (fun _ => rfl) dx_bl)) enX_no enX_o (ds_at (ρ' := [.un, .po, .va sides4, .va told5, .va found6, .un, .va turn2, .un, .un]) rfl (ds_own (i := 5) (dfa_lc nd rfl rfl rfl (own := [(("row" : Str), 8)]) (di := (di_tup (dx_call1 Fpatterns (hr.mono (by decide)) (by rfl) (dx_va 3 rfl rfl (by first | exact .inl rfl | exact .inr (.inl rfl) | exact .inr (.inr rfl)))))) (bk := by dsimp only [bodyX, Ctx.blk]; decide +kernel) (dg := (dg_nm 8 nd rfl (by first | exact .inl rfl | exact .inr rfl))) (hix := by decide) (hc := fun row10 => dts_nil) (he := fun row10 => (dx_ix (dx_va 8 rfl rfl (by first | exact .inl rfl | exact .inr (.inl rfl) | exact .inr (.inr rfl))) dx_int))) fun rows9 => (ds_at (ρ' := [.un, .po, .va sides4, .va told5, .va found6, .ow rows9, .va turn2, .un, .un]) rfl (ds_frz 5 rfl (ds_ifx (RA := Xx (Unit)) (εA := enX (fun (s1 : Unit) => [.un, .po, .un, .un, .un, .un, .un, .un, .un])) (conv := Xx.o) (dt_of_dw (dw_or (dt_cmp (do_ne (r64 hr)) (dx_lenDict (r64 hr) (by rfl) G.b_len (by rfl) G.b_dict (dx_of_df (df_lc (own := [(("row" : Str), 8)]) nd (di_list (dx_va 5 rfl rfl (by first | exact .inl rfl | exact .inr (.inl rfl) | exact .inr (.inr rfl)))) (by dsimp only [bodyX, Ctx.blk]; decide +kernel) (dg_nm 8 nd rfl (by first | exact .inl rfl | exact .inr rfl)) (by decide) (fun row11 => dts_nil) fun row11 => (dx_tup2 (dx_va 8 rfl rfl (by first | exact .inl rfl | exact .inr (.inl rfl) | exact .inr (.inr rfl))) dx_bl)))) (dx_b1 dc_len (by rfl) G.b_len PySem.boot_len (dx_va 2 rfl rfl (by first | exact .inl rfl | exact .inr (.inl rfl) | exact .inr (.inr rfl)))) (by first | exact nomark _ | rfl | with_unfolding_all rfl)) (dw_or1 (dt_not (dt_val (dx_isi (n := "tuple") (by decide +kernel) (by rfl) G.b_isinstance (by rfl) G.b_tuple boot_tuple (dx_va 4 rfl rfl (by first | exact .inl rfl | exact .inr (.inl rfl) | exact .inr (.inr rfl))))))))) (ds_at (ρ' := [.un, .po, .va sides4, .va told5, .va found6, .va (.list rows9), .va turn2, .un, .un]) rfl (ds_retI (inj := Xx.rt) (fun _ => rfl) dx_bl)) enX_no enX_o (ds_at (ρ' := [.un, .po, .va sides4, .va told5, .va found6, .va (.list rows9), .va turn2, .un, .un]) rfl (ds_nil rfl (And.intro trivial (And.intro rfl (And.intro trivial (And.intro trivial (And.intro trivial (And.intro trivial (And.intro trivial (And.intro trivial (And.intro trivial trivial))))))))))))))))))))))))))))) (fun s1 => (ds_at (ρ' := [.un, .po, .un, .un, .un, .un, .un, .un, .un]) rfl (ds_ret dx_bl))) (fun _ => rfl)))
end
end K55
end T_W_K55

section T_L1_K55
set_option Elab.async false
set_option linter.all false
set_option maxRecDepth 1000000
set_option maxHeartbeats 1000000
set_option autoImplicit false
namespace DD
open PySem
/-! ### values and costs of trees -/
def T.val {α : Type} : T α → Option α
  | .ret a => some a
  | _ => none
theorem T.val_eq {α : Type} {t : T α} {a : α} (h : T.val t = some a) : t = .ret a := by
  cases t <;> simp only [T.val] at h <;> first | (cases h; done) | (cases h; rfl)
/-! equal data, as a test -/
mutual
def sameD : D → D → Bool
  | .none, .none => true
  | .bool a, .bool b => a == b
  | .int a, .int b => a == b
  | .str a, .str b => decide (a = b)
  | .list a, .list b => sameL a b
  | .tuple a, .tuple b => sameL a b
  | _, _ => false
def sameL : List D → List D → Bool
  | [], [] => true
  | a :: l, b :: m => sameD a b && sameL l m
  | _, _ => false
end
mutual
theorem sameD_eq : ∀ {a b : D}, sameD a b = true → a = b
  | .none, .none, _ => rfl
  | .bool a, .bool b, h => by simp only [sameD, beq_iff_eq] at h; rw [h]
  | .int a, .int b, h => by simp only [sameD, beq_iff_eq] at h; rw [h]
  | .str a, .str b, h => by simp only [sameD, decide_eq_true_eq] at h; rw [h]
  | .list a, .list b, h => by simp only [sameD] at h; rw [sameL_eq h]
  | .tuple a, .tuple b, h => by simp only [sameD] at h; rw [sameL_eq h]
theorem sameL_eq : ∀ {a b : List D}, sameL a b = true → a = b
  | [], [], _ => rfl
  | a :: l, b :: m, h => by
    simp only [sameL, Bool.and_eq_true] at h
    rw [sameD_eq h.1, sameL_eq h.2]
end
def T.is (t : T D) (d : D) : Bool := match T.val t with
  | some e => sameD e d
  | none => false
theorem T.is_eq {t : T D} {d : D} (h : t.is d = true) : t = .ret d := by
  unfold T.is at h
  split at h
  · rename_i e q
    rw [T.val_eq q, sameD_eq h]
  · cases h
/-- c steps at most, and every end is good -/
def T.okc {α : Type} (t : T α) (c : Nat) (Q : α → Prop) : Prop := ∀ g, t.ok (g + c) fun a g' => Q a ∧ g ≤ g'
section
variable {α β : Type} {t : T α} {f : α → T β} {c c' : Nat} {Q : α → Prop} {R : β → Prop}
theorem T.okc_ret {a : α} (h : Q a) : (T.ret a).okc 0 Q := fun g => ⟨h, Nat.le_refl _⟩
theorem T.okc_mono (h : t.okc c Q) {Q' : α → Prop} (k : ∀ a, Q a → Q' a) : t.okc c Q' := fun g => T.ok_mono (h g) fun a g' z => ⟨k a z.1, z.2⟩
theorem T.okc_le (h : t.okc c Q) (k : c ≤ c') : t.okc c' Q := fun g => by
  have := h (g + (c' - c))
  rw [show g + (c' - c) + c = g + c' by omega] at this
  exact T.ok_mono this fun a g' z => ⟨z.1, by omega⟩
theorem T.okc_bind (h : t.okc c Q) (k : ∀ a, Q a → (f a).okc c' R) : (t.bind f).okc (c' + c) R := fun g => by
  rw [← Nat.add_assoc]
  refine T.ok_bind.mpr (T.ok_mono (h (g + c')) fun a g' z => ?_)
  have := k a z.1 (g' - c')
  rw [show g' - c' + c' = g' by omega] at this
  exact T.ok_mono this fun b g2 y => ⟨y.1, by omega⟩
theorem T.okc_next (h : t.okc c Q) : (T.next t).okc (c + 1) Q := fun g => ⟨g + c, by omega, h g⟩
theorem T.all_okc {p : α → Bool} : ∀ {t : T α} {c : Nat}, T.all p t c = true → t.okc c fun a => p a = true := by
  intro t
  induction t with
  | ret a => exact fun h g => ⟨h, by omega⟩
  | fail => intro c h; simp [T.all] at h
  | draw n k ih =>
    intro c h
    cases c with
    | zero => simp [T.all] at h
    | succ c =>
      simp only [T.all, Bool.and_eq_true, decide_eq_true_eq, List.all_eq_true] at h
      exact fun g => ⟨h.1, h.2.1, g + c, by omega, fun v hv => ih v (h.2.2 v (List.mem_range.mpr hv)) g⟩
  | next k ih =>
    intro c h
    cases c with
    | zero => simp [T.all] at h
    | succ c => exact fun g => ⟨g + c, by omega, ih (by simpa [T.all] using h) g⟩
end
end DD
namespace K55
open PySem DD
abbrev tu (a b : D) : D := .tuple [a, b]
def ann : D := .str ("ann" : Str)
def bob : D := .str ("bob" : Str)
def cid : D := .str ("cid" : Str)
def dot : D := .str ("dot" : Str)
def eve : D := .str ("eve" : Str)
def fay : D := .str ("fay" : Str)
def SL4 : List D := [ann, bob, cid, dot]
def PL4 : List (List D) := [[tu ann bob, tu cid dot], [tu ann cid, tu bob dot], [tu ann dot, tu bob cid]]
def AL4 : List D := [tu ann bob, tu ann cid, tu ann dot, tu bob cid, tu bob dot, tu cid dot]
def SL6 : List D := [ann, bob, cid, dot, eve, fay]
def PL6 : List (List D) := [[tu ann bob, tu cid dot, tu eve fay], [tu ann bob, tu cid eve, tu dot fay], [tu ann bob, tu cid fay, tu dot eve], [tu ann cid, tu bob dot, tu eve fay], [tu ann cid, tu bob eve, tu dot fay], [tu ann cid, tu bob fay, tu dot eve], [tu ann dot, tu bob cid, tu eve fay], [tu ann dot, tu bob eve, tu cid fay], [tu ann dot, tu bob fay, tu cid eve], [tu ann eve, tu bob cid, tu dot fay], [tu ann eve, tu bob dot, tu cid fay], [tu ann eve, tu bob fay, tu cid dot], [tu ann fay, tu bob cid, tu dot eve], [tu ann fay, tu bob dot, tu cid eve], [tu ann fay, tu bob eve, tu cid dot]]
def AL6 : List D := [tu ann bob, tu ann cid, tu ann dot, tu ann eve, tu ann fay, tu bob cid, tu bob dot, tu bob eve, tu bob fay, tu cid dot, tu cid eve, tu cid fay, tu dot eve, tu dot fay, tu eve fay]
def chT (a_sides P met num : D) : T D := ((lcT ((T.ret P).bind itemsL) some (fun rows8 => (T.b2 eqD (((lcT ((T.ret rows8).bind itemsL) some (fun row9 => (T.b2 inD (T.ret row9) (T.ret met))) fun row9 => (T.ret row9)).bind fun ds => T.ret (.list ds)).bind lenD) (T.ret (.int 0)))) fun rows8 => (T.ret rows8)).bind fun free7 => ((lcT ((T.ret (.list free7)).bind itemsL) some (fun rows11 => (((T.ret P).bind fun a => ((T.b2 catD (T.ret met) (T.ret rows11)).bind fun ds => T.ret (.list ds)).bind fun b => (T.b2 subD (T.b2 subD ((T.ret a_sides).bind lenD) (T.ret (.int 2))) (T.ret num)).bind fun c => m_law_goes_on a b c).bind truth)) fun rows11 => (T.ret rows11)).bind fun good10 => (((T.ret (.list good10)).bind m_law_pick))))
def tnT (rows : D) : T D := ((T.ret []).bind fun turned14 => (((T.ret rows).bind itemsL).bind fun ds => (T.foldM (fun d (s15 : List D) => (T.opt (some d)).bind fun row16 => ((T.b2 ixD (((T.ret row16).bind fun a => ((T.ret row16).bind revD).bind fun b => T.ret [a, b]).bind fun ds => T.ret (.list ds)) ((T.ret (.int 2)).bind drawD)).bind fun e17 => T.chk (List.length (α := D) s15) (T.ret (s15 ++ [e17])))) ds turned14).bind fun s15 => (((((T.ret (.list s15)).bind sortedD).bind fun ds => T.ret (.list ds)).bind tupleD))))
/-- every way of drawing on: each choice is a pairing, the last has all pairs -/
def ex (S P : D) (PL : List (List D)) (fin : List D → Bool) : List D → List D → Bool
  | [], met => fin met
  | num :: l, met => T.all (fun rows => match rows with
    | .list rs => PL.any (fun z => sameL z rs) && ex S P PL fin l (met ++ rs)
    | _ => false) (chT S P (.list met) num) 1
def LD (P : List (List D)) : D := .list (P.map .list)
theorem pair4 : m_law_pairings (.tuple SL4) = .ret (LD PL4) := T.is_eq (by decide +kernel)
theorem pair6 : m_law_pairings (.tuple SL6) = .ret (LD PL6) := T.is_eq (by decide +kernel)
def fin (AL met : List D) : Bool := decide (met.length = AL.length) && AL.all fun r => met.any fun z => sameD z r
theorem ex4 : ex (.tuple SL4) (LD PL4) PL4 (fin AL4) [.int 0, .int 1, .int 2] [] = true := by decide +kernel
end K55
end T_L1_K55

section T_L2_K55
set_option Elab.async false
set_option maxRecDepth 1000000
set_option linter.all false
set_option maxHeartbeats 0
set_option autoImplicit false
namespace K55
open PySem DD
def inPL (PL : List (List D)) (d : D) : Bool := match d with
  | .list rs => PL.any fun z => sameL z rs
  | _ => false
theorem first6 : T.all (inPL PL6) (chT (.tuple SL6) (LD PL6) (.list []) (.int 0)) 1 = true := by decide +kernel
theorem u0 : ex (.tuple SL6) (LD PL6) PL6 (fin AL6) [.int 1, .int 2, .int 3, .int 4] [tu ann bob, tu cid dot, tu eve fay] = true := by decide +kernel
theorem u1 : ex (.tuple SL6) (LD PL6) PL6 (fin AL6) [.int 1, .int 2, .int 3, .int 4] [tu ann bob, tu cid eve, tu dot fay] = true := by decide +kernel
theorem u2 : ex (.tuple SL6) (LD PL6) PL6 (fin AL6) [.int 1, .int 2, .int 3, .int 4] [tu ann bob, tu cid fay, tu dot eve] = true := by decide +kernel
theorem u3 : ex (.tuple SL6) (LD PL6) PL6 (fin AL6) [.int 1, .int 2, .int 3, .int 4] [tu ann cid, tu bob dot, tu eve fay] = true := by decide +kernel
theorem u4 : ex (.tuple SL6) (LD PL6) PL6 (fin AL6) [.int 1, .int 2, .int 3, .int 4] [tu ann cid, tu bob eve, tu dot fay] = true := by decide +kernel
theorem u5 : ex (.tuple SL6) (LD PL6) PL6 (fin AL6) [.int 1, .int 2, .int 3, .int 4] [tu ann cid, tu bob fay, tu dot eve] = true := by decide +kernel
theorem u6 : ex (.tuple SL6) (LD PL6) PL6 (fin AL6) [.int 1, .int 2, .int 3, .int 4] [tu ann dot, tu bob cid, tu eve fay] = true := by decide +kernel
theorem u7 : ex (.tuple SL6) (LD PL6) PL6 (fin AL6) [.int 1, .int 2, .int 3, .int 4] [tu ann dot, tu bob eve, tu cid fay] = true := by decide +kernel
theorem u8 : ex (.tuple SL6) (LD PL6) PL6 (fin AL6) [.int 1, .int 2, .int 3, .int 4] [tu ann dot, tu bob fay, tu cid eve] = true := by decide +kernel
theorem u9 : ex (.tuple SL6) (LD PL6) PL6 (fin AL6) [.int 1, .int 2, .int 3, .int 4] [tu ann eve, tu bob cid, tu dot fay] = true := by decide +kernel
theorem u10 : ex (.tuple SL6) (LD PL6) PL6 (fin AL6) [.int 1, .int 2, .int 3, .int 4] [tu ann eve, tu bob dot, tu cid fay] = true := by decide +kernel
theorem u11 : ex (.tuple SL6) (LD PL6) PL6 (fin AL6) [.int 1, .int 2, .int 3, .int 4] [tu ann eve, tu bob fay, tu cid dot] = true := by decide +kernel
theorem u12 : ex (.tuple SL6) (LD PL6) PL6 (fin AL6) [.int 1, .int 2, .int 3, .int 4] [tu ann fay, tu bob cid, tu dot eve] = true := by decide +kernel
theorem u13 : ex (.tuple SL6) (LD PL6) PL6 (fin AL6) [.int 1, .int 2, .int 3, .int 4] [tu ann fay, tu bob dot, tu cid eve] = true := by decide +kernel
theorem u14 : ex (.tuple SL6) (LD PL6) PL6 (fin AL6) [.int 1, .int 2, .int 3, .int 4] [tu ann fay, tu bob eve, tu cid dot] = true := by decide +kernel
theorem ex6 : ∀ z ∈ PL6, ex (.tuple SL6) (LD PL6) PL6 (fin AL6) [.int 1, .int 2, .int 3, .int 4] z = true := by
  intro z hz
  simp only [PL6, List.mem_cons, List.not_mem_nil, or_false] at hz
  rcases hz with rfl | rfl | rfl | rfl | rfl | rfl | rfl | rfl | rfl | rfl | rfl | rfl | rfl | rfl | rfl
  · exact u0
  · exact u1
  · exact u2
  · exact u3
  · exact u4
  · exact u5
  · exact u6
  · exact u7
  · exact u8
  · exact u9
  · exact u10
  · exact u11
  · exact u12
  · exact u13
  · exact u14
end K55
end T_L2_K55

section T_L3_K55
set_option Elab.async false
set_option linter.all false
set_option maxRecDepth 1000000
set_option maxHeartbeats 1000000
set_option autoImplicit false
namespace K55
open PySem DD
def gd (b : Bool) : D := if b then .str ("home" : Str) else .str ("away" : Str)
def hm (r s : D) : Bool := (m_ground r s).is (gd true)
def pmT (told1 : D) : T (List D) := T.b2 (fun _ d => lc2I some (fun told1 => (T.ret true)) (fun told1 => ((T.ret told1).bind itemsT)) (fun told1 => some) (fun told1 row2 => (T.ret true)) (fun told1 row2 => ((((T.ret row2).bind sortedD).bind fun ds => T.ret (.list ds)).bind tupleD)) d) (T.ret .none) (T.ret told1)
def rdOK (SL : List D) (rows : List D) (r : D) : Bool :=
  (m_is_round r (.tuple SL)).is (.bool true) && (SL.all fun s => (m_ground r s).is (gd (hm r s)) && (m_law_ground r s).is (gd (hm r s))) &&
  (rows.all fun row => match row with
    | .tuple [a, b] => hm r a != hm r b
    | _ => false) &&
  match T.val (pmT r) with
    | some q => sameL (srtD q) rows
    | none => false
theorem turns4 : (PL4.all fun rows => T.all (rdOK SL4 rows) (tnT (.list rows)) 2) = true := by decide +kernel
theorem turns6 : (PL6.all fun rows => T.all (rdOK SL6 rows) (tnT (.list rows)) 3) = true := by decide +kernel
end K55
end T_L3_K55

section T_L4_K55
set_option Elab.async false
set_option linter.all false
set_option maxRecDepth 1000000
set_option maxHeartbeats 1000000
set_option autoImplicit false
namespace DD
open PySem
/-! ### loops and comprehensions without draws -/
theorem foldM_app {f : D → List D → T (List D)} {e : D → List D} : ∀ {ds s : List D}, s.length + (ds.flatMap e).length < 16777216 → (∀ d ∈ ds, ∀ s' : List D, s'.length + (e d).length < 16777216 → f d s' = .ret (s' ++ e d)) → T.foldM f ds s = .ret (s ++ ds.flatMap e)
  | [], s, _, _ => by rw [List.flatMap_nil, List.append_nil] <;> rfl
  | d :: ds, s, hb, h => by
    rw [List.flatMap_cons, List.length_append] at hb
    show (f d s).bind _ = _
    rw [h d List.mem_cons_self s (by omega), T.ret_bind, foldM_app (by rw [List.length_append]; omega) fun d' hd => h d' (List.mem_cons_of_mem _ hd), List.flatMap_cons, List.append_assoc]
theorem filtM_some {te : D → T D} {e : D → D} : ∀ {ds : List D}, (∀ d ∈ ds, te d = .ret (e d)) → T.filtM (itemT some (fun _ => T.ret true) te) ds = .ret (ds.map e)
  | [], _ => rfl
  | d :: ds, h => by
    show (itemT some (fun _ => T.ret true) te d).bind _ = _
    rw [show itemT some (fun _ => T.ret true) te d = .ret (some (e d)) by
      show (te d).bind _ = _
      rw [h d List.mem_cons_self] <;> rfl]
    rw [T.ret_bind, filtM_some fun d' hd => h d' (List.mem_cons_of_mem _ hd)] <;> rfl
theorem filtM_cond {tc : D → T Bool} {te : D → T D} {c : D → Bool} : ∀ {ds : List D}, (∀ d ∈ ds, tc d = .ret (c d)) → (∀ d ∈ ds, te d = .ret d) → T.filtM (itemT some tc te) ds = .ret (ds.filter c)
  | [], _, _ => rfl
  | d :: ds, h, k => by
    show (itemT some tc te d).bind _ = _
    have ih := filtM_cond (ds := ds) (fun d' hd => h d' (List.mem_cons_of_mem _ hd)) fun d' hd => k d' (List.mem_cons_of_mem _ hd)
    cases q : c d with
    | true =>
      rw [show itemT some tc te d = .ret (some d) by unfold itemT; rw [show T.opt (some d) = T.ret d from rfl, T.ret_bind, h d List.mem_cons_self, q, T.ret_bind, if_pos rfl, k d List.mem_cons_self] <;> rfl]
      rw [T.ret_bind, ih, List.filter_cons_of_pos q] <;> rfl
    | false =>
      rw [show itemT some tc te d = .ret none by unfold itemT; rw [show T.opt (some d) = T.ret d from rfl, T.ret_bind, h d List.mem_cons_self, q, T.ret_bind] <;> rfl]
      rw [T.ret_bind, ih, List.filter_cons_of_neg (by rw [q]; exact Bool.false_ne_true)] <;> rfl
theorem lc_some {te : D → T D} {e : D → D} {ds : List D} (hl : ds.length < 16777216) (h : ∀ d ∈ ds, te d = .ret (e d)) : lcT (.ret ds) some (fun _ => T.ret true) te = .ret (ds.map e) := by
  unfold lcT
  rw [T.ret_bind, T.chk_pos _ hl, filtM_some h]
theorem lc_cond {tc : D → T Bool} {te : D → T D} {c : D → Bool} {ds : List D} (hl : ds.length < 16777216) (h : ∀ d ∈ ds, tc d = .ret (c d)) (k : ∀ d ∈ ds, te d = .ret d) : lcT (.ret ds) some tc te = .ret (ds.filter c) := by
  unfold lcT
  rw [T.ret_bind, T.chk_pos _ hl, filtM_cond h k]
theorem flatM_eq {f : D → T (List D)} {e : D → List D} : ∀ {ds : List D}, (∀ d ∈ ds, f d = .ret (e d)) → T.flatM f ds = .ret (ds.flatMap e)
  | [], _ => rfl
  | d :: ds, h => by
    show (f d).bind _ = _
    rw [h d List.mem_cons_self, T.ret_bind, flatM_eq fun d' hd => h d' (List.mem_cons_of_mem _ hd), T.ret_bind, List.flatMap_cons]
/-! ### sound data -/
theorem canLay_mem : ∀ {ds : List D}, (∀ d ∈ ds, PyData.canLay0 d = true) → PyData.canLayAll0 ds = true
  | [], _ => by simp only [PyData.canLayAll0]
  | d :: ds, h => by simp only [PyData.canLayAll0, h d List.mem_cons_self, canLay_mem fun x hx => h x (List.mem_cons_of_mem _ hx), Bool.and_self]
theorem depth_mem {n : Nat} : ∀ {ds : List D}, (∀ d ∈ ds, PyData.depth d ≤ n) → PyData.depthAll ds ≤ n
  | [], _ => by simp only [PyData.depthAll]; omega
  | d :: ds, h => by
    have h1 := h d List.mem_cons_self
    have h2 := depth_mem fun x hx => h x (List.mem_cons_of_mem _ hx)
    simp only [PyData.depthAll]
    omega
def shp (n : Nat) (d : D) : Bool := PyData.canLay0 d && decide (PyData.depth d ≤ n)
theorem shp_list {n : Nat} {ds : List D} (h : ∀ d ∈ ds, shp n d = true) : shp (n + 1) (.list ds) = true := by
  unfold shp at h ⊢
  simp only [Bool.and_eq_true, decide_eq_true_eq] at h ⊢
  refine ⟨by simp only [PyData.canLay0]; exact canLay_mem fun d hd => (h d hd).1, ?_⟩
  have := depth_mem fun d hd => (h d hd).2
  simp only [PyData.depth]
  omega
theorem shp_tup {n : Nat} {ds : List D} (h : ∀ d ∈ ds, shp n d = true) : shp (n + 1) (.tuple ds) = true := by
  unfold shp at h ⊢
  simp only [Bool.and_eq_true, decide_eq_true_eq] at h ⊢
  refine ⟨by simp only [PyData.canLay0]; exact canLay_mem fun d hd => (h d hd).1, ?_⟩
  have := depth_mem fun d hd => (h d hd).2
  simp only [PyData.depth]
  omega
theorem shp_shaped {n : Nat} {d : D} (h : shp n d = true) (hn : n ≤ 64) : SeqAt.shaped d = true := by
  unfold shp at h
  unfold SeqAt.shaped
  simp only [Bool.and_eq_true, decide_eq_true_eq] at h ⊢
  exact ⟨h.1, by omega⟩
theorem shp_eqv {n : Nat} {d : D} (h : shp n d = true) : PyData.eqv d d = true := by
  unfold shp at h
  rw [Bool.and_eq_true] at h
  exact SeqAt.eqv_refl d h.1
end DD
end T_L4_K55

section T_L5_K55
set_option Elab.async false
set_option linter.all false
set_option maxRecDepth 1000000
set_option maxHeartbeats 1000000
set_option autoImplicit false
namespace K55
open PySem L2 DD
/-- grounds are as they are -/
def Gr (SL rs : List D) : Prop := ∀ r ∈ rs, ∀ s ∈ SL, m_ground r s = .ret (gd (hm r s)) ∧ m_law_ground r s = .ret (gd (hm r s))
abbrev pl (SL rs : List D) : D := .tuple [.str ("plan" : Str), .tuple SL, .tuple rs]
def eB (rs : List D) (s : D) : D → List D
  | .int k => match atI rs k, atI rs (k - 1) with
    | some r, some r' => if hm r s = hm r' s then [tu s (.int (k + 1))] else []
    | _, _ => []
  | _ => []
def ks : List D := [.int 1, .int 2, .int 3, .int 4]
def bk (SL rs : List D) : List D := SL.flatMap fun s => ks.flatMap (eB rs s)
theorem eB_len (rs : List D) (s d : D) : (eB rs s d).length ≤ 1 := by
  unfold eB
  split
  · split
    · split <;> simp
    · simp
  · simp
theorem eBs_len (rs : List D) (s : D) : (ks.flatMap (eB rs s)).length ≤ 4 := by
  have h1 := eB_len rs s (.int 1)
  have h2 := eB_len rs s (.int 2)
  have h3 := eB_len rs s (.int 3)
  have h4 := eB_len rs s (.int 4)
  simp only [ks, List.flatMap_cons, List.flatMap_nil, List.length_append, List.length_nil]
  omega
theorem gd_ne (b : Bool) : neD (gd b) (.str ("rest" : Str)) = .ret true := T.val_eq (by cases b <;> decide +kernel)
theorem gd_eq (a b : Bool) : eqD (gd a) (gd b) = .ret (decide (a = b)) := T.val_eq (by cases a <;> cases b <;> decide +kernel)
def isL (t : T (List D)) (ds : List D) : Bool := match T.val t with
  | some e => sameL e ds
  | none => false
theorem isL_eq {t : T (List D)} {ds : List D} (h : isL t ds = true) : t = .ret ds := by
  unfold isL at h
  split at h
  · rename_i e q
    rw [T.val_eq q, sameL_eq h]
  · cases h
theorem rg5 : range2 (.int 1) (.int 5) = .ret ks := isL_eq (by decide +kernel)
theorem ln5 (r0 r1 r2 r3 r4 : D) : lenD (.tuple [r0, r1, r2, r3, r4]) = .ret (.int 5) := rfl
theorem ix0 (r0 r1 r2 r3 r4 : D) : ixD (.tuple [r0, r1, r2, r3, r4]) (.int 0) = .ret r0 := rfl
theorem ix1 (r0 r1 r2 r3 r4 : D) : ixD (.tuple [r0, r1, r2, r3, r4]) (.int 1) = .ret r1 := rfl
theorem ix2 (r0 r1 r2 r3 r4 : D) : ixD (.tuple [r0, r1, r2, r3, r4]) (.int 2) = .ret r2 := rfl
theorem ix3 (r0 r1 r2 r3 r4 : D) : ixD (.tuple [r0, r1, r2, r3, r4]) (.int 3) = .ret r3 := rfl
theorem ix4 (r0 r1 r2 r3 r4 : D) : ixD (.tuple [r0, r1, r2, r3, r4]) (.int 4) = .ret r4 := rfl
theorem sb (i : Int) : subD (.int i) (.int 1) = .ret (.int (i - 1)) := rfl
theorem ad (i : Int) : addD (.int i) (.int 1) = .ret (.int (i + 1)) := rfl
theorem if_app {b : Bool} {s : List D} {e : D} (h : s.length < 16777216) : (if b = true then T.chk s.length (T.ret (s ++ [e])) else T.ret s) = T.ret (s ++ if b = true then [e] else []) := by
  cases b with
  | true => rw [if_pos rfl, if_pos rfl, T.chk_pos _ h]
  | false => rw [if_neg Bool.false_ne_true, if_neg Bool.false_ne_true, List.append_nil]
section
variable {r0 r1 r2 r3 r4 : D}
theorem breaks6 (h : Gr SL6 [r0, r1, r2, r3, r4]) : m_breaks (pl SL6 [r0, r1, r2, r3, r4]) = .ret (.tuple (bk SL6 [r0, r1, r2, r3, r4])) := by
  unfold m_breaks
  simp only [T.ret_bind, tripO, T.opt, Option.bind_some, itemsT]
  rw [foldM_app (e := fun s => ks.flatMap (eB [r0, r1, r2, r3, r4] s))]
  · rw [T.ret_bind] <;> rfl
  · have := fun s => eBs_len [r0, r1, r2, r3, r4] s
    have h1 := this ann
    have h2 := this bob
    have h3 := this cid
    have h4 := this dot
    have h5 := this eve
    have h6 := this fay
    simp only [SL6, List.flatMap_cons, List.flatMap_nil, List.length_append, List.length_nil]
    omega
  · intro s hs s9 h9
    rw [ln5, T.ret_bind, rg5, T.ret_bind]
    rw [foldM_app (e := eB [r0, r1, r2, r3, r4] s) h9, T.ret_bind]
    intro d hd s11 h11
    have hs11 : s11.length < 16777216 := by omega
    have g0 := (h r0 (by simp) s hs).1
    have g1 := (h r1 (by simp) s hs).1
    have g2 := (h r2 (by simp) s hs).1
    have g3 := (h r3 (by simp) s hs).1
    have g4 := (h r4 (by simp) s hs).1
    simp only [ks, List.mem_cons, List.not_mem_nil, or_false] at hd
    rcases hd with rfl | rfl | rfl | rfl
    · simp only [ix1, T.ret_bind, g1, gd_ne, andT, sb, ad, show (1 : Int) - 1 = 0 from rfl, ix0, g0, gd_eq, if_true, if_app hs11, eB]
      simp only [decide_eq_true_eq] <;> rfl
    · simp only [ix2, T.ret_bind, g2, gd_ne, andT, sb, ad, show (2 : Int) - 1 = 1 from rfl, ix1, g1, gd_eq, if_true, if_app hs11, eB]
      simp only [decide_eq_true_eq] <;> rfl
    · simp only [ix3, T.ret_bind, g3, gd_ne, andT, sb, ad, show (3 : Int) - 1 = 2 from rfl, ix2, g2, gd_eq, if_true, if_app hs11, eB]
      simp only [decide_eq_true_eq] <;> rfl
    · simp only [ix4, T.ret_bind, g4, gd_ne, andT, sb, ad, show (4 : Int) - 1 = 3 from rfl, ix3, g3, gd_eq, if_true, if_app hs11, eB]
      simp only [decide_eq_true_eq] <;> rfl
end
end K55
end T_L5_K55

section T_L6_K55
set_option Elab.async false
set_option linter.all false
set_option maxRecDepth 1000000
set_option maxHeartbeats 1000000
set_option autoImplicit false
namespace K55
open PySem L2 DD
section
variable {r0 r1 r2 r3 r4 : D}
theorem law_breaks6 (h : Gr SL6 [r0, r1, r2, r3, r4]) : m_law_breaks (pl SL6 [r0, r1, r2, r3, r4]) = .ret (.tuple (bk SL6 [r0, r1, r2, r3, r4])) := by
  unfold m_law_breaks
  have i1 : ixD (pl SL6 [r0, r1, r2, r3, r4]) (.int 1) = .ret (.tuple SL6) := rfl
  have i2 : ixD (pl SL6 [r0, r1, r2, r3, r4]) (.int 2) = .ret (.tuple [r0, r1, r2, r3, r4]) := rfl
  simp only [T.ret_bind, T.opt, i1, i2, itemsT]
  rw [foldM_app (e := fun s => ks.flatMap (eB [r0, r1, r2, r3, r4] s))]
  · rw [T.ret_bind] <;> rfl
  · have := fun s => eBs_len [r0, r1, r2, r3, r4] s
    have h1 := this ann
    have h2 := this bob
    have h3 := this cid
    have h4 := this dot
    have h5 := this eve
    have h6 := this fay
    simp only [SL6, List.flatMap_cons, List.flatMap_nil, List.length_append, List.length_nil]
    omega
  · intro s hs s9 h9
    rw [ln5, T.ret_bind, rg5, T.ret_bind]
    rw [foldM_app (e := eB [r0, r1, r2, r3, r4] s) h9, T.ret_bind]
    intro d hd s11 h11
    have hs11 : s11.length < 16777216 := by omega
    have g0 := (h r0 (by simp) s hs).2
    have g1 := (h r1 (by simp) s hs).2
    have g2 := (h r2 (by simp) s hs).2
    have g3 := (h r3 (by simp) s hs).2
    have g4 := (h r4 (by simp) s hs).2
    simp only [ks, List.mem_cons, List.not_mem_nil, or_false] at hd
    rcases hd with rfl | rfl | rfl | rfl
    · simp only [ix1, T.ret_bind, g1, gd_ne, andT, sb, ad, show (1 : Int) - 1 = 0 from rfl, ix0, g0, gd_eq, if_true, if_app hs11, eB]
      simp only [decide_eq_true_eq] <;> rfl
    · simp only [ix2, T.ret_bind, g2, gd_ne, andT, sb, ad, show (2 : Int) - 1 = 1 from rfl, ix1, g1, gd_eq, if_true, if_app hs11, eB]
      simp only [decide_eq_true_eq] <;> rfl
    · simp only [ix3, T.ret_bind, g3, gd_ne, andT, sb, ad, show (3 : Int) - 1 = 2 from rfl, ix2, g2, gd_eq, if_true, if_app hs11, eB]
      simp only [decide_eq_true_eq] <;> rfl
    · simp only [ix4, T.ret_bind, g4, gd_ne, andT, sb, ad, show (4 : Int) - 1 = 3 from rfl, ix3, g3, gd_eq, if_true, if_app hs11, eB]
      simp only [decide_eq_true_eq] <;> rfl
/-! ### rows of grounds -/
def pat (rs : List D) (s : D) : List D := rs.map fun r => gd (hm r s)
theorem patterns6 (h : Gr SL6 [r0, r1, r2, r3, r4]) : m_patterns (pl SL6 [r0, r1, r2, r3, r4]) = .ret (.tuple (SL6.map fun s => tu s (.tuple (pat [r0, r1, r2, r3, r4] s)))) := by
  unfold m_patterns
  have i1 : ixD (pl SL6 [r0, r1, r2, r3, r4]) (.int 1) = .ret (.tuple SL6) := rfl
  have i2 : ixD (pl SL6 [r0, r1, r2, r3, r4]) (.int 2) = .ret (.tuple [r0, r1, r2, r3, r4]) := rfl
  simp only [T.ret_bind, i1, i2, itemsT]
  rw [lc_some (e := fun s => tu s (.tuple (pat [r0, r1, r2, r3, r4] s))) (by decide)]
  · rfl
  · intro s hs
    rw [lc_some (e := fun r => gd (hm r s)) (by simp)]
    · rfl
    · intro r hr
      exact (h r hr s hs).1
/-! ### sides without a break -/
theorem bk_mem {SL rs : List D} {s d : D} (hs : s ∈ SL) (hd : d ∈ ks.flatMap (eB rs s)) : d ∈ bk SL rs := List.mem_flatMap.mpr ⟨s, hs, hd⟩
theorem eB_fst {rs : List D} {s k d : D} (h : d ∈ eB rs s k) : ∃ i, d = tu s (.int i) := by
  unfold eB at h
  split at h
  · split at h
    · split at h
      · exact ⟨_, List.mem_singleton.mp h⟩
      · cases h
    · cases h
  · cases h
def bits (rs : List D) (s : D) : List Bool := rs.map fun r => hm r s
def alt (b : Bool) : List Bool := [b, !b, b, !b, b]
theorem still {s : D} (h : ks.flatMap (eB [r0, r1, r2, r3, r4] s) = []) : bits [r0, r1, r2, r3, r4] s = alt (hm r0 s) := by
  have h := fun d hd => List.flatMap_eq_nil_iff.mp h d hd
  have e1 : (if hm r1 s = hm r0 s then [tu s (.int (1 + 1))] else []) = [] := h (.int 1) (by simp [ks])
  have e2 : (if hm r2 s = hm r1 s then [tu s (.int (2 + 1))] else []) = [] := h (.int 2) (by simp [ks])
  have e3 : (if hm r3 s = hm r2 s then [tu s (.int (3 + 1))] else []) = [] := h (.int 3) (by simp [ks])
  have e4 : (if hm r4 s = hm r3 s then [tu s (.int (4 + 1))] else []) = [] := h (.int 4) (by simp [ks])
  unfold bits alt
  simp only [List.map]
  generalize hm r0 s = a at *
  generalize hm r1 s = b at *
  generalize hm r2 s = c at *
  generalize hm r3 s = d at *
  generalize hm r4 s = e at *
  cases a <;> cases b <;> cases c <;> cases d <;> cases e <;> first | rfl | (simp at e1; done) | (simp at e2; done) | (simp at e3; done) | (simp at e4; done)
end
theorem two_of {α : Type} {l : List α} {f : α → Bool} (nd : (l.map f).Nodup) : l.length ≤ 2 := by
  match l, nd with
  | [], _ => simp
  | [_], _ => simp
  | [_, _], _ => simp
  | x :: y :: z :: l, nd =>
    simp only [List.map_cons, List.nodup_cons, List.mem_cons, not_or] at nd
    exfalso
    obtain ⟨⟨h1, h2, _⟩, ⟨h3, _⟩, _⟩ := nd
    revert h1 h2 h3
    cases f x <;> cases f y <;> cases f z <;> simp
end K55
end T_L6_K55

section T_L7_K55
set_option Elab.async false
set_option linter.all false
set_option maxRecDepth 1000000
set_option maxHeartbeats 1000000
set_option autoImplicit false
namespace DD
open PySem
theorem ddK_id : ∀ {l : List NestedKey}, l.Nodup → ddK l = l
  | [], _ => rfl
  | k :: l, h => by
    obtain ⟨h1, h2⟩ := List.nodup_cons.mp h
    unfold ddK
    rw [if_neg h1, ddK_id h2]
theorem nodup_map {α β : Type} {f : α → β} {l : List α} (nd : l.Nodup) (h : ∀ a ∈ l, ∀ b ∈ l, f a = f b → a = b) : (l.map f).Nodup := by
  rw [List.Nodup, List.pairwise_map]
  exact nd.imp_of_mem fun ha hb n e => n (h _ ha _ hb e)
theorem flat_len {α β : Type} {f : α → List β} : ∀ {l : List α}, l.length ≤ (l.flatMap f).length + (l.filter fun a => (f a).isEmpty).length
  | [] => by simp
  | a :: l => by
    have ih := flat_len (f := f) (l := l)
    rw [List.flatMap_cons, List.length_append, List.length_cons, List.filter_cons]
    cases q : f a with
    | nil => simp only [List.isEmpty_nil, if_true, List.length_cons, List.length_nil]; omega
    | cons b m => simp only [List.isEmpty_cons, Bool.false_eq_true, if_false, List.length_cons]; omega
theorem filter_le {α : Type} {p q : α → Bool} : ∀ {l : List α}, (∀ a ∈ l, p a = true → q a = true) → (l.filter p).length ≤ (l.filter q).length
  | [], _ => by simp
  | a :: l, h => by
    have ih := filter_le (p := p) (q := q) (l := l) fun b hb => h b (List.mem_cons_of_mem _ hb)
    rw [List.filter_cons, List.filter_cons]
    cases hp : p a with
    | true => rw [h a List.mem_cons_self hp]; simp only [if_true, List.length_cons]; omega
    | false => cases q a <;> simp <;> omega
end DD
namespace K55
open PySem L2 DD
def ckT (sides4 told5 : D) : T (O Unit) := (((T.ret told5).bind m_breaks).bind fun found6 => ((orT (T.b2 nisD ((T.ret told5).bind m_fault_of_plan) (T.ret .none)) (orT (T.b2 neD (T.ret found6) ((T.ret told5).bind m_law_breaks)) (T.b2 ltD ((T.ret found6).bind lenD) (T.b2 subD ((T.ret sides4).bind lenD) (T.ret (.int 2)))))).bind fun k => if k then (((T.ret (.bool false)).bind fun d => T.ret (.rt d)) : T (Xx (Unit))).bind fun r => T.ret r.o else ((T.b2 gtD (((lcT ((T.ret sides4).bind itemsT) some (fun side7 => (T.b2 ninD (T.ret side7) ((lcT ((T.ret found6).bind itemsT) some (fun row8 => (T.ret true)) fun row8 => (T.b2 ixD (T.ret row8) (T.ret (.int 0)))).bind fun ds => T.ret (.list ds)))) fun side7 => (T.ret side7)).bind fun ds => T.ret (.list ds)).bind lenD) (T.ret (.int 2))).bind fun k => if k then (((T.ret (.bool false)).bind fun d => T.ret (.rt d)) : T (Xx (Unit))).bind fun r => T.ret r.o else ((lcT (((T.ret told5).bind m_patterns).bind itemsT) some (fun row10 => (T.ret true)) fun row10 => (T.b2 ixD (T.ret row10) (T.ret (.int 1)))).bind fun rows9 => ((orT (T.b2 neD (((lcT ((T.ret (.list rows9)).bind itemsL) some (fun row11 => (T.ret true)) fun row11 => ((T.ret row11).bind fun a => (T.ret (.bool true)).bind fun b => T.ret (.tuple [a, b]))).bind fun ds => T.ret (.list ds)).bind lenDictD) ((T.ret sides4).bind lenD)) (notT ((T.ret found6).bind fun d => T.ret (isiD "tuple" d)))).bind fun k => if k then (((T.ret (.bool false)).bind fun d => T.ret (.rt d)) : T (Xx (Unit))).bind fun r => T.ret r.o else (T.ret (.nx ())))))))
/-- no two sides have one row -/
def Df (SL rs : List D) : Prop := ∀ s ∈ SL, ∀ t ∈ SL, bits rs s = bits rs t → s = t
def gk (b : Bool) : NestedKey := if b then .text ("home" : Str) else .text ("away" : Str)
theorem gk_inj {a b : Bool} (h : gk a = gk b) : a = b := by
  revert h
  cases a <;> cases b <;> first | (intro _; rfl) | (intro h; exact absurd h (by decide))
theorem nk_pat {s : D} : ∀ rs : List D, nkAll (pat rs s) = some (rs.map fun r => gk (hm r s))
  | [] => rfl
  | r :: rs => by
    have ih := nk_pat (s := s) rs
    show (match nkD (gd (hm r s)), nkAll (pat rs s) with
    | some k, some ks => some (k :: ks)
    | _, _ => none) = _
    rw [ih, show nkD (gd (hm r s)) = some (gk (hm r s)) by cases hm r s <;> rfl] <;> rfl
theorem nk_pats {rs : List D} : ∀ SL : List D, nkAll (SL.map fun s => .tuple (pat rs s)) = some (SL.map fun s => .tup (rs.map fun r => gk (hm r s)))
  | [] => rfl
  | s :: SL => by
    have ih := nk_pats (rs := rs) SL
    show (match nkD (.tuple (pat rs s)), nkAll (SL.map fun s => .tuple (pat rs s)) with
    | some k, some ks => some (k :: ks)
    | _, _ => none) = _
    rw [ih, show nkD (.tuple (pat rs s)) = some (.tup (rs.map fun r => gk (hm r s))) by unfold nkD; rw [nk_pat] <;> rfl] <;> rfl
theorem gk_depth {s : D} : ∀ rs : List D, NestedKey.depthAll (rs.map fun r => gk (hm r s)) = 0
  | [] => rfl
  | r :: rs => by
    simp only [List.map_cons, NestedKey.depthAll, gk_depth rs]
    unfold gk
    cases hm r s <;> rfl
theorem map_inj {α β γ : Type} {f g : α → β} {k : β → γ} (ki : ∀ a b, k a = k b → a = b) : ∀ {l : List α}, (l.map fun x => k (f x)) = (l.map fun x => k (g x)) → l.map f = l.map g
  | [], _ => rfl
  | x :: l, h => by
    simp only [List.map_cons, List.cons.injEq] at h ⊢
    exact ⟨ki _ _ h.1, map_inj ki h.2⟩
section
variable {rs : List D}
theorem prs_map {k : D → D} : ∀ SL : List D, pairsD (SL.map fun s => tu (k s) (.bool true)) = some (SL.map fun s => (k s, .bool true))
  | [] => rfl
  | s :: SL => by
    show (pairsD (SL.map fun s => tu (k s) (.bool true))).map _ = _
    rw [prs_map SL] <;> rfl
theorem dict_len {SL : List D} (nd : SL.Nodup) (hl : SL.length < 64) (df : Df SL rs) : lenDictD (.list (SL.map fun s => tu (.tuple (pat rs s)) (.bool true))) = .ret (.int SL.length) := by
  show (dictKeysD _).bind _ = _
  unfold dictKeysD
  rw [prs_map]
  show (setD ((SL.map fun s => (PyData.tuple (pat rs s), PyData.bool true)).map (·.1))).bind _ = _
  rw [List.map_map, show ((fun x : D × D => x.1) ∘ fun s => (PyData.tuple (pat rs s), PyData.bool true)) = fun s => .tuple (pat rs s) from rfl]
  unfold setD
  rw [nk_pats]
  have hk : okSet (SL.map fun s => .tup (rs.map fun r => gk (hm r s))) = true := by
    unfold okSet
    rw [Bool.and_eq_true, Bool.or_eq_true]
    refine ⟨.inr (List.all_eq_true.mpr fun k hk => ?_), decide_eq_true (by rw [List.length_map]; exact hl)⟩
    obtain ⟨s, _, rfl⟩ := List.mem_map.mp hk
    show decide (NestedKey.depth (.tup (rs.map fun r => gk (hm r s))) ≤ 8) = true
    rw [NestedKey.depth, gk_depth] <;> rfl
  show (T.need (okSet _) (T.ret (ddK _))).bind _ = _
  rw [hk, T.need_true, T.ret_bind, ddK_id, List.length_map]
  refine nodup_map nd fun s hs t ht e => df s hs t ht ?_
  unfold bits
  simp only [NestedKey.tup.injEq] at e
  exact map_inj (fun a b => gk_inj) e
end
section
variable {r0 r1 r2 r3 r4 : D}
abbrev R5 (r0 r1 r2 r3 r4 : D) : List D := [r0, r1, r2, r3, r4]
theorem sl6_nd : SL6.Nodup := by
  have e : SL6 = [("ann" : Str), ("bob" : Str), ("cid" : Str), ("dot" : Str), ("eve" : Str), ("fay" : Str)].map PyData.str := rfl
  rw [e]
  refine nodup_map (by decide +kernel) fun a _ b _ h => ?_
  cases h
  rfl
theorem still2 (df : Df SL6 (R5 r0 r1 r2 r3 r4)) : (SL6.filter fun s => (ks.flatMap (eB (R5 r0 r1 r2 r3 r4) s)).isEmpty).length ≤ 2 := by
  refine two_of (f := fun s => hm r0 s) (nodup_map (List.Pairwise.filter _ (show SL6.Pairwise (· ≠ ·) from sl6_nd)) fun s hs t ht e => ?_)
  obtain ⟨s1, s2⟩ := List.mem_filter.mp hs
  obtain ⟨t1, t2⟩ := List.mem_filter.mp ht
  refine df s s1 t t1 ?_
  rw [still (List.isEmpty_iff.mp s2), still (List.isEmpty_iff.mp t2), show hm r0 s = hm r0 t from e]
theorem bk_len (df : Df SL6 (R5 r0 r1 r2 r3 r4)) : 4 ≤ (bk SL6 (R5 r0 r1 r2 r3 r4)).length := by
  have h := flat_len (f := fun s => ks.flatMap (eB (R5 r0 r1 r2 r3 r4) s)) (l := SL6)
  have h2 := still2 df
  have h3 : SL6.length = 6 := rfl
  unfold bk
  omega
theorem bk_max : (bk SL6 (R5 r0 r1 r2 r3 r4)).length ≤ 24 := by
  have := fun s => eBs_len (R5 r0 r1 r2 r3 r4) s
  have h1 := this ann
  have h2 := this bob
  have h3 := this cid
  have h4 := this dot
  have h5 := this eve
  have h6 := this fay
  simp only [bk, SL6, List.flatMap_cons, List.flatMap_nil, List.length_append, List.length_nil]
  omega
theorem bk_el {d : D} (h : d ∈ bk SL6 (R5 r0 r1 r2 r3 r4)) : ∃ s ∈ SL6, ∃ i, d = tu s (.int i) := by
  obtain ⟨s, hs, h⟩ := List.mem_flatMap.mp h
  obtain ⟨k, _, h⟩ := List.mem_flatMap.mp h
  exact ⟨s, hs, eB_fst h⟩
theorem sl_shp {s : D} (h : s ∈ SL6) : shp 0 s = true := List.all_eq_true.mp (show (SL6.all fun s => shp 0 s) = true by decide +kernel) s h
theorem bk_shp {d : D} (h : d ∈ bk SL6 (R5 r0 r1 r2 r3 r4)) : shp 1 d = true := by
  obtain ⟨s, hs, i, rfl⟩ := bk_el h
  refine shp_tup fun x hx => ?_
  rcases List.mem_cons.mp hx with rfl | hx
  · exact sl_shp hs
  · rw [List.mem_singleton.mp hx]
    rfl
def fst : D → D
  | .tuple (a :: _) => a
  | d => d
theorem sides6 (df : Df SL6 (R5 r0 r1 r2 r3 r4)) : (SL6.filter fun s => !anyD ((bk SL6 (R5 r0 r1 r2 r3 r4)).map fst) s).length ≤ 2 := by
  refine Nat.le_trans (filter_le fun s hs h => ?_) (still2 df)
  rw [List.isEmpty_iff]
  refine List.eq_nil_iff_forall_not_mem.mpr fun d hd => ?_
  obtain ⟨k, _, hk⟩ := List.mem_flatMap.mp hd
  obtain ⟨i, rfl⟩ := eB_fst hk
  have : anyD ((bk SL6 (R5 r0 r1 r2 r3 r4)).map fst) s = true := List.any_eq_true.mpr ⟨s, List.mem_map.mpr ⟨_, bk_mem hs hd, rfl⟩, shp_eqv (sl_shp hs)⟩
  rw [this] at h
  cases h
theorem ck6 (h : Gr SL6 (R5 r0 r1 r2 r3 r4)) (df : Df SL6 (R5 r0 r1 r2 r3 r4)) (hf : m_fault_of_plan (pl SL6 (R5 r0 r1 r2 r3 r4)) = .ret .none) : ckT (.tuple SL6) (pl SL6 (R5 r0 r1 r2 r3 r4)) = .ret (.nx ()) := by
  unfold ckT
  simp only [T.ret_bind, breaks6 h, law_breaks6 h, hf, patterns6 h, orT, notT]
  have hs : SeqAt.shaped (.tuple (bk SL6 (R5 r0 r1 r2 r3 r4))) = true := shp_shaped (shp_tup fun d hd => bk_shp hd) (by decide)
  have he : PyData.eqv (.tuple (bk SL6 (R5 r0 r1 r2 r3 r4))) (.tuple (bk SL6 (R5 r0 r1 r2 r3 r4))) = true := shp_eqv (shp_tup fun d hd => bk_shp hd)
  rw [show neD (.tuple (bk SL6 (R5 r0 r1 r2 r3 r4))) (.tuple (bk SL6 (R5 r0 r1 r2 r3 r4))) = .ret false by unfold neD; rw [hs, he] <;> rfl]
  rw [show nisD .none .none = .ret false from rfl]
  have h4 := bk_len df
  rw [show lenD (.tuple (bk SL6 (R5 r0 r1 r2 r3 r4))) = .ret (.int (bk SL6 (R5 r0 r1 r2 r3 r4)).length) from rfl, show lenD (.tuple SL6) = .ret (.int 6) from rfl]
  have l4 : T.b2 ltD (.ret (.int (bk SL6 (R5 r0 r1 r2 r3 r4)).length)) (T.b2 subD (.ret (.int 6)) (.ret (.int 2))) = .ret false := by
    show T.ret (decide (((bk SL6 (R5 r0 r1 r2 r3 r4)).length : Int) < 6 - 2)) = _
    rw [decide_eq_false (by omega)]
  simp only [T.ret_bind, Bool.false_eq_true, if_false]
  simp only [T.ret_bind] at l4
  rw [l4]
  have mx := bk_max (r0 := r0) (r1 := r1) (r2 := r2) (r3 := r3) (r4 := r4)
  have f1 : lcT (itemsT (.tuple (bk SL6 (R5 r0 r1 r2 r3 r4)))) some (fun row8 => T.ret true) (fun row8 => ixD row8 (.int 0)) = .ret ((bk SL6 (R5 r0 r1 r2 r3 r4)).map fst) :=
    lc_some (by omega) fun d hd => by
      obtain ⟨s, _, i, rfl⟩ := bk_el hd
      rfl
  have sh : SeqAt.shaped (.list ((bk SL6 (R5 r0 r1 r2 r3 r4)).map fst)) = true := shp_shaped (n := 1) (shp_list fun d hd => by
    obtain ⟨x, hx, rfl⟩ := List.mem_map.mp hd
    obtain ⟨s, hs, i, rfl⟩ := bk_el hx
    exact sl_shp hs) (by decide)
  simp only [T.ret_bind, f1, Bool.false_eq_true, if_false]
  rw [show itemsT (.tuple SL6) = .ret SL6 from rfl, lc_cond (c := fun s => !anyD ((bk SL6 (R5 r0 r1 r2 r3 r4)).map fst) s) (by decide) (fun s hs => by
    unfold ninD
    rw [inD_list, shp_shaped (sl_shp hs) (by decide), sh] <;> rfl) fun _ _ => rfl]
  have g2 := sides6 df
  have l2 : T.b2 gtD (.ret (.int (SL6.filter fun s => !anyD ((bk SL6 (R5 r0 r1 r2 r3 r4)).map fst) s).length)) (.ret (.int 2)) = .ret false := by
    show T.ret (decide ((2 : Int) < ((SL6.filter fun s => !anyD ((bk SL6 (R5 r0 r1 r2 r3 r4)).map fst) s).length : Int))) = _
    rw [decide_eq_false (by omega)]
  simp only [T.ret_bind, lenD] at l2 ⊢
  rw [l2]
  have p1 : lcT (itemsT (.tuple (SL6.map fun s => tu s (.tuple (pat (R5 r0 r1 r2 r3 r4) s))))) some (fun row8 => T.ret true) (fun row10 => ixD row10 (.int 1)) = .ret (SL6.map fun s => .tuple (pat (R5 r0 r1 r2 r3 r4) s)) := by
    rw [show itemsT (.tuple (SL6.map fun s => tu s (.tuple (pat (R5 r0 r1 r2 r3 r4) s)))) = .ret (SL6.map fun s => tu s (.tuple (pat (R5 r0 r1 r2 r3 r4) s))) from rfl]
    rfl
  have p2 : lcT (itemsL (.list (SL6.map fun s => .tuple (pat (R5 r0 r1 r2 r3 r4) s)))) some (fun row8 => T.ret true) (fun a => T.ret (.tuple [a, .bool true])) = .ret (SL6.map fun s => tu (.tuple (pat (R5 r0 r1 r2 r3 r4) s)) (.bool true)) := rfl
  simp only [T.ret_bind, Bool.false_eq_true, if_false, p1, p2, dict_len sl6_nd (by decide) df]
  rfl
end
end K55
end T_L7_K55

section T_L8_K55
set_option Elab.async false
set_option linter.all false
set_option maxRecDepth 1000000
set_option maxHeartbeats 1000000
set_option autoImplicit false
namespace DD
open PySem
theorem perm_of {α : Type} : ∀ {l m : List α}, l.Nodup → (∀ a ∈ l, a ∈ m) → m.length = l.length → m.Perm l
  | [], m, _, _, h => by rw [List.eq_nil_of_length_eq_zero h] <;> exact List.Perm.refl _
  | a :: l, m, nd, hs, hl => by
    obtain ⟨n1, n2⟩ := List.nodup_cons.mp nd
    obtain ⟨m1, m2, rfl⟩ := List.append_of_mem (hs a List.mem_cons_self)
    refine List.perm_middle.trans (List.Perm.cons a (perm_of n2 (fun b hb => ?_) ?_))
    · have := hs b (List.mem_cons_of_mem _ hb)
      rcases List.mem_append.mp this with h | h
      · exact List.mem_append_left _ h
      · rcases List.mem_cons.mp h with e | h
        · subst e
          exact absurd hb n1
        · exact List.mem_append_right _ h
    · rw [List.length_append, List.length_cons, List.length_cons] at hl
      rw [List.length_append]
      omega
end DD
namespace K55
open PySem L2 DD
def pq (r : D) : List D := (T.val (pmT r)).getD []
theorem al6_nd : AL6.Nodup := by
  have e : AL6 = [(("ann" : Str), ("bob" : Str)), ("ann", "cid"), ("ann", "dot"), ("ann", "eve"), ("ann", "fay"), ("bob", "cid"), ("bob", "dot"), ("bob", "eve"), ("bob", "fay"), ("cid", "dot"), ("cid", "eve"), ("cid", "fay"), ("dot", "eve"), ("dot", "fay"), ("eve", "fay")].map fun p : Str × Str => tu (.str p.1) (.str p.2) := rfl
  rw [e]
  refine nodup_map (by decide +kernel) fun a _ b _ h => ?_
  cases a
  cases b
  cases h
  rfl
theorem met6 {rs : List D} (hp : ∀ r ∈ rs, pmT r = .ret (pq r)) (hL : (rs.flatMap pq).Perm AL6) : m_pairs_met (.tuple rs) = .ret (.list AL6) := by
  unfold m_pairs_met
  change (((((T.flatM pmT rs).bind fun r => T.chk r.length (T.ret r)).bind fun ds => T.ret (PyData.list ds)).bind sortedD).bind fun ds => T.ret (PyData.list ds)) = T.ret (PyData.list AL6)
  rw [flatM_eq (e := pq) fun r hr => hp r hr, T.ret_bind, T.chk_pos _ (by rw [hL.length_eq]; decide), T.ret_bind]
  show ((T.need (okSort (rs.flatMap pq)) (T.ret (srtD (rs.flatMap pq)))).bind _) = _
  have ok6 : okSort AL6 = true := by decide +kernel
  rw [okSort_perm hL, ok6, srt_any hL (okSort_alike (by rw [okSort_perm hL]; exact ok6)), T.need_true, T.ret_bind, sameL_eq (show sameL (srtD AL6) AL6 = true by decide +kernel)]
theorem sides_ok6 : m_are_sides (.tuple SL6) = .ret (.bool true) := T.is_eq (by decide +kernel)
section
variable {r0 r1 r2 r3 r4 : D}
theorem fault6 (hr : ∀ r ∈ R5 r0 r1 r2 r3 r4, m_is_round r (.tuple SL6) = .ret (.bool true)) (hp : ∀ r ∈ R5 r0 r1 r2 r3 r4, pmT r = .ret (pq r)) (hL : ((R5 r0 r1 r2 r3 r4).flatMap pq).Perm AL6) :
    m_fault_of_plan (pl SL6 (R5 r0 r1 r2 r3 r4)) = .ret .none := by
  unfold m_fault_of_plan
  have a1 : isiD "tuple" (pl SL6 (R5 r0 r1 r2 r3 r4)) = true := rfl
  have a2 : lenD (pl SL6 (R5 r0 r1 r2 r3 r4)) = .ret (.int 3) := rfl
  have a3 : neD (.int 3) (.int 3) = .ret false := rfl
  have a4 : ixD (pl SL6 (R5 r0 r1 r2 r3 r4)) (.int 0) = .ret (.str ("plan" : Str)) := rfl
  have a5 : neD (.str ("plan" : Str)) (.str ("plan" : Str)) = .ret false := T.val_eq (by decide +kernel)
  have a6 : ixD (pl SL6 (R5 r0 r1 r2 r3 r4)) (.int 2) = .ret (.tuple (R5 r0 r1 r2 r3 r4)) := rfl
  have a7 : isiD "tuple" (.tuple (R5 r0 r1 r2 r3 r4)) = true := rfl
  simp only [T.ret_bind, orT, notT, a1, a2, a3, a4, a5, a6, a7, Bool.not_true, Bool.false_eq_true, if_false, tripO, T.opt, Option.bind_some, sides_ok6, truth, itemsT]
  rw [lc_some (e := fun _ => .bool true) (by simp) fun r h => hr r h]
  have b1 : allD (.list ((R5 r0 r1 r2 r3 r4).map fun _ => .bool true)) = .ret true := rfl
  have b2 : T.b2 neD (lenSetD (.list AL6)) (lenD (.list AL6)) = .ret false := T.val_eq (by decide +kernel)
  simp only [T.ret_bind, b1, met6 hp hL, Bool.not_true, Bool.false_eq_true, if_false]
  rw [b2, T.ret_bind, if_neg Bool.false_ne_true]
  have c1 : lenD (.tuple SL6) = .ret (.int 6) := rfl
  have c2 : lenD (.tuple (R5 r0 r1 r2 r3 r4)) = .ret (.int 5) := rfl
  have c3 : lenD (.list AL6) = .ret (.int 15) := rfl
  have c4 : subD (.int 6) (.int 1) = .ret (.int 5) := rfl
  have c5 : modD (.int 6) (.int 2) = .ret (.int 0) := rfl
  have c6 : addD (.int 5) (.int 0) = .ret (.int 5) := rfl
  have c7 : mulD (.int 6) (.int 5) = .ret (.int 30) := T.is_eq (by decide +kernel)
  have c8 : divD (.int 30) (.int 2) = .ret (.int 15) := T.is_eq (by decide +kernel)
  have c9 : neD (.int 15) (.int 15) = .ret false := rfl
  have c10 : neD (.int 5) (.int 5) = .ret false := rfl
  simp only [T.ret_bind, c1, c2, c3, c4, c5, c6, c7, c8, c9, c10, Bool.false_eq_true, if_false]
end
end K55
end T_L8_K55

section T_L9_K55
set_option Elab.async false
set_option linter.all false
set_option maxRecDepth 1000000
set_option maxHeartbeats 0
set_option autoImplicit false
namespace K55
open PySem L2 DD
def isNx : O Unit → Bool
  | .nx _ => true
  | _ => false
theorem all4 : T.all isNx ((m_law_drawn_plan (.tuple SL4)).bind (ckT (.tuple SL4))) 25 = true := by decide +kernel
end K55
end T_L9_K55

section T_L10_K55
set_option Elab.async false
set_option linter.all false
set_option maxRecDepth 1000000
set_option maxHeartbeats 1000000
set_option autoImplicit false
namespace K55
open PySem L2 DD
/-! ### the drawn plan, six sides -/
def Ex (S P : D) (PL : List (List D)) (fin : List D → Bool) : List D → List D → Prop
  | [], met => fin met = true
  | num :: l, met => (chT S P (.list met) num).okc 1 fun rows => ∃ rs, rows = .list rs ∧ rs ∈ PL ∧ Ex S P PL fin l (met ++ rs)
theorem inPL_mem {PL : List (List D)} {rs : List D} (h : (PL.any fun z => sameL z rs) = true) : rs ∈ PL := by
  obtain ⟨z, hz, e⟩ := List.any_eq_true.mp h
  rw [← sameL_eq e]
  exact hz
theorem ex_Ex {S P : D} {PL : List (List D)} {fin : List D → Bool} : ∀ {l met : List D}, ex S P PL fin l met = true → Ex S P PL fin l met
  | [], _, h => h
  | num :: l, met, h => by
    refine T.okc_mono (T.all_okc h) fun rows hr => ?_
    split at hr
    · rename_i rs
      rw [Bool.and_eq_true] at hr
      exact ⟨rs, rfl, inPL_mem hr.1, ex_Ex hr.2⟩
    · cases hr
theorem Ex6 : Ex (.tuple SL6) (LD PL6) PL6 (fin AL6) [.int 0, .int 1, .int 2, .int 3, .int 4] [] :=
  T.okc_mono (T.all_okc first6) fun rows hr => by
    unfold inPL at hr
    split at hr
    · rename_i rs
      have hm := inPL_mem hr
      exact ⟨rs, rfl, hm, ex_Ex (ex6 rs hm)⟩
    · cases hr
theorem turn6 {rs : List D} (h : rs ∈ PL6) : (tnT (.list rs)).okc 3 fun r => rdOK SL6 rs r = true := T.all_okc (List.all_eq_true.mp turns6 rs h)
/-- a turn of the loop -/
def stp (S P num : D) (s : D × List D) : T (D × List D) := nextD.bind fun _ => (chT S P s.1 num).bind fun rows => ((T.b2 catD (T.ret s.1) (T.ret rows)).bind fun ds => T.ret (PyData.list ds)).bind fun met => (tnT rows).bind fun e => T.chk (List.length (α := D) s.2) (T.ret (met, (s.2 ++ [e])))
def Gd (hs : List (List D × D)) : Prop := ∀ p ∈ hs, p.1 ∈ PL6 ∧ rdOK SL6 p.1 p.2 = true
theorem pl6_len {rs : List D} (h : rs ∈ PL6) : rs.length = 3 := of_decide_eq_true (List.all_eq_true.mp (show (PL6.all fun rs => decide (rs.length = 3)) = true by decide +kernel) rs h)
theorem met_len : ∀ {hs : List (List D × D)}, Gd hs → (hs.flatMap (·.1)).length = 3 * hs.length
  | [], _ => rfl
  | p :: hs, h => by
    rw [List.flatMap_cons, List.length_append, pl6_len (h p List.mem_cons_self).1, met_len fun q hq => h q (List.mem_cons_of_mem _ hq), List.length_cons]
    omega
theorem loop6 : ∀ (l : List D) (hs : List (List D × D)), Ex (.tuple SL6) (LD PL6) PL6 (fin AL6) l (hs.flatMap (·.1)) → Gd hs → hs.length + l.length ≤ 5 →
    (T.foldM (stp (.tuple SL6) (LD PL6)) l (.list (hs.flatMap (·.1)), hs.map (·.2))).okc (5 * l.length) fun s => ∃ hs', Gd hs' ∧ hs'.length = hs.length + l.length ∧ fin AL6 (hs'.flatMap (·.1)) = true ∧ s.2 = hs'.map (·.2)
  | [], hs, he, hg, hl => T.okc_ret ⟨hs, hg, rfl, he, rfl⟩
  | num :: l, hs, he, hg, hl => by
    have hl' : hs.length + (l.length + 1) ≤ 5 := hl
    rw [List.length_cons, Nat.mul_add, Nat.mul_one]
    refine T.okc_bind (Q := fun s => ∃ p : List D × D, p.1 ∈ PL6 ∧ rdOK SL6 p.1 p.2 = true ∧ Ex (.tuple SL6) (LD PL6) PL6 (fin AL6) l (hs.flatMap (·.1) ++ p.1) ∧ s = (.list (hs.flatMap (·.1) ++ p.1), hs.map (·.2) ++ [p.2])) ?_ ?_
    · refine T.okc_next (c := 4) ?_
      refine T.okc_bind (c' := 3) he fun rows hr => ?_
      obtain ⟨rs, rfl, h1, h2⟩ := hr
      rw [show T.b2 catD (T.ret (.list (hs.flatMap (·.1)))) (T.ret (.list rs)) = .ret (hs.flatMap (·.1) ++ rs) from T.chk_pos _ (by rw [met_len hg, pl6_len h1]; omega)]
      rw [T.ret_bind, T.ret_bind]
      refine T.okc_bind (c' := 0) (turn6 h1) fun r hr => ?_
      rw [T.chk_pos _ (by rw [List.length_map]; omega)]
      exact T.okc_ret ⟨(rs, r), h1, hr, h2, rfl⟩
    · rintro s ⟨p, h1, h2, h3, rfl⟩
      have e1 : hs.flatMap (·.1) ++ p.1 = (hs ++ [p]).flatMap (·.1) := by rw [List.flatMap_append, List.flatMap_cons, List.flatMap_nil, List.append_nil]
      have e2 : hs.map (·.2) ++ [p.2] = (hs ++ [p]).map (·.2) := by rw [List.map_append, List.map_cons, List.map_nil]
      rw [e1, e2]
      rw [e1] at h3
      refine T.okc_mono (loop6 l (hs ++ [p]) h3 (fun q hq => ?_) (by rw [List.length_append, List.length_singleton]; omega)) fun s ⟨hs', g1, g2, g3, g4⟩ => ⟨hs', g1, by rw [g2, List.length_append, List.length_singleton]; omega, g3, g4⟩
      rcases List.mem_append.mp hq with h | h
      · exact hg q h
      · rw [List.mem_singleton.mp h]
        exact ⟨h1, h2⟩
theorem range5 : range1 (.int 5) = .ret [.int 0, .int 1, .int 2, .int 3, .int 4] := isL_eq (by decide +kernel)
theorem plan_eq : m_law_drawn_plan (.tuple SL6) = (T.foldM (stp (.tuple SL6) (LD PL6)) [.int 0, .int 1, .int 2, .int 3, .int 4] (.list [], [])).bind fun s4 => T.ret (pl SL6 s4.2) := by
  unfold m_law_drawn_plan
  rw [T.ret_bind, pair6, T.ret_bind, T.ret_bind, T.ret_bind, T.ret_bind]
  rw [show T.b2 subD ((T.ret (.tuple SL6)).bind lenD) (T.ret (.int 1)) = .ret (.int 5) from rfl, T.ret_bind, range5, T.ret_bind]
  have e : (fun d (s4 : D × List D) => stp (.tuple SL6) (LD PL6) d s4) = stp (.tuple SL6) (LD PL6) := rfl
  rw [← e]
  simp only [stp, chT, tnT, T.bind_assoc, T.opt, T.ret_bind]
  rfl
theorem plan6 : (m_law_drawn_plan (.tuple SL6)).okc 25 fun told => ∃ hs', Gd hs' ∧ hs'.length = 5 ∧ fin AL6 (hs'.flatMap (·.1)) = true ∧ told = pl SL6 (hs'.map (·.2)) := by
  rw [plan_eq]
  refine T.okc_bind (c' := 0) (loop6 [.int 0, .int 1, .int 2, .int 3, .int 4] [] Ex6 (fun p hp => nomatch hp) (by decide)) fun s ⟨hs', h1, h2, h3, h4⟩ => ?_
  exact T.okc_ret ⟨hs', h1, h2, h3, by rw [h4]⟩
end K55
end T_L10_K55

section T_L_K55
set_option Elab.async false
set_option linter.all false
set_option maxRecDepth 1000000
set_option maxHeartbeats 1000000
set_option autoImplicit false
namespace K55
open PySem L2 DD
theorem isNx_eq {o : O Unit} (h : isNx o = true) : o = .nx () := by
  cases o <;> first | rfl | cases h
theorem rd_parts {rows : List D} {r : D} (h : rdOK SL6 rows r = true) : m_is_round r (.tuple SL6) = .ret (.bool true) ∧ (∀ s ∈ SL6, m_ground r s = .ret (gd (hm r s)) ∧ m_law_ground r s = .ret (gd (hm r s))) ∧
    (∀ a b, tu a b ∈ rows → hm r a ≠ hm r b) ∧ pmT r = .ret (pq r) ∧ (pq r).Perm rows := by
  unfold rdOK at h
  simp only [Bool.and_eq_true, List.all_eq_true] at h
  obtain ⟨⟨⟨h1, h2⟩, h3⟩, h4⟩ := h
  refine ⟨T.is_eq h1, fun s hs => ⟨T.is_eq (h2 s hs).1, T.is_eq (h2 s hs).2⟩, fun a b hm' e => ?_, ?_⟩
  · have := h3 _ hm'
    simp only [bne_iff_ne, ne_eq] at this
    exact this e
  · split at h4
    · rename_i q hq
      have e : pq r = q := by unfold pq; rw [hq] <;> rfl
      rw [e]
      refine ⟨T.val_eq hq, ?_⟩
      have p := srt_perm q
      rw [sameL_eq h4] at p
      exact p.symm
    · cases h4
theorem pairs_all : (SL6.all fun s => SL6.all fun t => sameD s t || (AL6.any fun z => sameD z (tu s t)) || AL6.any fun z => sameD z (tu t s)) = true := by decide +kernel
theorem pair_of {s t : D} (hs : s ∈ SL6) (ht : t ∈ SL6) : s = t ∨ tu s t ∈ AL6 ∨ tu t s ∈ AL6 := by
  have h := List.all_eq_true.mp (List.all_eq_true.mp pairs_all s hs) t ht
  simp only [Bool.or_eq_true, List.any_eq_true] at h
  rcases h with (h | ⟨z, hz, e⟩) | ⟨z, hz, e⟩
  · exact .inl (sameD_eq h)
  · exact .inr (.inl (sameD_eq e ▸ hz))
  · exact .inr (.inr (sameD_eq e ▸ hz))
theorem fin_perm {met : List D} (h : fin AL6 met = true) : met.Perm AL6 := by
  unfold fin at h
  simp only [Bool.and_eq_true, decide_eq_true_eq, List.all_eq_true, List.any_eq_true] at h
  refine perm_of al6_nd (fun a ha => ?_) h.1
  obtain ⟨z, hz, e⟩ := h.2 a ha
  exact sameD_eq e ▸ hz
theorem flat_perm : ∀ {hs : List (List D × D)}, Gd hs → ((hs.map (·.2)).flatMap pq).Perm (hs.flatMap (·.1))
  | [], _ => List.Perm.refl _
  | p :: hs, h => by
    rw [List.map_cons, List.flatMap_cons, List.flatMap_cons]
    exact List.Perm.append (rd_parts (h p List.mem_cons_self).2).2.2.2.2 (flat_perm fun q hq => h q (List.mem_cons_of_mem _ hq))
theorem bits_ne {rs : List D} {s t r : D} (hr : r ∈ rs) (n : hm r s ≠ hm r t) : bits rs s ≠ bits rs t := fun e => by
  unfold bits at e
  exact n (List.map_inj_left.mp e r hr)
theorem good6 {hs : List (List D × D)} (hg : Gd hs) (hl : hs.length = 5) (hf : fin AL6 (hs.flatMap (·.1)) = true) : ckT (.tuple SL6) (pl SL6 (hs.map (·.2))) = .ret (.nx ()) := by
  have pm := fin_perm hf
  have fp := flat_perm hg
  have df : Df SL6 (hs.map (·.2)) := fun s hs' t ht e => by
    rcases pair_of hs' ht with h | h | h
    · exact h
    · obtain ⟨p, hp, hm'⟩ := List.mem_flatMap.mp (pm.mem_iff.mpr h)
      exact absurd e (bits_ne (List.mem_map.mpr ⟨p, hp, rfl⟩) ((rd_parts (hg p hp).2).2.2.1 _ _ hm'))
    · obtain ⟨p, hp, hm'⟩ := List.mem_flatMap.mp (pm.mem_iff.mpr h)
      exact absurd e.symm (bits_ne (List.mem_map.mpr ⟨p, hp, rfl⟩) ((rd_parts (hg p hp).2).2.2.1 _ _ hm'))
  have gr : Gr SL6 (hs.map (·.2)) := fun r hr s hs' => by
    obtain ⟨p, hp, rfl⟩ := List.mem_map.mp hr
    exact (rd_parts (hg p hp).2).2.1 s hs'
  have h1 : ∀ r ∈ hs.map (·.2), m_is_round r (.tuple SL6) = .ret (.bool true) := fun r hr => by
    obtain ⟨p, hp, rfl⟩ := List.mem_map.mp hr
    exact (rd_parts (hg p hp).2).1
  have h2 : ∀ r ∈ hs.map (·.2), pmT r = .ret (pq r) := fun r hr => by
    obtain ⟨p, hp, rfl⟩ := List.mem_map.mp hr
    exact (rd_parts (hg p hp).2).2.2.2.1
  have h3 : ((hs.map (·.2)).flatMap pq).Perm AL6 := fp.trans pm
  match hs, hl, gr, df, h1, h2, h3 with
  | [p0, p1, p2, p3, p4], _, gr, df, h1, h2, h3 => exact ck6 gr df (fault6 h1 h2 h3)
theorem turn_ok {sides : D} (h : sides = .tuple SL4 ∨ sides = .tuple SL6) : ((m_law_drawn_plan sides).bind fun told5 => ckT sides told5).okc 25 fun o => o = .nx () := by
  rcases h with rfl | rfl
  · exact T.okc_mono (T.all_okc all4) fun o h => isNx_eq h
  · refine T.okc_bind (c' := 0) plan6 fun told ⟨hs, h1, h2, h3, e⟩ => ?_
    rw [e, good6 h1 h2 h3]
    exact T.okc_ret rfl
def sdT : T D := (T.b2 ixD (((T.ret (PyData.int 4)).bind fun a => (T.ret (.int 6)).bind fun b => T.ret [a, b]).bind fun ds => T.ret (.list ds)) ((T.ret (.int 2)).bind drawD)).bind m_law_sides
theorem sd_ok : sdT.okc 1 fun sides => sides = .tuple SL4 ∨ sides = .tuple SL6 :=
  T.okc_mono (T.all_okc (p := fun d => sameD d (.tuple SL4) || sameD d (.tuple SL6)) (by decide +kernel)) fun d h => (Bool.or_eq_true_iff.mp h).imp sameD_eq sameD_eq
def trn (d : D) (s : Unit) : T (O Unit) := nextD.bind fun _ => sdT.bind fun sides4 => (m_law_drawn_plan sides4).bind fun told5 => ckT sides4 told5
theorem trn_ok (d : D) (s : Unit) : (trn d s).okc 27 fun o => o = .nx () :=
  T.okc_next (c := 26) (T.okc_bind (c' := 25) sd_ok fun sides h => turn_ok h)
theorem loop_ok : ∀ l : List D, (T.loopM trn l ()).okc (27 * l.length) fun o => o = .nx ()
  | [] => T.okc_ret rfl
  | d :: l => by
    rw [List.length_cons, Nat.mul_add, Nat.mul_one]
    refine T.okc_bind (c' := 27 * l.length) (trn_ok d ()) fun o h => ?_
    subst h
    exact loop_ok l
theorem range3 : range1 (.int 3) = .ret [.int 0, .int 1, .int 2] := isL_eq (by decide +kernel)
theorem law_eq : m_law = (T.loopM trn [.int 0, .int 1, .int 2] ()).bind (endO (fun _ => (T.ret (.bool true))) (fun d => d)) := by
  unfold m_law
  rw [T.ret_bind, range3, T.ret_bind]
  rfl
theorem law_true : m_law.ok 1000000 fun d _ => d = .bool true := by
  rw [law_eq]
  have h : ((T.loopM trn [.int 0, .int 1, .int 2] ()).bind (endO (fun _ => (T.ret (PyData.bool true))) (fun d => d))).okc 81 fun d => d = .bool true :=
    T.okc_bind (c' := 0) (loop_ok [.int 0, .int 1, .int 2]) fun o e => by
      subst e
      exact T.okc_ret rfl
  exact T.ok_mono (h 999919) fun d g z => z.1
end K55
end T_L_K55

section T_V_K55
set_option Elab.async false
set_option linter.all false
set_option maxRecDepth 100000
set_option maxHeartbeats 4000000
set_option autoImplicit false
namespace K55
open PySem PySem.Spec L2 DD
open PyProof.Rows hiding St
section
variable {P : Program} {w : World} {K : PySem.W.Frag} {mg : Str → Option Value} {base : Heap}
/-! ### _law_pool -/
abbrev s_law_pool : Stmt := top 16
def N_law_pool : List Str := [("script" : Str)]
theorem sc_law_pool : FnScope N_law_pool [("script" : Str)] (defScope s_law_pool) := ⟨rfl, rfl, rfl, by decide +kernel, rfl, by decide +kernel, by decide +kernel⟩
theorem ok_law_pool {f : Addr} {fd : FuncData} (F : Fun K "_law_pool" "_law_pool" s_law_pool f fd) (R : Fd P w K mg 2 ("_law_rest" : Str) (spRest K)) : FnOk P w K mg base CX0 3 f fd [("script" : Str)] (spPool K) := by
  obtain ⟨fr, fdr, psr, hm, hk, hb, R⟩ := R.ex
  refine F.ok sc_law_pool (fun vs H Q E ⟨sc, ns, e, _⟩ => by rw [e] <;> rfl) (fun cdv A outer s H vs Q E hr ⟨sc, ns, e, hS, hs, hq⟩ => ?_)
  subst e
  refine ⟨_, pss_one (ps_ret (pe_lst (pa_cons (pv 0) (pa_cons pe_int (pa_cons (pe_call (R _) hr rfl hm hk hb .nil pass0 (pa_cons (pv 0) (pa_cons pe_int (pa_cons pe_int pa_nil)))) (pa_cons pe_int pa_nil)))))), ?_⟩
  refine ⟨_, rfl, _, rfl, sc, ns, 0, 0, rfl, hS, hs, by decide, by decide, by decide, by decide, fun r H' hr0 hs' => ?_⟩
  exact ⟨Nat.le_of_lt (small1000 (show 4 ≤ 1000 by decide)), fun l hl => hq l r _ hr0 (hs'.trans (same_upd hl)) (hs'.free hl) upd_same⟩
/-! ### _law_next -/
abbrev s_law_next : Stmt := top 17
def N_law_next : List Str := [("pool" : Str)]
theorem sc_law_next : FnScope N_law_next [("pool" : Str)] (defScope s_law_next) := ⟨rfl, rfl, rfl, by decide +kernel, rfl, by decide +kernel, by decide +kernel⟩
theorem ok_law_next {f : Addr} {fd : FuncData} (F : Fun K "_law_next" "_law_next" s_law_next f fd) (R : Fd P w K mg 2 ("_law_rest" : Str) (spRest K)) : FnOk P w K mg base CX0 3 f fd [("pool" : Str)] (spP K 0 (ar0 nextD)) := by
  obtain ⟨fr, fdr, psr, hm, hk, hb, R⟩ := R.ex
  refine F.ok sc_law_next (fun vs H Q E ⟨a, vs', Hb, g, ds, e, _, h1, h2, _⟩ => by rw [e, List.length_cons, DnAll.len h1, h2] <;> rfl) (fun cdv A outer s H vs Q E hr ⟨a, vs', Hb, g, ds, e, ok0, h1, h2, h3⟩ => ?_)
  cases h1 with
  | cons _ _ => cases h2
  | nil =>
  subst e
  obtain ⟨g', rfl, h3⟩ := h3
  obtain ⟨nb, sc, ns, pl, r, fl, hp, hS, hs1, hs2, p0, p1, f0, f1, r0⟩ := ok0.pool a rfl
  have hS' := ok0.sub.seq hS
  have m0 : Md a Hb H H [.ref sc, .int pl, .int r, .int fl] := ⟨ok0.sub, fun _ _ _ h => h, hp⟩
  refine ⟨_, pss_cons (ps_asg (pe_op op_add (pe_ix ix_list (pv 0) pe_int fun _ _ => rfl) pe_int) (pg_sub (pv 0) pe_int set_list fun _ => rfl))
    (pss_cons (ps_asg (pe_call (R _) hr rfl hm hk hb .nil pass0 (pa_cons (pe_ix ix_list (pv 0) pe_int fun _ _ => rfl) (pa_cons (pe_ix ix_list (pv 0) pe_int fun _ _ => rfl) (pa_cons pe_int pa_nil)))) (pg_sub (pv 0) pe_int set_list fun _ => rfl))
    (pss_one (ps_asg pe_int (pg_sub (pv 0) pe_int set_list fun _ => rfl)))), ?_⟩
  refine ⟨_, rfl, a, _, 1, _, rfl, rfl, SqL.of m0.pool, rfl, pl, 1, rfl, rfl, _, rfl, a, _, 1, 1, rfl, rfl, m0.pool, rfl, ?_⟩
  have m1 := m0.set nb [.ref sc, .int (pl + 1), .int r, .int fl]
  refine ⟨_, rfl, a, _, 0, _, rfl, rfl, SqL.of m1.pool, rfl, _, rfl, a, _, 1, _, rfl, rfl, SqL.of m1.pool, rfl, sc, ns, pl + 1, 0, rfl, m1.sub.seq hS, ⟨hs1, hs2⟩, by omega, by omega, by decide, by decide, fun r' H1 hr' s1 => ?_⟩
  have m2 := m1.same s1
  refine ⟨_, rfl, a, _, 2, 2, rfl, rfl, m2.pool, rfl, ?_⟩
  have m3 := m2.set nb [.ref sc, .int (pl + 1), .int r', .int fl]
  refine ⟨_, rfl, a, _, 3, 3, rfl, rfl, m3.pool, rfl, ?_⟩
  have m4 := m3.set nb [.ref sc, .int (pl + 1), .int r', .int 0]
  exact h3 _ Hb _ m4.step (m4.ok nb hS hs1 hs2 (by omega) (by omega) (by decide) (by omega) hr') .non
/-! ### _law_draw -/
abbrev s_law_draw : Stmt := top 18
def N_law_draw : List Str := [("pool" : Str), ("limit" : Str), ("value" : Str)]
theorem sc_law_draw : FnScope N_law_draw [("pool" : Str), ("limit" : Str)] (defScope s_law_draw) := ⟨rfl, rfl, rfl, by decide +kernel, rfl, by decide +kernel, by decide +kernel⟩
theorem ok_law_draw {f : Addr} {fd : FuncData} (F : Fun K "_law_draw" "_law_draw" s_law_draw f fd) (hint : mg "int" = none) (R : Fd P w K mg 2 ("_law_rest" : Str) (spRest K)) : FnOk P w K mg base CX0 3 f fd [("pool" : Str), ("limit" : Str)] (spP K 1 (ar1 drawD)) := by
  obtain ⟨fr, fdr, psr, hm, hk, hb, R⟩ := R.ex
  refine F.ok sc_law_draw (fun vs H Q E ⟨a, vs', Hb, g, ds, e, _, h1, h2, _⟩ => by rw [e, List.length_cons, DnAll.len h1, h2] <;> rfl) (fun cdv A outer s H vs Q E hr ⟨a, vs', Hb, g, ds, e, ok0, h1, h2, h3⟩ => ?_)
  obtain ⟨v, d, rfl, rfl, hd, h3⟩ := one_of (H := H) (m := drawD) (C := PD K (some a) Hb H Q) h1 (by cases ds with | nil => cases h2 | cons d ds => cases ds with | nil => exact h3 | cons _ _ => cases h2)
  subst e
  cases hd with
  | int n =>
    obtain ⟨hn, c3⟩ := T.ok_need h3
    rw [Bool.and_eq_true, decide_eq_true_eq, decide_eq_true_eq] at hn
    obtain ⟨n0, n1, g', rfl, c3⟩ := c3
    obtain ⟨nb, sc, ns, pl, r, fl, hp, hS, hs1, hs2, p0, p1, f0, f1, r0⟩ := ok0.pool a rfl
    have m0 : Md a Hb H H [.ref sc, .int pl, .int r, .int fl] := ⟨ok0.sub, fun _ _ _ h => h, hp⟩
    have hN : N_law_draw.Nodup := by decide +kernel
    refine ⟨_, pss_cons (ps_if (pt_cmpR op_le (pe_ix ix_list (pv 0) pe_int fun _ _ => rfl) pe_int (nomark _)) (pss_cons (ps_asg (pe_op op_add (pe_ix ix_list (pv 0) pe_int fun _ _ => rfl) pe_int) (pg_sub (pv 0) pe_int set_list fun _ => rfl))
      (pss_one (ps_asg (pe_call (R _) hr rfl hm hk hb .nil pass0 (pa_cons (pe_ix ix_list (pv 0) pe_int fun _ _ => rfl) (pa_cons (pe_ix ix_list (pv 0) pe_int fun _ _ => rfl) (pa_cons (pe_ix ix_list (pv 0) pe_int fun _ _ => rfl) pa_nil)))) (pg_sub (pv 0) pe_int set_list fun _ => rfl)))) pss_nil)
      (pss_cons (ps_set (i := 2) hN rfl (.inl rfl) (pe_op op_mod (pe_callTy call_int1 rfl hint boot_int (pa_cons (pe_ix ix_list (pv 0) pe_int fun _ _ => rfl) pa_nil)) (pv 1)))
      (pss_cons (ps_asg (pe_op op_fdiv (pe_callTy call_int1 rfl hint boot_int (pa_cons (pe_ix ix_list (pv 0) pe_int fun _ _ => rfl) pa_nil)) (pv 1)) (pg_sub (pv 0) pe_int set_list fun _ => rfl))
      (pss_one (ps_ret (pv 2))))), ?_⟩
    have fin : ∀ (H1 : Hp) (r1 q1 fl1 : Int), Md a Hb H H1 [.ref sc, .int pl, .int q1, .int fl1] → 0 ≤ r1 → 0 ≤ q1 → 0 ≤ fl1 → fl1 + g' ≤ 2 ^ 60 → Q (.int (r1 % n)) H1 := fun H1 r1 q1 fl1 m h1 h2 h3' h4 => by
      have e1 := Int.emod_nonneg r1 (show n ≠ 0 by omega)
      have e2 := Int.emod_lt_of_pos r1 hn.1
      have k := c3 (r1 % n).toNat (by omega) (.int (r1 % n)) Hb H1 m.step (m.ok nb hS hs1 hs2 p0 (by omega) h3' h4 h2)
      rw [Int.toNat_of_nonneg e1] at k
      exact k (.int _)
    refine ⟨_, rfl, a, _, 2, _, rfl, rfl, SqL.of m0.pool, rfl, _, _, rfl, rfl, _, rfl, ?_⟩
    refine ite2 (fun _ => ?_) (fun _ => ?_)
    · refine ⟨_, rfl, a, _, 3, _, rfl, rfl, SqL.of m0.pool, rfl, fl, 1, rfl, rfl, _, rfl, a, _, 3, 3, rfl, rfl, m0.pool, rfl, ?_⟩
      have m1 := m0.set nb [.ref sc, .int pl, .int r, .int (fl + 1)]
      refine ⟨_, rfl, a, _, 0, _, rfl, rfl, SqL.of m1.pool, rfl, _, rfl, a, _, 1, _, rfl, rfl, SqL.of m1.pool, rfl, _, rfl, a, _, 3, _, rfl, rfl, SqL.of m1.pool, rfl, sc, ns, pl, fl + 1, rfl, m1.sub.seq hS, ⟨hs1, hs2⟩, by omega, by omega, by omega, by omega, fun r' H1 hr' s1 => ?_⟩
      have m2 := m1.same s1
      refine ⟨_, rfl, a, _, 2, 2, rfl, rfl, m2.pool, rfl, ?_⟩
      have m3 := m2.set nb [.ref sc, .int pl, .int r', .int (fl + 1)]
      refine ⟨_, rfl, a, _, 2, _, rfl, rfl, SqL.of m3.pool, rfl, .inl ⟨r', rfl, _, rfl, r', n, rfl, rfl, hn.1, ?_⟩⟩
      refine ⟨_, rfl, a, _, 2, _, rfl, rfl, SqL.of m3.pool, rfl, .inl ⟨r', rfl, _, rfl, r', n, rfl, rfl, hn, _, rfl, a, _, 2, 2, rfl, rfl, m3.pool, rfl, ?_⟩⟩
      have m4 := m3.set nb [.ref sc, .int pl, .int (r' / n), .int (fl + 1)]
      exact ⟨_, rfl, fin _ r' (r' / n) (fl + 1) m4 hr' (Int.ediv_nonneg hr' (by omega)) (by omega) (by omega)⟩
    · refine ⟨_, rfl, a, _, 2, _, rfl, rfl, SqL.of m0.pool, rfl, .inl ⟨r, rfl, _, rfl, r, n, rfl, rfl, hn.1, ?_⟩⟩
      refine ⟨_, rfl, a, _, 2, _, rfl, rfl, SqL.of m0.pool, rfl, .inl ⟨r, rfl, _, rfl, r, n, rfl, rfl, hn, _, rfl, a, _, 2, 2, rfl, rfl, m0.pool, rfl, ?_⟩⟩
      have m4 := m0.set nb [.ref sc, .int pl, .int (r / n), .int fl]
      exact ⟨_, rfl, fin _ r (r / n) fl m4 r0 (Int.ediv_nonneg r0 (by omega)) f0 (by omega)⟩
  | _ => exact h3.elim
end

section
variable {P : Program} {w : World} {K : PySem.W.Frag} {mg : Str → Option Value} {base : Heap}
theorem ok_law {f : Addr} {fd : FuncData} (F : Fun K "law" "law" s_law f fd) (G : Gs K mg) (FP : Fd P w K mg 3 ("_law_pool" : Str) (spPool K)) (F_law_breaks : Fd P w K mg 2 ("_law_breaks" : Str) (spI K 1 (ar1 m_law_breaks))) (F_law_draw : Fd P w K mg 3 ("_law_draw" : Str) (spP K 1 (ar1 drawD))) (F_law_drawn_plan : Fd P w K mg 5 ("_law_drawn_plan" : Str) (spP K 1 (ar1 m_law_drawn_plan))) (F_law_next : Fd P w K mg 3 ("_law_next" : Str) (spP K 0 (ar0 nextD))) (F_law_sides : Fd P w K mg 1 ("_law_sides" : Str) (spI K 1 (ar1 m_law_sides))) (Fbreaks : Fd P w K mg 2 ("breaks" : Str) (spI K 1 (ar1 m_breaks))) (Ffault_of_plan : Fd P w K mg 3 ("fault_of_plan" : Str) (spI K 1 (ar1 m_fault_of_plan))) (Fpatterns : Fd P w K mg 2 ("patterns" : Str) (spI K 1 (ar1 m_patterns))) : FnOk P w K mg base CX0 6 f fd [("script" : Str)] (spLaw K) := by
  obtain ⟨fr, fdr, psr, hm, hk, hb, R⟩ := FP.ex
  have hN : N_law.Nodup := by decide +kernel
  refine F.ok sc_law (fun vs H Q E ⟨sc, ns, e, _⟩ => by rw [e] <;> rfl) (fun cdv A outer s H vs Q E hr ⟨sc, ns, e, hS, hs, hq⟩ => ?_)
  subst e
  refine ⟨_, pss_cons (ps_set (i := 1) hN rfl (.inl rfl) (pe_call (R _) (hr.mono (by decide)) rfl hm hk hb .nil pass0 (pa_cons (pv 0) pa_nil))) (pss_w (X := bodyX P w K mg (A.deeper (envOfC "law" (defScope s_law) s.heap.objs.size f cdv)) N_law s_law)
    (z := ⟨base, s, H, envOfC "law" (defScope s_law) s.heap.objs.size f cdv, outer, envOfC "law" (defScope s_law) s.heap.objs.size f cdv :: outer, [], [], rfl⟩)), ?_⟩
  refine ⟨_, rfl, sc, ns, rfl, hS, hs, fun p r H1 hr0 s1 hn hp => ?_⟩
  refine d_law G F_law_breaks F_law_draw F_law_drawn_plan F_law_next F_law_sides Fbreaks Ffault_of_plan Fpatterns _ p hr _ H H1 1000000 { nx := fun _ H' => Q .non H', rt := Q } ⟨s1, fun a e => ?_⟩ ?_ (T.ok_mono law_true fun d g' hd => ?_)
  · cases e
    exact ⟨hn, sc, ns, 0, r, 0, hp, hS, hs.1, hs.2, by decide, by decide, by decide, by decide, hr0⟩
  · exact pool_sls (i := 1) (n := 9) (N := N_law) rfl (by decide) (by decide)
  · subst hd
    intro v Hb2 H2 _ _ dv
    cases dv
    exact hq H2
end

theorem all_mk {l : PySem.W.OpenLaw} {w : World} {K : PySem.W.Frag} {h : Heap} {mg : Str → Option Value} {fa : Addr} (X : K.In h) (G : h.Ns mainGlobals mg) (hfa : mg "law" = some (.ref fa))
    {f0 : Addr} {od0 an0 : Option Addr} {sl0 : Array (Option Value)} {oc0 kV0 dc0 pm0 cd0 ct0 : Value}
    {f1 : Addr} {od1 an1 : Option Addr} {sl1 : Array (Option Value)} {oc1 kV1 dc1 pm1 cd1 ct1 : Value}
    {f2 : Addr} {od2 an2 : Option Addr} {sl2 : Array (Option Value)} {oc2 kV2 dc2 pm2 cd2 ct2 : Value}
    {f3 : Addr} {od3 an3 : Option Addr} {sl3 : Array (Option Value)} {oc3 kV3 dc3 pm3 cd3 ct3 : Value}
    {f4 : Addr} {od4 an4 : Option Addr} {sl4 : Array (Option Value)} {oc4 kV4 dc4 pm4 cd4 ct4 : Value}
    {f5 : Addr} {od5 an5 : Option Addr} {sl5 : Array (Option Value)} {oc5 kV5 dc5 pm5 cd5 ct5 : Value}
    {f6 : Addr} {od6 an6 : Option Addr} {sl6 : Array (Option Value)} {oc6 kV6 dc6 pm6 cd6 ct6 : Value}
    {f7 : Addr} {od7 an7 : Option Addr} {sl7 : Array (Option Value)} {oc7 kV7 dc7 pm7 cd7 ct7 : Value}
    {f8 : Addr} {od8 an8 : Option Addr} {sl8 : Array (Option Value)} {oc8 kV8 dc8 pm8 cd8 ct8 : Value}
    {f9 : Addr} {od9 an9 : Option Addr} {sl9 : Array (Option Value)} {oc9 kV9 dc9 pm9 cd9 ct9 : Value}
    {f10 : Addr} {od10 an10 : Option Addr} {sl10 : Array (Option Value)} {oc10 kV10 dc10 pm10 cd10 ct10 : Value}
    {f11 : Addr} {od11 an11 : Option Addr} {sl11 : Array (Option Value)} {oc11 kV11 dc11 pm11 cd11 ct11 : Value}
    {f12 : Addr} {od12 an12 : Option Addr} {sl12 : Array (Option Value)} {oc12 kV12 dc12 pm12 cd12 ct12 : Value}
    {f13 : Addr} {od13 an13 : Option Addr} {sl13 : Array (Option Value)} {oc13 kV13 dc13 pm13 cd13 ct13 : Value}
    {f14 : Addr} {od14 an14 : Option Addr} {sl14 : Array (Option Value)} {oc14 kV14 dc14 pm14 cd14 ct14 : Value}
    {f15 : Addr} {od15 an15 : Option Addr} {sl15 : Array (Option Value)} {oc15 kV15 dc15 pm15 cd15 ct15 : Value}
    {f16 : Addr} {od16 an16 : Option Addr} {sl16 : Array (Option Value)} {oc16 kV16 dc16 pm16 cd16 ct16 : Value}
    {f17 : Addr} {od17 an17 : Option Addr} {sl17 : Array (Option Value)} {oc17 kV17 dc17 pm17 cd17 ct17 : Value}
    {f18 : Addr} {od18 an18 : Option Addr} {sl18 : Array (Option Value)} {oc18 kV18 dc18 pm18 cd18 ct18 : Value}
    {f19 : Addr} {od19 an19 : Option Addr} {sl19 : Array (Option Value)} {oc19 kV19 dc19 pm19 cd19 ct19 : Value}
    {f20 : Addr} {od20 an20 : Option Addr} {sl20 : Array (Option Value)} {oc20 kV20 dc20 pm20 cd20 ct20 : Value}
    (a0 : PySem.W.nsIn K mainGlobals ("is_word" : Str) = some (some (.ref f0)))
    (l0 : K.lookup f0 = some ⟨oc0, od0, .func (PySem.W.fnOf ("is_word" : Str) ("is_word" : Str) (defArgs s_is_word) (defBody s_is_word) (defScope s_is_word) .none kV0 dc0 pm0 an0 cd0 ct0), sl0⟩)
    (c0 : PySem.W.codeIn K cd0 ("is_word" : Str) = true)
    (k0 : PySem.W.keepIn K (.ref f0) = true)
    (a1 : PySem.W.nsIn K mainGlobals ("are_sides" : Str) = some (some (.ref f1)))
    (l1 : K.lookup f1 = some ⟨oc1, od1, .func (PySem.W.fnOf ("are_sides" : Str) ("are_sides" : Str) (defArgs s_are_sides) (defBody s_are_sides) (defScope s_are_sides) .none kV1 dc1 pm1 an1 cd1 ct1), sl1⟩)
    (c1 : PySem.W.codeIn K cd1 ("are_sides" : Str) = true)
    (k1 : PySem.W.keepIn K (.ref f1) = true)
    (a2 : PySem.W.nsIn K mainGlobals ("is_round" : Str) = some (some (.ref f2)))
    (l2 : K.lookup f2 = some ⟨oc2, od2, .func (PySem.W.fnOf ("is_round" : Str) ("is_round" : Str) (defArgs s_is_round) (defBody s_is_round) (defScope s_is_round) .none kV2 dc2 pm2 an2 cd2 ct2), sl2⟩)
    (c2 : PySem.W.codeIn K cd2 ("is_round" : Str) = true)
    (k2 : PySem.W.keepIn K (.ref f2) = true)
    (a3 : PySem.W.nsIn K mainGlobals ("pairs_met" : Str) = some (some (.ref f3)))
    (l3 : K.lookup f3 = some ⟨oc3, od3, .func (PySem.W.fnOf ("pairs_met" : Str) ("pairs_met" : Str) (defArgs s_pairs_met) (defBody s_pairs_met) (defScope s_pairs_met) .none kV3 dc3 pm3 an3 cd3 ct3), sl3⟩)
    (c3 : PySem.W.codeIn K cd3 ("pairs_met" : Str) = true)
    (k3 : PySem.W.keepIn K (.ref f3) = true)
    (a4 : PySem.W.nsIn K mainGlobals ("fault_of_plan" : Str) = some (some (.ref f4)))
    (l4 : K.lookup f4 = some ⟨oc4, od4, .func (PySem.W.fnOf ("fault_of_plan" : Str) ("fault_of_plan" : Str) (defArgs s_fault_of_plan) (defBody s_fault_of_plan) (defScope s_fault_of_plan) .none kV4 dc4 pm4 an4 cd4 ct4), sl4⟩)
    (c4 : PySem.W.codeIn K cd4 ("fault_of_plan" : Str) = true)
    (k4 : PySem.W.keepIn K (.ref f4) = true)
    (a5 : PySem.W.nsIn K mainGlobals ("ground" : Str) = some (some (.ref f5)))
    (l5 : K.lookup f5 = some ⟨oc5, od5, .func (PySem.W.fnOf ("ground" : Str) ("ground" : Str) (defArgs s_ground) (defBody s_ground) (defScope s_ground) .none kV5 dc5 pm5 an5 cd5 ct5), sl5⟩)
    (c5 : PySem.W.codeIn K cd5 ("ground" : Str) = true)
    (k5 : PySem.W.keepIn K (.ref f5) = true)
    (a6 : PySem.W.nsIn K mainGlobals ("breaks" : Str) = some (some (.ref f6)))
    (l6 : K.lookup f6 = some ⟨oc6, od6, .func (PySem.W.fnOf ("breaks" : Str) ("breaks" : Str) (defArgs s_breaks) (defBody s_breaks) (defScope s_breaks) .none kV6 dc6 pm6 an6 cd6 ct6), sl6⟩)
    (c6 : PySem.W.codeIn K cd6 ("breaks" : Str) = true)
    (k6 : PySem.W.keepIn K (.ref f6) = true)
    (a7 : PySem.W.nsIn K mainGlobals ("patterns" : Str) = some (some (.ref f7)))
    (l7 : K.lookup f7 = some ⟨oc7, od7, .func (PySem.W.fnOf ("patterns" : Str) ("patterns" : Str) (defArgs s_patterns) (defBody s_patterns) (defScope s_patterns) .none kV7 dc7 pm7 an7 cd7 ct7), sl7⟩)
    (c7 : PySem.W.codeIn K cd7 ("patterns" : Str) = true)
    (k7 : PySem.W.keepIn K (.ref f7) = true)
    (a8 : PySem.W.nsIn K mainGlobals ("_law_mixed" : Str) = some (some (.ref f8)))
    (l8 : K.lookup f8 = some ⟨oc8, od8, .func (PySem.W.fnOf ("_law_mixed" : Str) ("_law_mixed" : Str) (defArgs s_law_mixed) (defBody s_law_mixed) (defScope s_law_mixed) .none kV8 dc8 pm8 an8 cd8 ct8), sl8⟩)
    (c8 : PySem.W.codeIn K cd8 ("_law_mixed" : Str) = true)
    (k8 : PySem.W.keepIn K (.ref f8) = true)
    (a9 : PySem.W.nsIn K mainGlobals ("_law_rest" : Str) = some (some (.ref f9)))
    (l9 : K.lookup f9 = some ⟨oc9, od9, .func (PySem.W.fnOf ("_law_rest" : Str) ("_law_rest" : Str) (defArgs s_law_rest) (defBody s_law_rest) (defScope s_law_rest) .none kV9 dc9 pm9 an9 cd9 ct9), sl9⟩)
    (c9 : PySem.W.codeIn K cd9 ("_law_rest" : Str) = true)
    (k9 : PySem.W.keepIn K (.ref f9) = true)
    (a10 : PySem.W.nsIn K mainGlobals ("_law_pool" : Str) = some (some (.ref f10)))
    (l10 : K.lookup f10 = some ⟨oc10, od10, .func (PySem.W.fnOf ("_law_pool" : Str) ("_law_pool" : Str) (defArgs s_law_pool) (defBody s_law_pool) (defScope s_law_pool) .none kV10 dc10 pm10 an10 cd10 ct10), sl10⟩)
    (c10 : PySem.W.codeIn K cd10 ("_law_pool" : Str) = true)
    (k10 : PySem.W.keepIn K (.ref f10) = true)
    (a11 : PySem.W.nsIn K mainGlobals ("_law_next" : Str) = some (some (.ref f11)))
    (l11 : K.lookup f11 = some ⟨oc11, od11, .func (PySem.W.fnOf ("_law_next" : Str) ("_law_next" : Str) (defArgs s_law_next) (defBody s_law_next) (defScope s_law_next) .none kV11 dc11 pm11 an11 cd11 ct11), sl11⟩)
    (c11 : PySem.W.codeIn K cd11 ("_law_next" : Str) = true)
    (k11 : PySem.W.keepIn K (.ref f11) = true)
    (a12 : PySem.W.nsIn K mainGlobals ("_law_draw" : Str) = some (some (.ref f12)))
    (l12 : K.lookup f12 = some ⟨oc12, od12, .func (PySem.W.fnOf ("_law_draw" : Str) ("_law_draw" : Str) (defArgs s_law_draw) (defBody s_law_draw) (defScope s_law_draw) .none kV12 dc12 pm12 an12 cd12 ct12), sl12⟩)
    (c12 : PySem.W.codeIn K cd12 ("_law_draw" : Str) = true)
    (k12 : PySem.W.keepIn K (.ref f12) = true)
    (a13 : PySem.W.nsIn K mainGlobals ("_law_pick" : Str) = some (some (.ref f13)))
    (l13 : K.lookup f13 = some ⟨oc13, od13, .func (PySem.W.fnOf ("_law_pick" : Str) ("_law_pick" : Str) (defArgs s_law_pick) (defBody s_law_pick) (defScope s_law_pick) .none kV13 dc13 pm13 an13 cd13 ct13), sl13⟩)
    (c13 : PySem.W.codeIn K cd13 ("_law_pick" : Str) = true)
    (k13 : PySem.W.keepIn K (.ref f13) = true)
    (a14 : PySem.W.nsIn K mainGlobals ("_law_sides" : Str) = some (some (.ref f14)))
    (l14 : K.lookup f14 = some ⟨oc14, od14, .func (PySem.W.fnOf ("_law_sides" : Str) ("_law_sides" : Str) (defArgs s_law_sides) (defBody s_law_sides) (defScope s_law_sides) .none kV14 dc14 pm14 an14 cd14 ct14), sl14⟩)
    (c14 : PySem.W.codeIn K cd14 ("_law_sides" : Str) = true)
    (k14 : PySem.W.keepIn K (.ref f14) = true)
    (a15 : PySem.W.nsIn K mainGlobals ("_law_ground" : Str) = some (some (.ref f15)))
    (l15 : K.lookup f15 = some ⟨oc15, od15, .func (PySem.W.fnOf ("_law_ground" : Str) ("_law_ground" : Str) (defArgs s_law_ground) (defBody s_law_ground) (defScope s_law_ground) .none kV15 dc15 pm15 an15 cd15 ct15), sl15⟩)
    (c15 : PySem.W.codeIn K cd15 ("_law_ground" : Str) = true)
    (k15 : PySem.W.keepIn K (.ref f15) = true)
    (a16 : PySem.W.nsIn K mainGlobals ("_law_breaks" : Str) = some (some (.ref f16)))
    (l16 : K.lookup f16 = some ⟨oc16, od16, .func (PySem.W.fnOf ("_law_breaks" : Str) ("_law_breaks" : Str) (defArgs s_law_breaks) (defBody s_law_breaks) (defScope s_law_breaks) .none kV16 dc16 pm16 an16 cd16 ct16), sl16⟩)
    (c16 : PySem.W.codeIn K cd16 ("_law_breaks" : Str) = true)
    (k16 : PySem.W.keepIn K (.ref f16) = true)
    (a17 : PySem.W.nsIn K mainGlobals ("_law_pairings" : Str) = some (some (.ref f17)))
    (l17 : K.lookup f17 = some ⟨oc17, od17, .func (PySem.W.fnOf ("_law_pairings" : Str) ("_law_pairings" : Str) (defArgs s_law_pairings) (defBody s_law_pairings) (defScope s_law_pairings) .none kV17 dc17 pm17 an17 cd17 ct17), sl17⟩)
    (c17 : PySem.W.codeIn K cd17 ("_law_pairings" : Str) = true)
    (k17 : PySem.W.keepIn K (.ref f17) = true)
    (a18 : PySem.W.nsIn K mainGlobals ("_law_goes_on" : Str) = some (some (.ref f18)))
    (l18 : K.lookup f18 = some ⟨oc18, od18, .func (PySem.W.fnOf ("_law_goes_on" : Str) ("_law_goes_on" : Str) (defArgs s_law_goes_on) (defBody s_law_goes_on) (defScope s_law_goes_on) .none kV18 dc18 pm18 an18 cd18 ct18), sl18⟩)
    (c18 : PySem.W.codeIn K cd18 ("_law_goes_on" : Str) = true)
    (k18 : PySem.W.keepIn K (.ref f18) = true)
    (a19 : PySem.W.nsIn K mainGlobals ("_law_drawn_plan" : Str) = some (some (.ref f19)))
    (l19 : K.lookup f19 = some ⟨oc19, od19, .func (PySem.W.fnOf ("_law_drawn_plan" : Str) ("_law_drawn_plan" : Str) (defArgs s_law_drawn_plan) (defBody s_law_drawn_plan) (defScope s_law_drawn_plan) .none kV19 dc19 pm19 an19 cd19 ct19), sl19⟩)
    (c19 : PySem.W.codeIn K cd19 ("_law_drawn_plan" : Str) = true)
    (k19 : PySem.W.keepIn K (.ref f19) = true)
    (a20 : PySem.W.nsIn K mainGlobals ("law" : Str) = some (some (.ref f20)))
    (l20 : K.lookup f20 = some ⟨oc20, od20, .func (PySem.W.fnOf ("law" : Str) ("law" : Str) (defArgs s_law) (defBody s_law) (defScope s_law) .none kV20 dc20 pm20 an20 cd20 ct20), sl20⟩)
    (c20 : PySem.W.codeIn K cd20 ("law" : Str) = true)
    (k20 : PySem.W.keepIn K (.ref f20) = true)
    (z_all : PySem.W.nsIn K mainGlobals ("all" : Str) = some none)
    (z_dict : PySem.W.nsIn K mainGlobals ("dict" : Str) = some none)
    (z_int : PySem.W.nsIn K mainGlobals ("int" : Str) = some none)
    (z_isinstance : PySem.W.nsIn K mainGlobals ("isinstance" : Str) = some none)
    (z_len : PySem.W.nsIn K mainGlobals ("len" : Str) = some none)
    (z_list : PySem.W.nsIn K mainGlobals ("list" : Str) = some none)
    (z_range : PySem.W.nsIn K mainGlobals ("range" : Str) = some none)
    (z_set : PySem.W.nsIn K mainGlobals ("set" : Str) = some none)
    (z_sorted : PySem.W.nsIn K mainGlobals ("sorted" : Str) = some none)
    (z_str : PySem.W.nsIn K mainGlobals ("str" : Str) = some none)
    (z_tuple : PySem.W.nsIn K mainGlobals ("tuple" : Str) = some none)
    {t_DIGITS : Tok} (y_DIGITS : PySem.W.nsIn K mainGlobals ("DIGITS" : Str) = some (some (.str "0123456789" t_DIGITS)))
    {t_LETTERS : Tok} (y_LETTERS : PySem.W.nsIn K mainGlobals ("LETTERS" : Str) = some (some (.str "abcdefghijklmnopqrstuvwxyz" t_LETTERS)))
    {t_MOST_SIDES : Tok} (y_MOST_SIDES : PySem.W.nsIn K mainGlobals ("MOST_SIDES" : Str) = some (some (.int 8 t_MOST_SIDES))) :
    ∃ fd : FuncData, (∀ (s : Shared) (v : Value), BindsTo s fd ⟨[v], []⟩ [("script", v)]) ∧ ∀ base : Heap, K.In base → base.Ns mainGlobals mg → FnOk l.prog w K mg base CX0 6 fa fd ["script"] (spLaw K) := by
  have e := hfa.symm.trans (PySem.W.mg_of X G a20)
  cases e
  have GG : Gs K mg := ⟨PySem.W.mg_none_of X G z_all, PySem.W.mg_none_of X G z_dict, PySem.W.mg_none_of X G z_int, PySem.W.mg_none_of X G z_isinstance, PySem.W.mg_none_of X G z_len, PySem.W.mg_none_of X G z_list, PySem.W.mg_none_of X G z_range, PySem.W.mg_none_of X G z_set, PySem.W.mg_none_of X G z_sorted, PySem.W.mg_none_of X G z_str, PySem.W.mg_none_of X G z_tuple, ⟨_, PySem.W.mg_of X G y_DIGITS⟩, ⟨_, PySem.W.mg_of X G y_LETTERS⟩, ⟨_, PySem.W.mg_of X G y_MOST_SIDES⟩⟩
  have E0 := fun_mk (st := s_is_word) l0 c0 k0
  have B0 := E0.binds (ps := [("value" : Str)]) fun _ _ _ _ _ _ us hl => match us, hl with | [_], _ => rfl
  have Dis_word : Fd l.prog w K mg 1 ("is_word" : Str) (spI K 1 (ar1 m_is_word)) := ⟨_, _, _, PySem.W.mg_of X G a0, k0, B0, fn_deep E0 sc_is_word rfl (d_is_word GG )⟩
  have E1 := fun_mk (st := s_are_sides) l1 c1 k1
  have B1 := E1.binds (ps := [("value" : Str)]) fun _ _ _ _ _ _ us hl => match us, hl with | [_], _ => rfl
  have Dare_sides : Fd l.prog w K mg 2 ("are_sides" : Str) (spI K 1 (ar1 m_are_sides)) := ⟨_, _, _, PySem.W.mg_of X G a1, k1, B1, fn_deep E1 sc_are_sides rfl (d_are_sides GG Dis_word)⟩
  have E2 := fun_mk (st := s_is_round) l2 c2 k2
  have B2 := E2.binds (ps := [("value" : Str), ("sides" : Str)]) fun _ _ _ _ _ _ us hl => match us, hl with | [_, _], _ => rfl
  have Dis_round : Fd l.prog w K mg 1 ("is_round" : Str) (spI K 2 (ar2 m_is_round)) := ⟨_, _, _, PySem.W.mg_of X G a2, k2, B2, fn_deep E2 sc_is_round rfl (d_is_round GG )⟩
  have E3 := fun_mk (st := s_pairs_met) l3 c3 k3
  have B3 := E3.binds (ps := [("rounds" : Str)]) fun _ _ _ _ _ _ us hl => match us, hl with | [_], _ => rfl
  have Dpairs_met : Fd l.prog w K mg 1 ("pairs_met" : Str) (spI K 1 (ar1 m_pairs_met)) := ⟨_, _, _, PySem.W.mg_of X G a3, k3, B3, fn_deep E3 sc_pairs_met rfl (d_pairs_met GG )⟩
  have E4 := fun_mk (st := s_fault_of_plan) l4 c4 k4
  have B4 := E4.binds (ps := [("value" : Str)]) fun _ _ _ _ _ _ us hl => match us, hl with | [_], _ => rfl
  have Dfault_of_plan : Fd l.prog w K mg 3 ("fault_of_plan" : Str) (spI K 1 (ar1 m_fault_of_plan)) := ⟨_, _, _, PySem.W.mg_of X G a4, k4, B4, fn_deep E4 sc_fault_of_plan rfl (d_fault_of_plan GG Dare_sides Dis_round Dpairs_met)⟩
  have E5 := fun_mk (st := s_ground) l5 c5 k5
  have B5 := E5.binds (ps := [("told" : Str), ("side" : Str)]) fun _ _ _ _ _ _ us hl => match us, hl with | [_, _], _ => rfl
  have Dground : Fd l.prog w K mg 1 ("ground" : Str) (spI K 2 (ar2 m_ground)) := ⟨_, _, _, PySem.W.mg_of X G a5, k5, B5, fn_deep E5 sc_ground rfl (d_ground GG )⟩
  have E6 := fun_mk (st := s_breaks) l6 c6 k6
  have B6 := E6.binds (ps := [("value" : Str)]) fun _ _ _ _ _ _ us hl => match us, hl with | [_], _ => rfl
  have Dbreaks : Fd l.prog w K mg 2 ("breaks" : Str) (spI K 1 (ar1 m_breaks)) := ⟨_, _, _, PySem.W.mg_of X G a6, k6, B6, fn_deep E6 sc_breaks rfl (d_breaks GG Dground)⟩
  have E7 := fun_mk (st := s_patterns) l7 c7 k7
  have B7 := E7.binds (ps := [("value" : Str)]) fun _ _ _ _ _ _ us hl => match us, hl with | [_], _ => rfl
  have Dpatterns : Fd l.prog w K mg 2 ("patterns" : Str) (spI K 1 (ar1 m_patterns)) := ⟨_, _, _, PySem.W.mg_of X G a7, k7, B7, fn_deep E7 sc_patterns rfl (d_patterns GG Dground)⟩
  have E8 := fun_mk (st := s_law_mixed) l8 c8 k8
  have B8 := E8.binds (ps := [("number" : Str), ("place" : Str)]) fun _ _ _ _ _ _ us hl => match us, hl with | [_, _], _ => rfl
  have D_law_mixed : Fd l.prog w K mg 1 ("_law_mixed" : Str) (spI K 2 (ar2 m_law_mixed)) := ⟨_, _, _, PySem.W.mg_of X G a8, k8, B8, fn_deep E8 sc_law_mixed rfl (d_law_mixed GG )⟩
  have E9 := fun_mk (st := s_law_rest) l9 c9 k9
  have B9 := E9.binds (ps := [("script" : Str), ("place" : Str), ("fills" : Str)]) fun _ _ _ _ _ _ us hl => match us, hl with | [_, _, _], _ => rfl
  have D_law_rest : Fd l.prog w K mg 2 ("_law_rest" : Str) (spRest K) := ⟨_, _, _, PySem.W.mg_of X G a9, k9, B9, fn_rest E9 sc_law_rest rfl rfl (d_law_rest GG D_law_mixed)⟩
  have E10 := fun_mk (st := s_law_pool) l10 c10 k10
  have B10 := E10.binds (ps := [("script" : Str)]) fun _ _ _ _ _ _ us hl => match us, hl with | [_], _ => rfl
  have D_law_pool : Fd l.prog w K mg 3 ("_law_pool" : Str) (spPool K) := ⟨_, _, _, PySem.W.mg_of X G a10, k10, B10, fun base => ok_law_pool E10 D_law_rest⟩
  have E11 := fun_mk (st := s_law_next) l11 c11 k11
  have B11 := E11.binds (ps := [("pool" : Str)]) fun _ _ _ _ _ _ us hl => match us, hl with | [_], _ => rfl
  have D_law_next : Fd l.prog w K mg 3 ("_law_next" : Str) (spP K 0 (ar0 nextD)) := ⟨_, _, _, PySem.W.mg_of X G a11, k11, B11, fun base => ok_law_next E11 D_law_rest⟩
  have E12 := fun_mk (st := s_law_draw) l12 c12 k12
  have B12 := E12.binds (ps := [("pool" : Str), ("limit" : Str)]) fun _ _ _ _ _ _ us hl => match us, hl with | [_, _], _ => rfl
  have D_law_draw : Fd l.prog w K mg 3 ("_law_draw" : Str) (spP K 1 (ar1 drawD)) := ⟨_, _, _, PySem.W.mg_of X G a12, k12, B12, fun base => ok_law_draw E12 GG.b_int D_law_rest⟩
  have E13 := fun_mk (st := s_law_pick) l13 c13 k13
  have B13 := E13.binds (ps := [("pool" : Str), ("options" : Str)]) fun _ _ _ _ _ _ us hl => match us, hl with | [_, _], _ => rfl
  have D_law_pick : Fd l.prog w K mg 4 ("_law_pick" : Str) (spP K 1 (ar1 m_law_pick)) := ⟨_, _, _, PySem.W.mg_of X G a13, k13, B13, fn_deepP E13 sc_law_pick rfl (d_law_pick GG D_law_draw)⟩
  have E14 := fun_mk (st := s_law_sides) l14 c14 k14
  have B14 := E14.binds (ps := [("many" : Str)]) fun _ _ _ _ _ _ us hl => match us, hl with | [_], _ => rfl
  have D_law_sides : Fd l.prog w K mg 1 ("_law_sides" : Str) (spI K 1 (ar1 m_law_sides)) := ⟨_, _, _, PySem.W.mg_of X G a14, k14, B14, fn_deep E14 sc_law_sides rfl (d_law_sides GG )⟩
  have E15 := fun_mk (st := s_law_ground) l15 c15 k15
  have B15 := E15.binds (ps := [("told" : Str), ("side" : Str)]) fun _ _ _ _ _ _ us hl => match us, hl with | [_, _], _ => rfl
  have D_law_ground : Fd l.prog w K mg 1 ("_law_ground" : Str) (spI K 2 (ar2 m_law_ground)) := ⟨_, _, _, PySem.W.mg_of X G a15, k15, B15, fn_deep E15 sc_law_ground rfl (d_law_ground GG )⟩
  have E16 := fun_mk (st := s_law_breaks) l16 c16 k16
  have B16 := E16.binds (ps := [("made" : Str)]) fun _ _ _ _ _ _ us hl => match us, hl with | [_], _ => rfl
  have D_law_breaks : Fd l.prog w K mg 2 ("_law_breaks" : Str) (spI K 1 (ar1 m_law_breaks)) := ⟨_, _, _, PySem.W.mg_of X G a16, k16, B16, fn_deep E16 sc_law_breaks rfl (d_law_breaks GG D_law_ground)⟩
  have E17 := fun_mk (st := s_law_pairings) l17 c17 k17
  have B17 := E17.binds (ps := [("sides" : Str)]) fun _ _ _ _ _ _ us hl => match us, hl with | [_], _ => rfl
  have D_law_pairings : Fd l.prog w K mg 1 ("_law_pairings" : Str) (spI K 1 (ar1 m_law_pairings)) := ⟨_, _, _, PySem.W.mg_of X G a17, k17, B17, fn_deep E17 sc_law_pairings rfl (d_law_pairings GG )⟩
  have E18 := fun_mk (st := s_law_goes_on) l18 c18 k18
  have B18 := E18.binds (ps := [("pairings" : Str), ("met" : Str), ("many" : Str)]) fun _ _ _ _ _ _ us hl => match us, hl with | [_, _, _], _ => rfl
  have D_law_goes_on : Fd l.prog w K mg 1 ("_law_goes_on" : Str) (spI K 3 (ar3 m_law_goes_on)) := ⟨_, _, _, PySem.W.mg_of X G a18, k18, B18, fn_deep E18 sc_law_goes_on rfl (d_law_goes_on GG )⟩
  have E19 := fun_mk (st := s_law_drawn_plan) l19 c19 k19
  have B19 := E19.binds (ps := [("pool" : Str), ("sides" : Str)]) fun _ _ _ _ _ _ us hl => match us, hl with | [_, _], _ => rfl
  have D_law_drawn_plan : Fd l.prog w K mg 5 ("_law_drawn_plan" : Str) (spP K 1 (ar1 m_law_drawn_plan)) := ⟨_, _, _, PySem.W.mg_of X G a19, k19, B19, fn_deepP E19 sc_law_drawn_plan rfl (d_law_drawn_plan GG D_law_draw D_law_goes_on D_law_next D_law_pairings D_law_pick)⟩
  have E20 := fun_mk (st := s_law) l20 c20 k20
  exact ⟨_, fun s v => .of_eq rfl, fun base _ _ => ok_law E20 GG D_law_pool D_law_breaks D_law_draw D_law_drawn_plan D_law_next D_law_sides Dbreaks Dfault_of_plan Dpatterns⟩

theorem walk {l : PySem.W.OpenLaw} {q : Program} {loose : List Str} {XP : (Str → Option Value) → Heap → Prop} {YP : World → Heap → Prop} {d : DefRec} {K : Params → PySem.W.Frag} (hn : l.most = some 63) (hdf : d.params.defaults = [])
    (hY : ∀ (w : World) (h : Heap), YP w h → (K w.params).In h)
    (F : ∀ (w : World) (mg : Str → Option Value) (fa : Addr) (h : Heap), (K w.params).In h → h.Ns mainGlobals mg → mg d.name = some (.ref fa) →
      ∃ fd : FuncData, (∀ (s : Shared) (u : Value), BindsTo s fd ⟨[u], []⟩ [("script", u)]) ∧ ∀ base : Heap, (K w.params).In base → base.Ns mainGlobals mg → FnOk l.prog w (K w.params) mg base CX0 6 fa fd ["script"] (spLaw (K w.params))) :
    PySem.W.WalkO q loose XP YP l.row.toRowW d [] (fun f vs => PySem.call f vs) :=
  L2.walk_ofB (n := 63) (k := 6) (x := "script") (CX := fun _ => CX0) (sp := fun w => spLaw (K w.params)) hn (by decide) hdf ⟨rfl, by decide, by decide⟩ hY F (fun _ _ a ns hl hb _ hS => ⟨a, ns, rfl, hS, ⟨hl, fun n hn => bits_lt' (hb n hn)⟩, fun _ => rfl⟩) fun _ _ _ _ _ z => z
end K55

open PySem PySem.W PyProof.Rows in
set_option maxRecDepth 100000 in
set_option maxHeartbeats 0 in
theorem PySem.Challenge.cw_leaguewise_k55_whole_breaks_of_all_plans_holds : PySem.Challenge.rw_leaguewise_k55_whole_breaks_of_all_plans.Holds := by
  w_on; o_law; k_head; (case hw => w_witness2)
  k_fill
  refine K55.walk (l := PySem.Challenge.rw_leaguewise_k55_whole_breaks_of_all_plans) rfl rfl (fun w h Y => PySem.W.kIn_of Y) ?F
  case F =>
    intro w mg fa h KX G hmg
    refine' K55.all_mk KX G hmg ?a0 ?l0 ?c0 ?k0 ?a1 ?l1 ?c1 ?k1 ?a2 ?l2 ?c2 ?k2 ?a3 ?l3 ?c3 ?k3 ?a4 ?l4 ?c4 ?k4 ?a5 ?l5 ?c5 ?k5 ?a6 ?l6 ?c6 ?k6 ?a7 ?l7 ?c7 ?k7 ?a8 ?l8 ?c8 ?k8 ?a9 ?l9 ?c9 ?k9 ?a10 ?l10 ?c10 ?k10 ?a11 ?l11 ?c11 ?k11 ?a12 ?l12 ?c12 ?k12 ?a13 ?l13 ?c13 ?k13 ?a14 ?l14 ?c14 ?k14 ?a15 ?l15 ?c15 ?k15 ?a16 ?l16 ?c16 ?k16 ?a17 ?l17 ?c17 ?k17 ?a18 ?l18 ?c18 ?k18 ?a19 ?l19 ?c19 ?k19 ?a20 ?l20 ?c20 ?k20 ?z_all ?z_dict ?z_int ?z_isinstance ?z_len ?z_list ?z_range ?z_set ?z_sorted ?z_str ?z_tuple ?y_DIGITS ?y_LETTERS ?y_MOST_SIDES
    (case a0 => k_is)
    (case l0 => k_is)
    (case c0 => k_is)
    (case k0 => k_is)
    (case a1 => k_is)
    (case l1 => k_is)
    (case c1 => k_is)
    (case k1 => k_is)
    (case a2 => k_is)
    (case l2 => k_is)
    (case c2 => k_is)
    (case k2 => k_is)
    (case a3 => k_is)
    (case l3 => k_is)
    (case c3 => k_is)
    (case k3 => k_is)
    (case a4 => k_is)
    (case l4 => k_is)
    (case c4 => k_is)
    (case k4 => k_is)
    (case a5 => k_is)
    (case l5 => k_is)
    (case c5 => k_is)
    (case k5 => k_is)
    (case a6 => k_is)
    (case l6 => k_is)
    (case c6 => k_is)
    (case k6 => k_is)
    (case a7 => k_is)
    (case l7 => k_is)
    (case c7 => k_is)
    (case k7 => k_is)
    (case a8 => k_is)
    (case l8 => k_is)
    (case c8 => k_is)
    (case k8 => k_is)
    (case a9 => k_is)
    (case l9 => k_is)
    (case c9 => k_is)
    (case k9 => k_is)
    (case a10 => k_is)
    (case l10 => k_is)
    (case c10 => k_is)
    (case k10 => k_is)
    (case a11 => k_is)
    (case l11 => k_is)
    (case c11 => k_is)
    (case k11 => k_is)
    (case a12 => k_is)
    (case l12 => k_is)
    (case c12 => k_is)
    (case k12 => k_is)
    (case a13 => k_is)
    (case l13 => k_is)
    (case c13 => k_is)
    (case k13 => k_is)
    (case a14 => k_is)
    (case l14 => k_is)
    (case c14 => k_is)
    (case k14 => k_is)
    (case a15 => k_is)
    (case l15 => k_is)
    (case c15 => k_is)
    (case k15 => k_is)
    (case a16 => k_is)
    (case l16 => k_is)
    (case c16 => k_is)
    (case k16 => k_is)
    (case a17 => k_is)
    (case l17 => k_is)
    (case c17 => k_is)
    (case k17 => k_is)
    (case a18 => k_is)
    (case l18 => k_is)
    (case c18 => k_is)
    (case k18 => k_is)
    (case a19 => k_is)
    (case l19 => k_is)
    (case c19 => k_is)
    (case k19 => k_is)
    (case a20 => k_is)
    (case l20 => k_is)
    (case c20 => k_is)
    (case k20 => k_is)
    (case z_all => k_is)
    (case z_dict => k_is)
    (case z_int => k_is)
    (case z_isinstance => k_is)
    (case z_len => k_is)
    (case z_list => k_is)
    (case z_range => k_is)
    (case z_set => k_is)
    (case z_sorted => k_is)
    (case z_str => k_is)
    (case z_tuple => k_is)
    (case y_DIGITS => k_is)
    (case y_LETTERS => k_is)
    (case y_MOST_SIDES => k_is)
end T_V_K55
