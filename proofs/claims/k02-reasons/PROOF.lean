import PyProof.Rows.All
import Wide.All
import OpenK.AllK
import Wide.FinOn
import HandS.ForMost
import HandS.TupAny
import HandS.Deep
import HandS.Flow
import HandS.Style
import HandS.IsInst
import HandS.Conv
import HandS.Wide
import KE.SortData
import HandS.DictComp
import HandS.WordsDict
import HandS.Gcd
import HandS.Exc
import HandS.ExcOwn
import HandS.WordsExc
import HandS.ExcInit
import HandS.ExcField
import HandS.WideBits
import HandS.Zip
import HandS.TupSets
import KE.KeyNested
import HandS.SetKeys
import HandS.TupLen
import KE.KDictPairs
import KE.KDictSum
import HandS.EndBits
import PyProof.EqAt
import PyProof.EqKinds
import PyProof.TupleCall
import KE.KExcSuper
import HandS.ForExc
import HandS.HeadWalk
import HandS.Defaults
import PySem.Challenge.RW_leaguewise_k02_whole_reasons_of_places

section T_DA
set_option Elab.async false
set_option linter.all false
set_option maxRecDepth 100000
set_option maxHeartbeats 1000000
set_option autoImplicit false
/-! DD: a layer of deep data over HandS. Values are plain data (PyData); what a piece of Python does is told by a tree T
    (a value, a draw from the pool, a step of the pool, a failure); lists that a def grows are owned by a slot. -/
namespace DD
open PySem PySem.Spec L2
open PyProof.Rows hiding St

abbrev D := PyData

inductive T (α : Type) : Type where
  | ret (a : α)
  | draw (n : Nat) (k : Nat → T α)
  | next (k : T α)
  | fail

namespace T
variable {α β γ : Type}
def bind : T α → (α → T β) → T β
  | .ret a, f => f a
  | .draw n k, f => .draw n fun v => (k v).bind f
  | .next k, f => .next (k.bind f)
  | .fail, _ => .fail
def map (f : α → β) (t : T α) : T β := t.bind fun a => .ret (f a)
@[simp] theorem ret_bind (a : α) (f : α → T β) : (T.ret a).bind f = f a := rfl
@[simp] theorem fail_bind (f : α → T β) : (T.fail : T α).bind f = .fail := rfl
@[simp] theorem draw_bind (n : Nat) (k : Nat → T α) (f : α → T β) : (T.draw n k).bind f = .draw n fun v => (k v).bind f := rfl
@[simp] theorem next_bind (k : T α) (f : α → T β) : (T.next k).bind f = .next (k.bind f) := rfl
theorem bind_assoc (t : T α) (f : α → T β) (g : β → T γ) : (t.bind f).bind g = t.bind fun a => (f a).bind g := by
  induction t with
  | ret a => rfl
  | fail => rfl
  | draw n k ih => simp only [draw_bind]; congr 1; funext v; exact ih v
  | next k ih => simp only [next_bind]; congr 1
theorem bind_ret (t : T α) : t.bind (fun a => .ret a) = t := by
  induction t with
  | ret a => rfl
  | fail => rfl
  | draw n k ih => simp only [draw_bind]; congr 1; funext v; exact ih v
  | next k ih => simp only [next_bind]; congr 1
/-- every end is good, g steps of the pool suffice -/
def ok : T α → Nat → (α → Nat → Prop) → Prop
  | .ret a, g, Q => Q a g
  | .draw n k, g, Q => 0 < n ∧ n < 1073741824 ∧ ∃ g', g = g' + 1 ∧ ∀ v, v < n → (k v).ok g' Q
  | .next k, g, Q => ∃ g', g = g' + 1 ∧ k.ok g' Q
  | .fail, _, _ => False
theorem ok_mono {t : T α} : ∀ {g : Nat} {Q R : α → Nat → Prop}, t.ok g Q → (∀ a g', Q a g' → R a g') → t.ok g R := by
  induction t with
  | ret a => exact fun h k => k _ _ h
  | fail => exact fun h _ => h
  | draw n k ih => exact fun ⟨h1, h2, g', e, h⟩ q => ⟨h1, h2, g', e, fun v hv => ih v (h v hv) q⟩
  | next k ih => exact fun ⟨g', e, h⟩ q => ⟨g', e, ih h q⟩
theorem ok_bind {t : T α} {f : α → T β} : ∀ {g : Nat} {Q : β → Nat → Prop}, (t.bind f).ok g Q ↔ t.ok g fun a g' => (f a).ok g' Q := by
  induction t with
  | ret a => exact Iff.rfl
  | fail => exact Iff.rfl
  | draw n k ih =>
    exact ⟨fun ⟨h1, h2, g', e, h⟩ => ⟨h1, h2, g', e, fun v hv => (ih v).mp (h v hv)⟩, fun ⟨h1, h2, g', e, h⟩ => ⟨h1, h2, g', e, fun v hv => (ih v).mpr (h v hv)⟩⟩
  | next k ih => exact ⟨fun ⟨g', e, h⟩ => ⟨g', e, ih.mp h⟩, fun ⟨g', e, h⟩ => ⟨g', e, ih.mpr h⟩⟩
/-- a size that is asked -/
def chk (n : Nat) (t : T α) : T α := if n < 16777216 then t else .fail
theorem chk_pos {n : Nat} (t : T α) (h : n < 16777216) : chk n t = t := if_pos h
theorem ok_chk {n : Nat} {t : T α} {g : Nat} {Q : α → Nat → Prop} (h : (chk n t).ok g Q) : n < 16777216 ∧ t.ok g Q := by
  unfold chk at h
  split at h
  · exact ⟨by assumption, h⟩
  · exact h.elim
/-- a condition that is asked -/
def need (b : Bool) (t : T α) : T α := if b then t else .fail
theorem ok_need {b : Bool} {t : T α} {g : Nat} {Q : α → Nat → Prop} (h : (need b t).ok g Q) : b = true ∧ t.ok g Q := by
  cases b with
  | true => exact ⟨rfl, h⟩
  | false => exact h.elim
@[simp] theorem need_true (t : T α) : need true t = t := rfl
def mapM (f : α → T β) : List α → T (List β)
  | [] => .ret []
  | a :: l => (f a).bind fun b => (mapM f l).bind fun bs => .ret (b :: bs)
/-- some of them -/
def filtM (f : α → T (Option β)) : List α → T (List β)
  | [] => .ret []
  | a :: l => (f a).bind fun o => (filtM f l).bind fun bs => .ret (match o with | some b => b :: bs | none => bs)
def foldM (f : α → β → T β) : List α → β → T β
  | [], s => .ret s
  | a :: l, s => (f a s).bind fun s' => foldM f l s'
end T

/-! ### the heap that stands, the pool -/
/-- the pool: what it draws from, all within bounds as long as g steps are left -/
def PoolAt (K : PySem.W.Frag) (Hb H : Hp) (q : Addr) (g : Nat) : Prop :=
  ∃ (sc : Addr) (ns : List Int) (pl r f : Int), H q = some (.lst [.ref sc, .int pl, .int r, .int f]) ∧ SqL K Hb sc (ns.map V.int) ∧ ns.length ≤ 63 ∧ (∀ n ∈ ns, n.natAbs < 2 ^ 1048576) ∧
    0 ≤ pl ∧ pl + g ≤ 2 ^ 60 ∧ 0 ≤ f ∧ f + g ≤ 2 ^ 60 ∧ 0 ≤ r
structure Ok (K : PySem.W.Frag) (q : Option Addr) (Hb H : Hp) (g : Nat) : Prop where
  sub : Same Hb H
  pool : ∀ a, q = some a → Hb a = Option.none ∧ PoolAt K Hb H a g
structure Step (q : Option Addr) (Hb H Hb' H' : Hp) : Prop where
  ext : Same Hb Hb'
  keep : ∀ b o, H b = some o → q ≠ some b → H' b = some o
  stay : ∀ b o, H b = some o → Hb b = Option.none → Hb' b = Option.none
section
variable {K : PySem.W.Frag} {q : Option Addr} {Hb H Hb1 H1 Hb2 H2 : Hp} {g : Nat}
theorem Step.refl : Step q Hb H Hb H := ⟨Same.refl _, fun _ _ h _ => h, fun _ _ _ h => h⟩
theorem Step.trans (ok1 : Ok K q Hb1 H1 g) (a : Step q Hb H Hb1 H1) (b : Step q Hb1 H1 Hb2 H2) : Step q Hb H Hb2 H2 := by
  refine ⟨a.ext.trans b.ext, fun c o h n => b.keep c o (a.keep c o h n) n, fun c o h n => ?_⟩
  by_cases hq : q = some c
  · obtain ⟨_, sc, ns, pl, r, f, e, _⟩ := ok1.pool c hq
    exact b.stay c _ e (a.stay c o h n)
  · exact b.stay c o (a.keep c o h hq) (a.stay c o h n)
/-- the pool's word stands while its object does -/
theorem PoolAt.keep {a : Addr} (h : PoolAt K Hb H a g) (s : Same Hb Hb1) (k : ∀ o, H a = some o → H1 a = some o) : PoolAt K Hb1 H1 a g := by
  obtain ⟨sc, ns, pl, r, f, e, hs, rest⟩ := h
  exact ⟨sc, ns, pl, r, f, k _ e, s.seq hs, rest⟩
theorem PoolAt.there {a : Addr} (h : PoolAt K Hb H a g) : ∃ o, H a = some o := by
  obtain ⟨sc, ns, pl, r, f, e, _⟩ := h
  exact ⟨_, e⟩
theorem same_upd {p : Addr} {o : HO} (hp : H p = Option.none) : Same H (upd H p o) := fun b u hb => by rw [upd_ne (ne_of_none hb hp)]; exact hb
theorem Ok.new (k : Ok K q Hb H g) {p : Addr} {o : HO} (hp : H p = Option.none) : Ok K q (upd Hb p o) (upd H p o) g := by
  refine ⟨fun b u hb => ?_, fun a ha => ?_⟩
  · by_cases e : b = p
    · subst e; rw [upd_same] at hb ⊢; exact hb
    · rw [upd_ne e] at hb ⊢; exact k.sub _ _ hb
  · obtain ⟨h1, h2⟩ := k.pool a ha
    obtain ⟨u, e⟩ := h2.there
    refine ⟨?_, h2.keep (same_upd (k.sub.free hp)) fun u hu => same_upd hp a u hu⟩
    rw [upd_ne (ne_of_none e hp)]
    exact h1
theorem Step.new (k : Ok K q Hb H g) {p : Addr} {o : HO} (hp : H p = Option.none) : Step q Hb H (upd Hb p o) (upd H p o) := by
  refine ⟨same_upd (k.sub.free hp), fun b u hb _ => same_upd hp b u hb, fun b u hb hn => ?_⟩
  rw [upd_ne (ne_of_none hb hp)]
  exact hn
/-- a new object that is not frozen yet -/
theorem Ok.own (k : Ok K q Hb H g) {p : Addr} {o : HO} (hp : H p = Option.none) : Ok K q Hb (upd H p o) g :=
  ⟨k.sub.trans (same_upd hp), fun a ha => ⟨(k.pool a ha).1, (k.pool a ha).2.keep (Same.refl _) fun u hu => same_upd hp a u hu⟩⟩
theorem Step.own {p : Addr} {o : HO} (hp : H p = Option.none) : Step q Hb H Hb (upd H p o) :=
  ⟨Same.refl _, fun b u hb _ => same_upd hp b u hb, fun _ _ _ h => h⟩
/-- an object that is there is frozen -/
theorem Ok.frz (k : Ok K q Hb H g) {p : Addr} {o : HO} (hp : H p = some o) (hb : Hb p = Option.none) (hq : q ≠ some p) : Ok K q (upd Hb p o) H g := by
  refine ⟨fun b u h => ?_, fun a ha => ⟨?_, (k.pool a ha).2.keep (same_upd hb) fun _ hu => hu⟩⟩
  · by_cases e : b = p
    · subst e; rw [upd_same] at h; rw [hp]; exact h
    · rw [upd_ne e] at h; exact k.sub _ _ h
  · rw [upd_ne (fun e => hq (by rw [ha, e]))]
    exact (k.pool a ha).1
end

/-! ### data in the heap -/
theorem sqT_mono {K : PySem.W.Frag} {H H' : Hp} {a : Addr} {xs : List V} (e : Same H H') (h : SqT K H a xs) : SqT K H' a xs := by
  rcases h with (h | ⟨o, h⟩) | h
  · exact .inl (.inl (e _ _ h))
  · exact .inl (.inr ⟨o, e _ _ h⟩)
  · exact .inr h
/-- a key as data -/
def kD : Key → PyData
  | .inl i => .int i
  | .inr x => .str x
mutual
/-- the value v stands for the data d (a dict that stands is locked for good) -/
inductive Dn (K : PySem.W.Frag) (H : Hp) : V → PyData → Prop
  | non : Dn K H .non .none
  | bl (b : Bool) : Dn K H (.bl b) (.bool b)
  | int (i : Int) : Dn K H (.int i) (.int i)
  | str (x : Str) : Dn K H (.str x) (.str x)
  | lst {a : Addr} {xs : List V} {ds : List PyData} : H a = some (.lst xs) → DnAll K H xs ds → Dn K H (.ref a) (.list ds)
  | tup {a : Addr} {xs : List V} {ds : List PyData} : SqT K H a xs → DnAll K H xs ds → Dn K H (.ref a) (.tuple ds)
  | dct {a : Addr} {o : Obj} {kvs : List (Key × V)} {ds : List (PyData × PyData)} : H a = some (.frz o (.dK kvs)) → ds.map (·.1) = kvs.map (fun p => kD p.1) → DnAll K H (kvs.map (·.2)) (ds.map (·.2)) → Dn K H (.ref a) (.dict ds)
inductive DnAll (K : PySem.W.Frag) (H : Hp) : List V → List PyData → Prop
  | nil : DnAll K H [] []
  | cons {v : V} {vs : List V} {d : PyData} {ds : List PyData} : Dn K H v d → DnAll K H vs ds → DnAll K H (v :: vs) (d :: ds)
end
theorem dn_mono {K : PySem.W.Frag} {H H' : Hp} (e : Same H H') (d : PyData) (v : V) (h : Dn K H v d) : Dn K H' v d :=
  Dn.rec (K := K) (H := H) (motive_1 := fun v d _ => Dn K H' v d) (motive_2 := fun vs ds _ => DnAll K H' vs ds) .non (fun b => .bl b) (fun i => .int i) (fun x => .str x)
    (fun h1 _ h2 => .lst (e _ _ h1) h2) (fun h1 _ h2 => .tup (sqT_mono e h1) h2) (fun h1 h3 _ h2 => .dct (e _ _ h1) h3 h2) .nil (fun _ _ h1 h2 => .cons h1 h2) h
theorem dnAll_mono {K : PySem.W.Frag} {H H' : Hp} (e : Same H H') (ds : List PyData) (vs : List V) (h : DnAll K H vs ds) : DnAll K H' vs ds :=
  DnAll.rec (K := K) (H := H) (motive_1 := fun v d _ => Dn K H' v d) (motive_2 := fun vs ds _ => DnAll K H' vs ds) .non (fun b => .bl b) (fun i => .int i) (fun x => .str x)
    (fun h1 _ h2 => .lst (e _ _ h1) h2) (fun h1 _ h2 => .tup (sqT_mono e h1) h2) (fun h1 h3 _ h2 => .dct (e _ _ h1) h3 h2) .nil (fun _ _ h1 h2 => .cons h1 h2) h
mutual
/-- no dict in it -/
def noDct : PyData → Bool
  | .list ds => noDcts ds
  | .tuple ds => noDcts ds
  | .dict _ => false
  | _ => true
def noDcts : List PyData → Bool
  | [] => true
  | d :: ds => noDct d && noDcts ds
end
theorem noDcts_mem : ∀ {ds : List PyData}, (∀ d ∈ ds, noDct d = true) → noDcts ds = true
  | [], _ => rfl
  | d :: ds, h => by
    unfold noDcts
    rw [h d (by simp), noDcts_mem fun x hx => h x (by simp [hx])]
    rfl
mutual
theorem Dn.dp {K : PySem.W.Frag} {H : Hp} : ∀ (d : PyData) (v : V), noDct d = true → Dn K H v d → Dp K H v d
  | .none, _, _, h => by cases h; exact .non
  | .bool _, _, _, h => by cases h; exact .bl _
  | .int _, _, _, h => by cases h; exact .int _
  | .str _, _, _, h => by cases h; exact .str _
  | .list ds, _, n, h => by
    unfold noDct at n
    cases h with
    | lst h1 h2 => exact .lst (SqL.of h1) (DnAll.dp ds _ n h2)
  | .tuple ds, _, n, h => by
    unfold noDct at n
    cases h with
    | tup h1 h2 => exact .tup h1 (DnAll.dp ds _ n h2)
  | .dict _, _, n, _ => nomatch n
theorem DnAll.dp {K : PySem.W.Frag} {H : Hp} : ∀ (ds : List PyData) (vs : List V), noDcts ds = true → DnAll K H vs ds → DpAll K H vs ds
  | [], _, _, h => by cases h; exact .nil
  | d :: ds, _, n, h => by
    unfold noDcts at n
    rw [Bool.and_eq_true] at n
    cases h with
    | cons h1 h2 => exact .cons (Dn.dp d _ n.1 h1) (DnAll.dp ds _ n.2 h2)
end
mutual
theorem lay_noDct : ∀ d : PyData, d.canLay0 = true → noDct d = true
  | .none, _ => rfl
  | .bool _, _ => rfl
  | .int _, _ => rfl
  | .str _, _ => rfl
  | .list ds, h => by
    unfold noDct
    exact lay_noDcts ds (by simpa [PyData.canLay0] using h)
  | .tuple ds, h => by
    unfold noDct
    exact lay_noDcts ds (by simpa [PyData.canLay0] using h)
  | .dict ds, h => by simp [PyData.canLay0] at h
theorem lay_noDcts : ∀ ds : List PyData, PyData.canLayAll0 ds = true → noDcts ds = true
  | [], _ => rfl
  | d :: ds, h => by
    have h' : d.canLay0 = true ∧ PyData.canLayAll0 ds = true := by simpa [PyData.canLayAll0] using h
    unfold noDcts
    rw [lay_noDct d h'.1, lay_noDcts ds h'.2]
    rfl
end
theorem shaped_noDct {d : PyData} (h : SeqAt.shaped d = true) : noDct d = true := lay_noDct d (SeqAt.canLay_of_shaped h)
theorem DnAll.len {K : PySem.W.Frag} {H : Hp} : ∀ {vs : List V} {ds : List PyData}, DnAll K H vs ds → vs.length = ds.length
  | _, _, .nil => rfl
  | _, _, .cons _ t => congrArg (· + 1) (DnAll.len t)
theorem DnAll.get {K : PySem.W.Frag} {H : Hp} : ∀ {vs : List V} {ds : List PyData} {i : Nat} {d : PyData}, DnAll K H vs ds → ds[i]? = some d → ∃ v, vs[i]? = some v ∧ Dn K H v d
  | _, _, _, _, .nil, e => by simp at e
  | _, _, 0, _, .cons h _, e => by simp at e; subst e; exact ⟨_, rfl, h⟩
  | _, _, i + 1, d, .cons _ t, e => by
    obtain ⟨v, h1, h2⟩ := DnAll.get (i := i) (d := d) t (by simpa using e)
    exact ⟨v, by simpa using h1, h2⟩
theorem DnAll.getV {K : PySem.W.Frag} {H : Hp} : ∀ {vs : List V} {ds : List PyData} {i : Nat} {v : V}, DnAll K H vs ds → vs[i]? = some v → ∃ d, ds[i]? = some d ∧ Dn K H v d
  | _, _, _, _, .nil, e => by simp at e
  | _, _, 0, _, .cons h _, e => by simp at e; subst e; exact ⟨_, rfl, h⟩
  | _, _, i + 1, v, .cons _ t, e => by
    obtain ⟨d, h1, h2⟩ := DnAll.getV (i := i) (v := v) t (by simpa using e)
    exact ⟨d, by simpa using h1, h2⟩
theorem DnAll.app {K : PySem.W.Frag} {H : Hp} : ∀ {vs ws : List V} {ds es : List PyData}, DnAll K H vs ds → DnAll K H ws es → DnAll K H (vs ++ ws) (ds ++ es)
  | _, _, _, _, .nil, h => h
  | _, _, _, _, .cons h t, h' => .cons h (DnAll.app t h')
theorem DnAll.one {K : PySem.W.Frag} {H : Hp} {v : V} {d : PyData} (h : Dn K H v d) : DnAll K H [v] [d] := .cons h .nil
theorem DnAll.drop {K : PySem.W.Frag} {H : Hp} : ∀ {vs : List V} {ds : List PyData} (n : Nat), DnAll K H vs ds → DnAll K H (vs.drop n) (ds.drop n)
  | _, _, 0, h => h
  | _, _, _ + 1, .nil => .nil
  | _, _, n + 1, .cons _ t => DnAll.drop n t
theorem DnAll.take {K : PySem.W.Frag} {H : Hp} : ∀ {vs : List V} {ds : List PyData} (n : Nat), DnAll K H vs ds → DnAll K H (vs.take n) (ds.take n)
  | _, _, 0, _ => .nil
  | _, _, _ + 1, .nil => .nil
  | _, _, n + 1, .cons h t => .cons h (DnAll.take n t)
theorem DnAll.rev {K : PySem.W.Frag} {H : Hp} : ∀ {vs : List V} {ds : List PyData}, DnAll K H vs ds → DnAll K H vs.reverse ds.reverse
  | _, _, .nil => .nil
  | _, _, .cons h t => by rw [List.reverse_cons, List.reverse_cons]; exact DnAll.app (DnAll.rev t) (DnAll.one h)

/-! ### slots -/
inductive Sl where
  /-- nothing is known -/
  | un
  /-- a value that stands -/
  | va (d : D)
  /-- a list that this def grows -/
  | ow (ds : List D)
  /-- the pool -/
  | po
  /-- a list of ints that is only read -/
  | fz (ns : List Int)
def SlR (K : PySem.W.Frag) (q : Option Addr) (Hb H : Hp) : Sl → Option V → Prop
  | .un, _ => True
  | .va d, s => ∃ v, s = some v ∧ Dn K Hb v d
  | .ow ds, s => ∃ p vs, s = some (V.ref p) ∧ H p = some (.lst vs) ∧ Hb p = Option.none ∧ DnAll K Hb vs ds ∧ q ≠ some p
  | .po, s => ∃ a, q = some a ∧ s = some (V.ref a)
  | .fz ns, s => ∃ a, s = some (V.ref a) ∧ SqL K Hb a (ns.map V.int)
/-- p is owned by a slot -/
def OwnP (ρ : List Sl) (σ : St) (p : Addr) : Prop := ∃ (i : Nat) (ds : List D), ρ[i]? = some (Sl.ow ds) ∧ σ[i]? = some (some (V.ref p))
structure Sls (K : PySem.W.Frag) (q : Option Addr) (Hb H : Hp) (ρ : List Sl) (σ : St) : Prop where
  len : ρ.length = σ.length
  rel : ∀ (i : Nat) sl, ρ[i]? = some sl → ∃ s, σ[i]? = some s ∧ SlR K q Hb H sl s
  sep : ∀ (i j : Nat) ds es p, ρ[i]? = some (Sl.ow ds) → ρ[j]? = some (Sl.ow es) → σ[i]? = some (some (V.ref p)) → σ[j]? = some (some (V.ref p)) → i = j
section
variable {K : PySem.W.Frag} {q : Option Addr} {Hb H Hb1 H1 : Hp} {ρ : List Sl} {σ : St} {g : Nat}
theorem SlR.step {sl : Sl} {s : Option V} (h : SlR K q Hb H sl s) (st : Step q Hb H Hb1 H1) : SlR K q Hb1 H1 sl s := by
  cases sl with
  | un => trivial
  | va d => obtain ⟨v, e, h⟩ := h; exact ⟨v, e, dn_mono st.ext _ _ h⟩
  | ow ds => obtain ⟨p, vs, e, h1, h2, h3, h4⟩ := h; exact ⟨p, vs, e, st.keep _ _ h1 h4, st.stay _ _ h1 h2, dnAll_mono st.ext _ _ h3, h4⟩
  | po => exact h
  | fz ns => obtain ⟨a, e, h⟩ := h; exact ⟨a, e, st.ext.seq h⟩
theorem Sls.step (h : Sls K q Hb H ρ σ) (st : Step q Hb H Hb1 H1) : Sls K q Hb1 H1 ρ σ :=
  ⟨h.len, fun i sl e => let ⟨s, e1, r⟩ := h.rel i sl e; ⟨s, e1, r.step st⟩, h.sep⟩
theorem Sls.va {i : Nat} {d : D} (h : Sls K q Hb H ρ σ) (e : ρ[i]? = some (Sl.va d)) : ∃ v, σ[i]? = some (some v) ∧ Dn K Hb v d := by
  obtain ⟨s, e1, v, e2, h2⟩ := h.rel i _ e
  exact ⟨v, by rw [e1, e2], h2⟩
/-- a slot is set to a value -/
theorem Sls.setVa (h : Sls K q Hb H ρ σ) {i : Nat} {d : D} {v : V} (hd : Dn K Hb v d) : Sls K q Hb H (ρ.set i (.va d)) (σ.set i (some v)) := by
  refine ⟨by simp [h.len], fun j sl e => ?_, fun j k ds es p e1 e2 e3 e4 => ?_⟩
  · by_cases hj : i = j
    · subst hj
      rw [List.getElem?_set] at e ⊢
      by_cases hl : i < ρ.length
      · simp [hl] at e; subst e
        exact ⟨some v, by simp [← h.len, hl], v, rfl, hd⟩
      · simp [hl] at e
    · rw [List.getElem?_set_ne hj] at e ⊢
      exact h.rel j sl e
  · have n1 : i ≠ j := by
      rintro rfl
      rw [List.getElem?_set] at e1
      split at e1 <;> (try split at e1) <;> simp_all
    have n2 : i ≠ k := by
      rintro rfl
      rw [List.getElem?_set] at e2
      split at e2 <;> (try split at e2) <;> simp_all
    rw [List.getElem?_set_ne n1] at e1 e3
    rw [List.getElem?_set_ne n2] at e2 e4
    exact h.sep j k ds es p e1 e2 e3 e4
/-- a slot is forgotten -/
theorem Sls.setUn (h : Sls K q Hb H ρ σ) {i : Nat} {s : Option V} : Sls K q Hb H (ρ.set i .un) (σ.set i s) := by
  refine ⟨by simp [h.len], fun j sl e => ?_, fun j k ds es p e1 e2 e3 e4 => ?_⟩
  · by_cases hj : i = j
    · subst hj
      rw [List.getElem?_set] at e ⊢
      by_cases hl : i < ρ.length
      · simp [hl] at e; subst e
        exact ⟨s, by simp [← h.len, hl], trivial⟩
      · simp [hl] at e
    · rw [List.getElem?_set_ne hj] at e ⊢
      exact h.rel j sl e
  · have n1 : i ≠ j := by
      rintro rfl
      rw [List.getElem?_set] at e1
      split at e1 <;> (try split at e1) <;> simp_all
    have n2 : i ≠ k := by
      rintro rfl
      rw [List.getElem?_set] at e2
      split at e2 <;> (try split at e2) <;> simp_all
    rw [List.getElem?_set_ne n1] at e1 e3
    rw [List.getElem?_set_ne n2] at e2 e4
    exact h.sep j k ds es p e1 e2 e3 e4
/-- a slot is set to an owned list that no slot owns -/
theorem Sls.setOw (h : Sls K q Hb H ρ σ) {i : Nat} {ds : List D} {p : Addr} {vs : List V} (h1 : H p = some (.lst vs)) (h2 : Hb p = Option.none) (h3 : DnAll K Hb vs ds) (h4 : q ≠ some p)
    (hn : ∀ (j : Nat) es, j ≠ i → ρ[j]? = some (Sl.ow es) → σ[j]? ≠ some (some (V.ref p))) : Sls K q Hb H (ρ.set i (.ow ds)) (σ.set i (some (V.ref p))) := by
  refine ⟨by simp [h.len], fun j sl e => ?_, fun j k ds' es p' e1 e2 e3 e4 => ?_⟩
  · by_cases hj : i = j
    · subst hj
      rw [List.getElem?_set] at e ⊢
      by_cases hl : i < ρ.length
      · simp [hl] at e; subst e
        exact ⟨some (.ref p), by simp [← h.len, hl], p, vs, rfl, h1, h2, h3, h4⟩
      · simp [hl] at e
    · rw [List.getElem?_set_ne hj] at e ⊢
      exact h.rel j sl e
  · by_cases n1 : i = j
    · by_cases n2 : i = k
      · exact n1.symm.trans n2
      · subst n1
        rw [List.getElem?_set_ne n2] at e2 e4
        rw [List.getElem?_set] at e3
        split at e3
        · split at e3
          · simp at e3; subst e3
            exact absurd e4 (hn k es (Ne.symm n2) e2)
          · simp at e3
        · exact absurd rfl (by assumption)
    · by_cases n2 : i = k
      · subst n2
        rw [List.getElem?_set_ne n1] at e1 e3
        rw [List.getElem?_set] at e4
        split at e4
        · split at e4
          · simp at e4; subst e4
            exact absurd e3 (hn j ds' (Ne.symm n1) e1)
          · simp at e4
        · exact absurd rfl (by assumption)
      · rw [List.getElem?_set_ne n1] at e1 e3
        rw [List.getElem?_set_ne n2] at e2 e4
        exact h.sep j k ds' es p' e1 e2 e3 e4
end
end DD
end T_DA

section T_DB
set_option Elab.async false
set_option linter.all false
set_option maxRecDepth 100000
set_option maxHeartbeats 1000000
set_option autoImplicit false
namespace DD
open PySem PySem.Spec L2
open PyProof.Rows hiding St

/-! ### contexts: what is the same in a def's body, and what varies -/
structure Ctx where
  P : Program
  w : World
  K : PySem.W.Frag
  mg : Str → Option Value
  A : Around
  N : List Str
  sc : Scope
  fn : Str → Bool
  /-- what is wanted of an exception that leaves -/
  W : WX
  /-- a def's own frame -/
  fr : Bool
@[reducible] def Ctx.cx (X : Ctx) (base : Heap) (s_0 : Shared) (H_0 : Hp) (env : Env) (outer stack : List Env) (ex : List Addr) (pn : List (Addr × Obj)) (xe : Value → Shared → Prop) : Cx :=
  { prog := X.P, w := X.w, K := X.K, mg := X.mg, base := base, A := X.A, N := X.N, s_0 := s_0, H_0 := H_0, env := env, outer := outer, stack := stack, ex := ex, fn := X.fn, calm := true, pn := pn, xe := xe }
structure Rst (X : Ctx) where
  base : Heap
  s_0 : Shared
  H_0 : Hp
  env : Env
  outer : List Env
  stack : List Env
  ex : List Addr
  pn : List (Addr × Obj)
  xe : Value → Shared → Prop
  hsc : env.scope = X.sc
  own : PassesOwn (model X.P X.w) X.A env xe
  tk : Takes (X.cx base s_0 H_0 env outer stack ex pn xe) X.W
  hfr : X.fr = true → stack = env :: outer ∧ env.frame = some env.locals
@[reducible] def Ctx.at (X : Ctx) (r : Rst X) : Cx := X.cx r.base r.s_0 r.H_0 r.env r.outer r.stack r.ex r.pn r.xe
/-- nothing leaves -/
def WF : WX := fun _ _ _ _ => False
theorem takesF {X : Cx} : Takes X WF := takes0
def Rst.top {X : Ctx} (base : Heap) (s : Shared) (H : Hp) (env : Env) (outer : List Env) (hsc : env.scope = X.sc) (hW : X.W = WF) (hf : env.frame = some env.locals) : Rst X :=
  ⟨base, s, H, env, outer, env :: outer, [], [], fun _ _ => False, hsc, PassesOwn.never, by rw [hW]; exact takesF, fun _ => ⟨rfl, hf⟩⟩
/-- a name of the module, or built in -/
def Gb (X : Ctx) (x : Str) : Prop := X.sc.names.lookup x = some .globalImplicit
theorem Gb.gl {X : Ctx} {x : Str} (h : Gb X x) (z : Rst X) : Gl (X.at z) x := by
  show z.env.scope.names.lookup x = _
  rw [z.hsc]
  exact h

/-! ### weakest readings -/
def wE (X : Ctx) (e : Expr) : TE := fun σ H Q => ∃ u : TE, (∀ z, PE (X.at z) e u) ∧ u σ H Q
def wT (X : Ctx) (e : Expr) : TT := fun σ H Q => ∃ u : TT, (∀ z, PT (X.at z) e u) ∧ u σ H Q
def wW (X : Ctx) (e : Expr) : TT := fun σ H Q => ∃ u : TT, (∀ z, PW (X.at z) e u) ∧ u σ H Q
def wA (X : Ctx) (es : List Expr) : TA := fun σ H Q => ∃ u : TA, (∀ z, PA (X.at z) es u) ∧ u σ H Q
def wS (X : Ctx) (st : Stmt) : TS := fun D σ H => ∃ u : TS, (∀ z, PS (X.at z) st u) ∧ u D σ H
def wSs (X : Ctx) (st : List Stmt) : TS := fun D σ H => ∃ u : TS, (∀ z, PSs (X.at z) st u) ∧ u D σ H
def wI (X : Ctx) (tg iter : Expr) : TI := fun σ H R => ∃ u : TI, (∀ z, PI (X.at z) tg iter u) ∧ u σ H R
def wO (X : Ctx) (f : Value → Value → Sem Value) : R2 := fun x y H Q => ∃ r : R2, (∀ z, OpR (X.at z) f r) ∧ r x y H Q
def wC (X : Ctx) (f : Value) : List V → Hp → VK → Prop := fun xs H Q => ∃ r : List V → Hp → VK → Prop, (∀ z, CallR (X.at z) f r) ∧ r xs H Q
section
variable {X : Ctx} {z : Rst X}
theorem pe_w {e : Expr} : PE (X.at z) e (wE X e) := ⟨fun pins s σ H Q I ⟨_, h, q⟩ => (h z).run pins s σ H Q I q⟩
theorem pt_w {e : Expr} : PT (X.at z) e (wT X e) := ⟨fun pins s σ H Q I ⟨_, h, q⟩ => (h z).run pins s σ H Q I q⟩
theorem pw_w {e : Expr} : PW (X.at z) e (wW X e) := ⟨fun wh pins s σ H Q I ⟨_, h, q⟩ => (h z).run wh pins s σ H Q I q⟩
theorem pa_w {es : List Expr} : PA (X.at z) es (wA X es) := ⟨fun pos pins s σ H Q I ⟨_, h, q⟩ => (h z).run pos pins s σ H Q I q⟩
theorem ps_w {st : Stmt} : PS (X.at z) st (wS X st) := ⟨fun pins s σ H D I ⟨_, h, q⟩ => (h z).run pins s σ H D I q⟩
theorem pss_w {st : List Stmt} : PSs (X.at z) st (wSs X st) := ⟨fun pins s σ H D I ⟨_, h, q⟩ => (h z).run pins s σ H D I q⟩
theorem pi_w {tg iter : Expr} : PI (X.at z) tg iter (wI X tg iter) := ⟨fun pins s σ H R I ⟨_, h, q⟩ => (h z).run pins s σ H R I q⟩
theorem or_w {f : Value → Value → Sem Value} : OpR (X.at z) f (wO X f) := fun pins s σ H x y v u Q I rx ry ⟨_, h, q⟩ => h z pins s σ H x y v u Q I rx ry q
theorem cr_w {f : Value} : CallR (X.at z) f (wC X f) := fun pins s σ H xs us Q I r ⟨_, h, q⟩ => h z pins s σ H xs us Q I r q
end

/-! ### what is wanted, by data -/
section
variable (K : PySem.W.Frag) (q : Option Addr) (Hb H : Hp)
def PD (Q : V → Hp → Prop) : D → Nat → Prop := fun d g => ∀ v Hb' H', Step q Hb H Hb' H' → Ok K q Hb' H' g → Dn K Hb' v d → Q v H'
def PB (Q : Bool → Hp → Prop) : Bool → Nat → Prop := fun b g => ∀ Hb' H', Step q Hb H Hb' H' → Ok K q Hb' H' g → Q b H'
def PL (Q : List V → Hp → Prop) : List D → Nat → Prop := fun ds g => ∀ vs Hb' H', Step q Hb H Hb' H' → Ok K q Hb' H' g → DnAll K Hb' vs ds → Q vs H'
/-- a new list that nobody holds yet -/
def PF (Q : V → Hp → Prop) : List D → Nat → Prop := fun ds g => ∀ p vs Hb' H', Step q Hb H Hb' H' → Ok K q Hb' H' g → Hb' p = Option.none → H p = Option.none → H' p = some (.lst vs) → DnAll K Hb' vs ds → Q (.ref p) H'
end
section
variable (X : Ctx) (q : Option Addr) (ρ : List Sl)
def DX (e : Expr) (t : T D) : Prop := ∀ σ Hb H g Q, Ok X.K q Hb H g → Sls X.K q Hb H ρ σ → t.ok g (PD X.K q Hb H Q) → wE X e σ H Q
def DF (e : Expr) (t : T (List D)) : Prop := ∀ σ Hb H g Q, Ok X.K q Hb H g → Sls X.K q Hb H ρ σ → t.ok g (PF X.K q Hb H Q) → wE X e σ H Q
def DT (e : Expr) (t : T Bool) : Prop := ∀ σ Hb H g Q, Ok X.K q Hb H g → Sls X.K q Hb H ρ σ → t.ok g (PB X.K q Hb H Q) → wT X e σ H Q
def DW (e : Expr) (t : T Bool) : Prop := ∀ σ Hb H g Q, Ok X.K q Hb H g → Sls X.K q Hb H ρ σ → t.ok g (PB X.K q Hb H Q) → wW X e σ H Q
def DA (es : List Expr) (t : T (List D)) : Prop := ∀ σ Hb H g Q, Ok X.K q Hb H g → Sls X.K q Hb H ρ σ → t.ok g (PL X.K q Hb H Q) → wA X es σ H Q
def DO (f : Value → Value → Sem Value) (m : D → D → T D) : Prop := ∀ x y dx dy Hb H g Q, Ok X.K q Hb H g → Dn X.K Hb x dx → Dn X.K Hb y dy → (m dx dy).ok g (PD X.K q Hb H Q) → wO X f x y H Q
def DC (f : Value) (m : List D → T D) : Prop := ∀ xs ds Hb H g Q, Ok X.K q Hb H g → DnAll X.K Hb xs ds → (m ds).ok g (PD X.K q Hb H Q) → wC X f xs H Q
end

section
variable {X : Ctx} {q : Option Addr} {ρ : List Sl} {pos : Pos}
theorem pd_after {K : PySem.W.Frag} {Hb H Hb1 H1 : Hp} {Q : V → Hp → Prop} {d : D} {g g1 : Nat} (ok1 : Ok K q Hb1 H1 g1) (s : Step q Hb H Hb1 H1) (h : PD K q Hb H Q d g) : PD K q Hb1 H1 Q d g := fun v Hb' H' s' o' dv => h v Hb' H' (s.trans ok1 s') o' dv
theorem pb_after {K : PySem.W.Frag} {Hb H Hb1 H1 : Hp} {Q : Bool → Hp → Prop} {d : Bool} {g g1 : Nat} (ok1 : Ok K q Hb1 H1 g1) (s : Step q Hb H Hb1 H1) (h : PB K q Hb H Q d g) : PB K q Hb1 H1 Q d g := fun Hb' H' s' o' => h Hb' H' (s.trans ok1 s') o'
theorem pl_after {K : PySem.W.Frag} {Hb H Hb1 H1 : Hp} {Q : List V → Hp → Prop} {d : List D} {g g1 : Nat} (ok1 : Ok K q Hb1 H1 g1) (s : Step q Hb H Hb1 H1) (h : PL K q Hb H Q d g) : PL K q Hb1 H1 Q d g := fun v Hb' H' s' o' dv => h v Hb' H' (s.trans ok1 s') o' dv
theorem step_free {K : PySem.W.Frag} {Hb H Hb1 H1 : Hp} {g : Nat} (ok0 : Ok K q Hb H g) (s : Step q Hb H Hb1 H1) {p : Addr} (hq : q ≠ some p) (h : H1 p = Option.none) : H p = Option.none := by
  cases e : H p with
  | none => rfl
  | some o => rw [s.keep p o e hq] at h; cases h
theorem free_nq {K : PySem.W.Frag} {Hb H : Hp} {g : Nat} (ok0 : Ok K q Hb H g) {p : Addr} (h : H p = Option.none) : q ≠ some p := by
  intro e
  obtain ⟨u, e2⟩ := (ok0.pool p e).2.there
  rw [h] at e2; cases e2
theorem pf_after {K : PySem.W.Frag} {Hb H Hb1 H1 : Hp} {Q : V → Hp → Prop} {d : List D} {g g0 g1 : Nat} (ok0 : Ok K q Hb H g0) (ok1 : Ok K q Hb1 H1 g1) (s : Step q Hb H Hb1 H1) (h : PF K q Hb H Q d g) : PF K q Hb1 H1 Q d g :=
  fun p vs Hb' H' s' o' n1 n2 e dv => h p vs Hb' H' (s.trans ok1 s') o' n1 (step_free ok0 s (free_nq ok1 n2) n2) e dv

/-- an expression's value, then the rest -/
theorem DX.run {e : Expr} {t : T D} (h : DX X q ρ e t) {σ : St} {Hb H : Hp} {g : Nat} {Q : V → Hp → Prop} {C : D → Nat → Prop} (ok0 : Ok X.K q Hb H g) (sl : Sls X.K q Hb H ρ σ) (ht : t.ok g C)
    (k : ∀ d g' v Hb' H', C d g' → Step q Hb H Hb' H' → Ok X.K q Hb' H' g' → Sls X.K q Hb' H' ρ σ → Dn X.K Hb' v d → Q v H') : wE X e σ H Q :=
  h σ Hb H g Q ok0 sl (T.ok_mono ht fun d g' c v Hb' H' s o dv => k d g' v Hb' H' c s o (sl.step s) dv)
theorem DT.run {e : Expr} {t : T Bool} (h : DT X q ρ e t) {σ : St} {Hb H : Hp} {g : Nat} {Q : Bool → Hp → Prop} {C : Bool → Nat → Prop} (ok0 : Ok X.K q Hb H g) (sl : Sls X.K q Hb H ρ σ) (ht : t.ok g C)
    (k : ∀ d g' Hb' H', C d g' → Step q Hb H Hb' H' → Ok X.K q Hb' H' g' → Sls X.K q Hb' H' ρ σ → Q d H') : wT X e σ H Q :=
  h σ Hb H g Q ok0 sl (T.ok_mono ht fun d g' c Hb' H' s o => k d g' Hb' H' c s o (sl.step s))
theorem DW.run {e : Expr} {t : T Bool} (h : DW X q ρ e t) {σ : St} {Hb H : Hp} {g : Nat} {Q : Bool → Hp → Prop} {C : Bool → Nat → Prop} (ok0 : Ok X.K q Hb H g) (sl : Sls X.K q Hb H ρ σ) (ht : t.ok g C)
    (k : ∀ d g' Hb' H', C d g' → Step q Hb H Hb' H' → Ok X.K q Hb' H' g' → Sls X.K q Hb' H' ρ σ → Q d H') : wW X e σ H Q :=
  h σ Hb H g Q ok0 sl (T.ok_mono ht fun d g' c Hb' H' s o => k d g' Hb' H' c s o (sl.step s))
theorem DA.run {es : List Expr} {t : T (List D)} (h : DA X q ρ es t) {σ : St} {Hb H : Hp} {g : Nat} {Q : List V → Hp → Prop} {C : List D → Nat → Prop} (ok0 : Ok X.K q Hb H g) (sl : Sls X.K q Hb H ρ σ) (ht : t.ok g C)
    (k : ∀ d g' v Hb' H', C d g' → Step q Hb H Hb' H' → Ok X.K q Hb' H' g' → Sls X.K q Hb' H' ρ σ → DnAll X.K Hb' v d → Q v H') : wA X es σ H Q :=
  h σ Hb H g Q ok0 sl (T.ok_mono ht fun d g' c v Hb' H' s o dv => k d g' v Hb' H' c s o (sl.step s) dv)
theorem DF.run {e : Expr} {t : T (List D)} (h : DF X q ρ e t) {σ : St} {Hb H : Hp} {g : Nat} {Q : V → Hp → Prop} {C : List D → Nat → Prop} (ok0 : Ok X.K q Hb H g) (sl : Sls X.K q Hb H ρ σ) (ht : t.ok g C)
    (k : ∀ d g' p vs Hb' H', C d g' → Step q Hb H Hb' H' → Ok X.K q Hb' H' g' → Sls X.K q Hb' H' ρ σ → Hb' p = Option.none → H p = Option.none → H' p = some (.lst vs) → DnAll X.K Hb' vs d → Q (.ref p) H') : wE X e σ H Q :=
  h σ Hb H g Q ok0 sl (T.ok_mono ht fun d g' c p vs Hb' H' s o n1 n2 e dv => k d g' p vs Hb' H' c s o (sl.step s) n1 n2 e dv)

/-! ### names, constants -/
theorem dx_va (i : Nat) {d : D} {x : Str} (e : ρ[i]? = some (Sl.va d)) (hN : X.N[i]? = some x) (hv : Vis X.sc x) (hd : (x == ("__debug__" : Str)) = false := by decide)
    (hcd : (x == ("__classdict__" : Str)) = false := by decide) : DX X q ρ (.Name x pos) (.ret d) := fun σ Hb H g Q ok0 sl ht => by
  obtain ⟨v, e1, dv⟩ := sl.va e
  exact ⟨_, fun z => pe_var hN (by rw [z.hsc]; exact hv) hd hcd, v, e1, ht v Hb H .refl ok0 dv⟩
theorem dx_int {i : Int} {j : Nat} : DX X q ρ (.Constant (.int i) j pos) (.ret (.int i)) := fun _ Hb H _ _ ok0 _ ht => ⟨_, fun z => pe_int, ht _ Hb H .refl ok0 (.int i)⟩
theorem dx_bl {b : Bool} {j : Nat} : DX X q ρ (.Constant (.bool b) j pos) (.ret (.bool b)) := fun _ Hb H _ _ ok0 _ ht => ⟨_, fun z => pe_bl, ht _ Hb H .refl ok0 (.bl b)⟩
theorem dx_non {j : Nat} : DX X q ρ (.Constant .none j pos) (.ret .none) := fun _ Hb H _ _ ok0 _ ht => ⟨_, fun z => pe_non, ht _ Hb H .refl ok0 .non⟩
theorem dx_str {x : Str} {j : Nat} : DX X q ρ (.Constant (.str x) j pos) (.ret (.str x)) := fun _ Hb H _ _ ok0 _ ht => ⟨_, fun z => pe_str, ht _ Hb H .refl ok0 (.str x)⟩
/-- a constant of the module -/
theorem dx_glob {x : Str} {v : V} {u : Value} {d : D} (hg : Gb X x) (hm : X.mg x = some u) (r : RelV v u) (hd : ∀ H, Dn X.K H v d) (hdb : (x == ("__debug__" : Str)) = false := by decide) : DX X q ρ (.Name x pos) (.ret d) :=
  fun _ Hb H _ _ ok0 _ ht => ⟨_, fun z => pe_glob (hg.gl z) hm r hdb, ht _ Hb H .refl ok0 (hd Hb)⟩

/-! ### argument lists, displays -/
theorem da_nil : DA X q ρ [] (.ret []) := fun _ Hb H _ _ ok0 _ ht => ⟨_, fun z => pa_nil, ht _ Hb H .refl ok0 .nil⟩
theorem da_cons {e : Expr} {es : List Expr} {t : T D} {ts : T (List D)} (h : DX X q ρ e t) (hs : DA X q ρ es ts) (hst : ∀ env : Env, starEach (e :: es) env = (false, eval e env) :: starEach es env := by intro _; rfl) :
    DA X q ρ (e :: es) (t.bind fun d => ts.bind fun ds => .ret (d :: ds)) := fun σ Hb H g Q ok0 sl ht => by
  refine ⟨_, fun z => pa_cons pe_w pa_w (hst _), ?_⟩
  refine h.run ok0 sl (T.ok_bind.mp ht) fun d g1 v Hb1 H1 c1 s1 ok1 sl1 d1 => ?_
  refine hs.run ok1 sl1 (T.ok_bind.mp c1) fun ds g2 vs Hb2 H2 c2 s2 ok2 sl2 d2 => ?_
  exact c2 _ Hb2 H2 (s1.trans ok1 s2) ok2 (.cons (dn_mono s2.ext _ _ d1) d2)
theorem ok_line {n : Nat} (h : n < 16777216) : n ≤ sizeLine := by rw [sizeLine_eq]; omega
theorem dx_tup {es : List Expr} {x1 : Nat} {ts : T (List D)} (h : DA X q ρ es ts) : DX X q ρ (.Tuple es x1 pos) (ts.bind fun ds => .chk ds.length (.ret (.tuple ds))) := fun σ Hb H g Q ok0 sl ht => by
  refine ⟨_, fun z => pe_tup pa_w, ?_⟩
  refine h.run ok0 sl (T.ok_bind.mp ht) fun ds g1 vs Hb1 H1 c1 s1 ok1 sl1 d1 => ?_
  obtain ⟨hz, c1⟩ := T.ok_chk c1
  refine ⟨by rw [DnAll.len d1]; exact ok_line hz, fun p hp => ?_⟩
  exact c1 _ _ _ (s1.trans ok1 (.new ok1 hp)) (ok1.new hp) (.tup (SqT.of upd_same) (dnAll_mono (same_upd (ok1.sub.free hp)) _ _ d1))
theorem df_lst {es : List Expr} {ts : T (List D)} (h : DA X q ρ es ts) : DF X q ρ (.List es pos) (ts.bind fun ds => .chk ds.length (.ret ds)) := fun σ Hb H g Q ok0 sl ht => by
  refine ⟨_, fun z => pe_lst pa_w, ?_⟩
  refine h.run ok0 sl (T.ok_bind.mp ht) fun ds g1 vs Hb1 H1 c1 s1 ok1 sl1 d1 => ?_
  obtain ⟨hz, c1⟩ := T.ok_chk c1
  refine ⟨by rw [DnAll.len d1]; exact ok_line hz, fun p hp => ?_⟩
  exact c1 p vs Hb1 _ (s1.trans ok1 (.own hp)) (ok1.own hp) (ok1.sub.free hp) (step_free ok0 s1 (free_nq ok1 hp) hp) upd_same d1
/-- a new list as a value that stands -/
theorem dx_of_df {e : Expr} {t : T (List D)} (h : DF X q ρ e t) : DX X q ρ e (t.bind fun ds => .ret (.list ds)) := fun σ Hb H g Q ok0 sl ht => by
  refine h.run ok0 sl (T.ok_bind.mp ht) fun ds g1 p vs Hb1 H1 c1 s1 ok1 sl1 n1 n2 e1 d1 => ?_
  have nq : q ≠ some p := free_nq ok0 n2
  refine c1 _ (upd Hb1 p (.lst vs)) H1 ⟨s1.ext.trans (same_upd n1), s1.keep, fun b o hb hn => ?_⟩ (ok1.frz e1 n1 nq) (.lst upd_same (dnAll_mono (same_upd n1) _ _ d1))
  rw [upd_ne (ne_of_none hb n2)]
  exact s1.stay b o hb hn
theorem chk_lit {α : Type} {n : Nat} {t : T α} (h : decide (n < 16777216) = true) : T.chk n t = t := if_pos (of_decide_eq_true h)
section
variable {e1 e2 e3 e4 : Expr} {t1 t2 t3 t4 : T D} {x1 : Nat}
theorem dx_tup0 : DX X q ρ (.Tuple [] x1 pos) (.ret (.tuple [])) := dx_tup da_nil
theorem dx_tup1 (h1 : DX X q ρ e1 t1) (hs1 : ∀ env : Env, starEach [e1] env = (false, eval e1 env) :: starEach [] env := by intro _; rfl) : DX X q ρ (.Tuple [e1] x1 pos) (t1.bind fun a => .ret (.tuple [a])) := by
  have h := dx_tup (x1 := x1) (pos := pos) (da_cons h1 da_nil hs1)
  simp only [T.bind_assoc, T.ret_bind] at h
  exact h
theorem dx_tup2 (h1 : DX X q ρ e1 t1) (h2 : DX X q ρ e2 t2) (hs1 : ∀ env : Env, starEach [e1, e2] env = (false, eval e1 env) :: starEach [e2] env := by intro _; rfl) (hs2 : ∀ env : Env, starEach [e2] env = (false, eval e2 env) :: starEach [] env := by intro _; rfl) :
    DX X q ρ (.Tuple [e1, e2] x1 pos) (t1.bind fun a => t2.bind fun b => .ret (.tuple [a, b])) := by
  have h := dx_tup (x1 := x1) (pos := pos) (da_cons h1 (da_cons h2 da_nil hs2) hs1)
  simp only [T.bind_assoc, T.ret_bind] at h
  exact h
theorem dx_tup3 (h1 : DX X q ρ e1 t1) (h2 : DX X q ρ e2 t2) (h3 : DX X q ρ e3 t3) (hs1 : ∀ env : Env, starEach [e1, e2, e3] env = (false, eval e1 env) :: starEach [e2, e3] env := by intro _; rfl)
    (hs2 : ∀ env : Env, starEach [e2, e3] env = (false, eval e2 env) :: starEach [e3] env := by intro _; rfl) (hs3 : ∀ env : Env, starEach [e3] env = (false, eval e3 env) :: starEach [] env := by intro _; rfl) :
    DX X q ρ (.Tuple [e1, e2, e3] x1 pos) (t1.bind fun a => t2.bind fun b => t3.bind fun c => .ret (.tuple [a, b, c])) := by
  have h := dx_tup (x1 := x1) (pos := pos) (da_cons h1 (da_cons h2 (da_cons h3 da_nil hs3) hs2) hs1)
  simp only [T.bind_assoc, T.ret_bind] at h
  exact h
theorem dx_tup4 (h1 : DX X q ρ e1 t1) (h2 : DX X q ρ e2 t2) (h3 : DX X q ρ e3 t3) (h4 : DX X q ρ e4 t4) (hs1 : ∀ env : Env, starEach [e1, e2, e3, e4] env = (false, eval e1 env) :: starEach [e2, e3, e4] env := by intro _; rfl)
    (hs2 : ∀ env : Env, starEach [e2, e3, e4] env = (false, eval e2 env) :: starEach [e3, e4] env := by intro _; rfl) (hs3 : ∀ env : Env, starEach [e3, e4] env = (false, eval e3 env) :: starEach [e4] env := by intro _; rfl)
    (hs4 : ∀ env : Env, starEach [e4] env = (false, eval e4 env) :: starEach [] env := by intro _; rfl) :
    DX X q ρ (.Tuple [e1, e2, e3, e4] x1 pos) (t1.bind fun a => t2.bind fun b => t3.bind fun c => t4.bind fun d => .ret (.tuple [a, b, c, d])) := by
  have h := dx_tup (x1 := x1) (pos := pos) (da_cons h1 (da_cons h2 (da_cons h3 (da_cons h4 da_nil hs4) hs3) hs2) hs1)
  simp only [T.bind_assoc, T.ret_bind] at h
  exact h
theorem df_lst0 : DF X q ρ (.List [] pos) (.ret []) := df_lst da_nil
theorem df_lst1 (h1 : DX X q ρ e1 t1) (hs1 : ∀ env : Env, starEach [e1] env = (false, eval e1 env) :: starEach [] env := by intro _; rfl) : DF X q ρ (.List [e1] pos) (t1.bind fun a => .ret [a]) := by
  have h := df_lst (pos := pos) (da_cons h1 da_nil hs1)
  simp only [T.bind_assoc, T.ret_bind] at h
  exact h
theorem df_lst2 (h1 : DX X q ρ e1 t1) (h2 : DX X q ρ e2 t2) (hs1 : ∀ env : Env, starEach [e1, e2] env = (false, eval e1 env) :: starEach [e2] env := by intro _; rfl) (hs2 : ∀ env : Env, starEach [e2] env = (false, eval e2 env) :: starEach [] env := by intro _; rfl) :
    DF X q ρ (.List [e1, e2] pos) (t1.bind fun a => t2.bind fun b => .ret [a, b]) := by
  have h := df_lst (pos := pos) (da_cons h1 (da_cons h2 da_nil hs2) hs1)
  simp only [T.bind_assoc, T.ret_bind] at h
  exact h
end

/-! ### operators, comparisons, tests -/
section
variable {a b c : Expr} {ta tb tc : T D}
theorem dx_op {op : Operator} {m : D → D → T D} (ho : DO X q (binaryOp op) m) (ha : DX X q ρ a ta) (hb : DX X q ρ b tb) : DX X q ρ (.BinOp a op b pos) (ta.bind fun x => tb.bind fun y => m x y) := fun σ Hb H g Q ok0 sl ht => by
  refine ⟨_, fun z => pe_op or_w pe_w pe_w, ?_⟩
  refine ha.run ok0 sl (T.ok_bind.mp ht) fun d g1 v Hb1 H1 c1 s1 ok1 sl1 d1 => ?_
  refine hb.run ok1 sl1 (T.ok_bind.mp c1) fun d' g2 v' Hb2 H2 c2 s2 ok2 sl2 d2 => ?_
  exact ho _ _ _ _ Hb2 H2 g2 _ ok2 (dn_mono s2.ext _ _ d1) d2 (T.ok_mono c2 fun d g' h => pd_after ok2 (s1.trans ok1 s2) h)
/-- a comparison that gives a Bool -/
def DOB (X : Ctx) (q : Option Addr) (f : Value → Value → Sem Value) (m : D → D → T Bool) : Prop := DO X q f fun x y => (m x y).bind fun b => .ret (.bool b)
theorem dx_cmp {op : CmpOp} {m : D → D → T Bool} (ho : DOB X q (compareOp op) m) (ha : DX X q ρ a ta) (hb : DX X q ρ b tb) (hm : behindInMarks op b = false) :
    DX X q ρ (.Compare a [op] [b] pos) (ta.bind fun x => tb.bind fun y => (m x y).bind fun b => .ret (.bool b)) := fun σ Hb H g Q ok0 sl ht => by
  refine ⟨_, fun z => pe_cmpR or_w pe_w pe_w hm, ?_⟩
  refine ha.run ok0 sl (T.ok_bind.mp ht) fun d g1 v Hb1 H1 c1 s1 ok1 sl1 d1 => ?_
  refine hb.run ok1 sl1 (T.ok_bind.mp c1) fun d' g2 v' Hb2 H2 c2 s2 ok2 sl2 d2 => ?_
  exact ho _ _ _ _ Hb2 H2 g2 _ ok2 (dn_mono s2.ext _ _ d1) d2 (T.ok_mono c2 fun d g' h => pd_after ok2 (s1.trans ok1 s2) h)
theorem dt_cmp {op : CmpOp} {m : D → D → T Bool} (ho : DOB X q (compareOp op) m) (ha : DX X q ρ a ta) (hb : DX X q ρ b tb) (hm : behindInMarks op b = false) :
    DT X q ρ (.Compare a [op] [b] pos) (ta.bind fun x => tb.bind fun y => m x y) := fun σ Hb H g Q ok0 sl ht => by
  refine ⟨_, fun z => pt_cmpR or_w pe_w pe_w hm, ?_⟩
  refine ha.run ok0 sl (T.ok_bind.mp ht) fun d g1 v Hb1 H1 c1 s1 ok1 sl1 d1 => ?_
  refine hb.run ok1 sl1 (T.ok_bind.mp c1) fun d' g2 v' Hb2 H2 c2 s2 ok2 sl2 d2 => ?_
  refine ho _ _ _ _ Hb2 H2 g2 _ ok2 (dn_mono s2.ext _ _ d1) d2 (T.ok_bind.mpr (T.ok_mono c2 fun d g' h => ?_))
  intro v3 Hb3 H3 s3 ok3 d3
  cases d3
  exact ⟨_, rfl, h Hb3 H3 ((s1.trans ok1 s2).trans ok2 s3) ok3⟩
/-- a op b op' c -/
def chainT (m m' : D → D → T Bool) (ta tb tc : T D) : T Bool := ta.bind fun x => tb.bind fun y => (m x y).bind fun k => if k then tc.bind fun z => m' y z else .ret false
theorem dx_chain {op op' : CmpOp} {m m' : D → D → T Bool} (ho : DOB X q (compareOp op) m) (ho' : DOB X q (compareOp op') m') (ha : DX X q ρ a ta) (hb : DX X q ρ b tb) (hc : DX X q ρ c tc)
    (hm : lastMarks [op, op'] [b, c] = false := by with_unfolding_all rfl) : DX X q ρ (.Compare a [op, op'] [b, c] pos) ((chainT m m' ta tb tc).bind fun b => .ret (.bool b)) := fun σ Hb H g Q ok0 sl ht => by
  refine ⟨_, fun z => pe_chain or_w or_w pe_w pe_w pe_w hm, ?_⟩
  unfold chainT at ht
  simp only [T.bind_assoc] at ht
  refine ha.run ok0 sl (T.ok_bind.mp ht) fun d g1 v Hb1 H1 c1 s1 ok1 sl1 d1 => ?_
  refine hb.run ok1 sl1 (T.ok_bind.mp c1) fun d' g2 v' Hb2 H2 c2 s2 ok2 sl2 d2 => ?_
  have s12 := s1.trans ok1 s2
  refine ho _ _ _ _ Hb2 H2 g2 _ ok2 (dn_mono s2.ext _ _ d1) d2 (T.ok_bind.mpr (T.ok_mono (T.ok_bind.mp c2) fun k g3 c3 => ?_))
  intro v3 Hb3 H3 s3 ok3 d3
  cases d3
  refine ⟨_, rfl, ?_⟩
  have s13 := s12.trans ok2 s3
  cases k with
  | false => exact iteF (c3 _ Hb3 H3 s13 ok3 (.bl false))
  | true =>
    refine iteT ?_
    simp only [if_true, T.bind_assoc] at c3
    refine hc.run ok3 (sl2.step s3) (T.ok_bind.mp c3) fun d4 g4 v4 Hb4 H4 c4 s4 ok4 sl4 d4' => ?_
    exact ho' _ _ _ _ Hb4 H4 g4 _ ok4 (dn_mono (s3.ext.trans s4.ext) _ _ d2) d4' (T.ok_mono c4 fun d g' h => pd_after ok4 (s13.trans ok3 s4) h)
theorem dt_chain {op op' : CmpOp} {m m' : D → D → T Bool} (ho : DOB X q (compareOp op) m) (ho' : DOB X q (compareOp op') m') (ha : DX X q ρ a ta) (hb : DX X q ρ b tb) (hc : DX X q ρ c tc)
    (hm : lastMarks [op, op'] [b, c] = false := by with_unfolding_all rfl) : DT X q ρ (.Compare a [op, op'] [b, c] pos) (chainT m m' ta tb tc) := fun σ Hb H g Q ok0 sl ht => by
  refine ⟨_, fun z => pt_chain or_w or_w pe_w pe_w pe_w hm, ?_⟩
  unfold chainT at ht
  refine ha.run ok0 sl (T.ok_bind.mp ht) fun d g1 v Hb1 H1 c1 s1 ok1 sl1 d1 => ?_
  refine hb.run ok1 sl1 (T.ok_bind.mp c1) fun d' g2 v' Hb2 H2 c2 s2 ok2 sl2 d2 => ?_
  have s12 := s1.trans ok1 s2
  refine ho _ _ _ _ Hb2 H2 g2 _ ok2 (dn_mono s2.ext _ _ d1) d2 (T.ok_bind.mpr (T.ok_mono (T.ok_bind.mp c2) fun k g3 c3 => ?_))
  intro v3 Hb3 H3 s3 ok3 d3
  cases d3
  refine ⟨_, rfl, ?_⟩
  have s13 := s12.trans ok2 s3
  cases k with
  | false => exact iteF ⟨_, rfl, c3 Hb3 H3 s13 ok3⟩
  | true =>
    refine iteT ?_
    simp only [if_true] at c3
    refine hc.run ok3 (sl2.step s3) (T.ok_bind.mp c3) fun d4 g4 v4 Hb4 H4 c4 s4 ok4 sl4 d4' => ?_
    refine ho' _ _ _ _ Hb4 H4 g4 _ ok4 (dn_mono (s3.ext.trans s4.ext) _ _ d2) d4' (T.ok_bind.mpr (T.ok_mono c4 fun b5 g5 c5 => ?_))
    intro v5 Hb5 H5 s5 ok5 d5
    cases d5
    exact ⟨_, rfl, c5 Hb5 H5 ((s13.trans ok3 s4).trans ok4 s5) ok5⟩
/-- a value that is a Bool, as a test -/
theorem dt_val {e : Expr} {t : T Bool} (h : DX X q ρ e (t.bind fun b => .ret (.bool b))) (he : ∀ (env : Env) (whole : Sem Value), isTrue e env whole = (do let v ← whole; standAt e.pos; holding [v] (truthy v)) := by intro _ _; rfl) : DT X q ρ e t := fun σ Hb H g Q ok0 sl ht => by
  refine ⟨_, fun z => pt_val pe_w (he _), ?_⟩
  refine h.run ok0 sl (C := fun d g' => ∃ b, d = .bool b ∧ PB X.K q Hb H Q b g') (T.ok_bind.mpr (T.ok_mono ht fun b g' h => ⟨b, rfl, h⟩)) fun d g1 v Hb1 H1 ⟨b, e1, c1⟩ s1 ok1 sl1 d1 => ?_
  subst e1
  cases d1
  exact ⟨b, rfl, c1 Hb1 H1 s1 ok1⟩
/-- truth -/
def truth : D → T Bool
  | .none => .ret false
  | .bool b => .ret b
  | .int i => .ret (i != 0)
  | .list ds => .ret (!ds.isEmpty)
  | .tuple ds => .ret (!ds.isEmpty)
  | .str s => .chk s.length (.ret ((s.length : Int) != 0))
  | .dict _ => .fail
theorem isEmpty_dn {K : PySem.W.Frag} {H : Hp} {vs : List V} {ds : List D} (h : DnAll K H vs ds) : vs.isEmpty = ds.isEmpty := by cases h <;> rfl
theorem truth_ok {K : PySem.W.Frag} {Hb H : Hp} {d : D} {v : V} {g : Nat} {C : Bool → Nat → Prop} (hs : Same Hb H) (h : Dn K Hb v d) (ht : (truth d).ok g C) : ∃ k, TruV K v H k ∧ C k g := by
  cases h with
  | non => exact ⟨false, rfl, ht⟩
  | bl b => exact ⟨b, rfl, ht⟩
  | int i => exact ⟨_, rfl, ht⟩
  | str s => obtain ⟨h1, h2⟩ := T.ok_chk ht; exact ⟨_, ⟨ok_line h1, rfl⟩, h2⟩
  | lst h1 h2 => exact ⟨_, .inl ⟨_, SqL.of (hs _ _ h1), rfl⟩, by rw [isEmpty_dn h2]; exact ht⟩
  | tup h1 h2 => exact ⟨_, .inr (.inl ⟨_, sqT_mono hs h1, rfl⟩), by rw [isEmpty_dn h2]; exact ht⟩
  | dct _ _ _ => exact ht.elim
theorem dt_truth {e : Expr} {t : T D} (h : DX X q ρ e t) (he : ∀ (env : Env) (whole : Sem Value), isTrue e env whole = (do let v ← whole; standAt e.pos; holding [v] (truthy v)) := by intro _ _; rfl) : DT X q ρ e (t.bind truth) := fun σ Hb H g Q ok0 sl ht => by
  refine ⟨fun σ H Q => wE X e σ H fun x H' => ∃ k, TruV X.K x H' k ∧ Q k H', fun z => pt_truth pe_w (he _), ?_⟩
  refine h.run ok0 sl (T.ok_bind.mp ht) fun d g1 v Hb1 H1 c1 s1 ok1 sl1 d1 => ?_
  obtain ⟨k, e1, c2⟩ := truth_ok ok1.sub d1 c1
  exact ⟨k, e1, c2 Hb1 H1 s1 ok1⟩
end
section
variable {a b : Expr} {rest : List Expr} {ta tb : T Bool}
def andT (s t : T Bool) : T Bool := s.bind fun k => if k then t else .ret false
def orT (s t : T Bool) : T Bool := s.bind fun k => if k then .ret true else t
def notT (s : T Bool) : T Bool := s.bind fun k => .ret (!k)
theorem dt_of_dw {e : Expr} {t : T Bool} (h : DW X q ρ e t) : DT X q ρ e t := fun σ Hb H g Q ok0 sl ht => by
  obtain ⟨u, h1, h2⟩ := h σ Hb H g Q ok0 sl ht
  exact ⟨u, fun z => (h1 z).pt, h2⟩
theorem dw_and1 (h : DT X q ρ a ta) : DW X q ρ (.BoolOp .And [a] pos) ta := fun σ Hb H g Q ok0 sl ht => by
  obtain ⟨u, h1, h2⟩ := h σ Hb H g Q ok0 sl ht
  exact ⟨u, fun z => pw_and1 (h1 z), h2⟩
theorem dw_or1 (h : DT X q ρ a ta) : DW X q ρ (.BoolOp .Or [a] pos) ta := fun σ Hb H g Q ok0 sl ht => by
  obtain ⟨u, h1, h2⟩ := h σ Hb H g Q ok0 sl ht
  exact ⟨u, fun z => pw_or1 (h1 z), h2⟩
theorem dw_and (h : DT X q ρ a ta) (h2 : DW X q ρ (.BoolOp .And (b :: rest) pos) tb) : DW X q ρ (.BoolOp .And (a :: b :: rest) pos) (andT ta tb) := fun σ Hb H g Q ok0 sl ht => by
  refine ⟨_, fun z => pw_and pt_w pw_w, ?_⟩
  refine h.run ok0 sl (T.ok_bind.mp ht) fun k g1 Hb1 H1 c1 s1 ok1 sl1 => ?_
  cases k with
  | false => exact iteF (c1 Hb1 H1 s1 ok1)
  | true =>
    refine iteT ?_
    simp only [if_true] at c1
    exact h2.run ok1 sl1 c1 fun k2 g2 Hb2 H2 c2 s2 ok2 _ => c2 Hb2 H2 (s1.trans ok1 s2) ok2
theorem dw_or (h : DT X q ρ a ta) (h2 : DW X q ρ (.BoolOp .Or (b :: rest) pos) tb) : DW X q ρ (.BoolOp .Or (a :: b :: rest) pos) (orT ta tb) := fun σ Hb H g Q ok0 sl ht => by
  refine ⟨_, fun z => pw_or pt_w pw_w, ?_⟩
  refine h.run ok0 sl (T.ok_bind.mp ht) fun k g1 Hb1 H1 c1 s1 ok1 sl1 => ?_
  cases k with
  | true => exact iteT (c1 Hb1 H1 s1 ok1)
  | false =>
    refine iteF ?_
    simp only [Bool.false_eq_true, if_false] at c1
    exact h2.run ok1 sl1 c1 fun k2 g2 Hb2 H2 c2 s2 ok2 _ => c2 Hb2 H2 (s1.trans ok1 s2) ok2
theorem dt_not (h : DT X q ρ a ta) : DT X q ρ (.UnaryOp .Not a pos) (notT ta) := fun σ Hb H g Q ok0 sl ht => by
  refine ⟨_, fun z => pt_not pt_w, ?_⟩
  exact h.run ok0 sl (T.ok_bind.mp ht) fun k g1 Hb1 H1 c1 s1 ok1 _ => c1 Hb1 H1 s1 ok1
/-- as values -/
abbrev bo (t : T Bool) : T D := t.bind fun b => .ret (.bool b)
theorem dx_and1 {t : T D} (h : DX X q ρ a t) : DX X q ρ (.BoolOp .And [a] pos) t := fun σ Hb H g Q ok0 sl ht => by
  obtain ⟨u, h1, h2⟩ := h σ Hb H g Q ok0 sl ht
  exact ⟨u, fun z => pe_one (h1 z), h2⟩
theorem dx_or1 {t : T D} (h : DX X q ρ a t) : DX X q ρ (.BoolOp .Or [a] pos) t := fun σ Hb H g Q ok0 sl ht => by
  obtain ⟨u, h1, h2⟩ := h σ Hb H g Q ok0 sl ht
  exact ⟨u, fun z => pe_one (h1 z), h2⟩
theorem dx_and (h : DX X q ρ a (bo ta)) (h2 : DX X q ρ (.BoolOp .And (b :: rest) pos) (bo tb)) : DX X q ρ (.BoolOp .And (a :: b :: rest) pos) (bo (andT ta tb)) := fun σ Hb H g Q ok0 sl ht => by
  refine ⟨_, fun z => pe_and pe_w pe_w, ?_⟩
  unfold bo andT at ht
  rw [T.bind_assoc] at ht
  refine h.run ok0 sl (C := fun d g' => ∃ k, d = .bool k ∧ ((if k = true then tb else T.ret false).bind fun b => T.ret (PyData.bool b)).ok g' (PD X.K q Hb H Q)) (T.ok_bind.mpr (T.ok_mono (T.ok_bind.mp ht) fun b g' h => ⟨b, rfl, h⟩)) fun d g1 v Hb1 H1 ⟨k, e1, c1⟩ s1 ok1 sl1 d1 => ?_
  subst e1
  cases d1
  refine ⟨k, rfl, ?_⟩
  cases k with
  | false => exact iteF (c1 _ Hb1 H1 s1 ok1 (.bl false))
  | true =>
    refine iteT (h2 σ Hb1 H1 g1 Q ok1 sl1 ?_)
    simp only [if_true] at c1
    exact T.ok_mono c1 fun d g' h => pd_after ok1 s1 h
theorem dx_or (h : DX X q ρ a (bo ta)) (h2 : DX X q ρ (.BoolOp .Or (b :: rest) pos) (bo tb)) : DX X q ρ (.BoolOp .Or (a :: b :: rest) pos) (bo (orT ta tb)) := fun σ Hb H g Q ok0 sl ht => by
  refine ⟨_, fun z => pe_or pe_w pe_w, ?_⟩
  unfold bo orT at ht
  rw [T.bind_assoc] at ht
  refine h.run ok0 sl (C := fun d g' => ∃ k, d = .bool k ∧ ((if k = true then T.ret true else tb).bind fun b => T.ret (PyData.bool b)).ok g' (PD X.K q Hb H Q)) (T.ok_bind.mpr (T.ok_mono (T.ok_bind.mp ht) fun b g' h => ⟨b, rfl, h⟩)) fun d g1 v Hb1 H1 ⟨k, e1, c1⟩ s1 ok1 sl1 d1 => ?_
  subst e1
  cases d1
  refine ⟨k, rfl, ?_⟩
  cases k with
  | true => exact iteT (c1 _ Hb1 H1 s1 ok1 (.bl true))
  | false =>
    refine iteF (h2 σ Hb1 H1 g1 Q ok1 sl1 ?_)
    simp only [Bool.false_eq_true, if_false] at c1
    exact T.ok_mono c1 fun d g' h => pd_after ok1 s1 h
theorem dx_not (h : DX X q ρ a (bo ta)) : DX X q ρ (.UnaryOp .Not a pos) (bo (notT ta)) := fun σ Hb H g Q ok0 sl ht => by
  refine ⟨_, fun z => pe_not pe_w, ?_⟩
  unfold bo notT at ht
  rw [T.bind_assoc] at ht
  refine h.run ok0 sl (C := fun d g' => ∃ k, d = .bool k ∧ PD X.K q Hb H Q (.bool (!k)) g') (T.ok_bind.mpr (T.ok_mono (T.ok_bind.mp ht) fun b g' h => ⟨b, rfl, h⟩)) fun d g1 v Hb1 H1 ⟨k, e1, c1⟩ s1 ok1 sl1 d1 => ?_
  subst e1
  cases d1
  exact ⟨k, rfl, c1 _ Hb1 H1 s1 ok1 (.bl _)⟩
theorem dx_ifExp {c x y : Expr} {tc : T Bool} {tx ty : T D} (hc : DT X q ρ c tc) (hx : DX X q ρ x tx) (hy : DX X q ρ y ty) : DX X q ρ (.IfExp c x y pos) (tc.bind fun k => if k then tx else ty) := fun σ Hb H g Q ok0 sl ht => by
  refine ⟨_, fun z => pe_ifExp pt_w pe_w pe_w, ?_⟩
  refine hc.run ok0 sl (T.ok_bind.mp ht) fun k g1 Hb1 H1 c1 s1 ok1 sl1 => ?_
  cases k with
  | true =>
    refine iteT (hx σ Hb1 H1 g1 Q ok1 sl1 (T.ok_mono c1 fun d g' h => pd_after ok1 s1 h))
  | false =>
    refine iteF (hy σ Hb1 H1 g1 Q ok1 sl1 (T.ok_mono c1 fun d g' h => pd_after ok1 s1 h))
end
end
end DD
end T_DB

section T_DC
set_option Elab.async false
set_option linter.all false
set_option maxRecDepth 100000
set_option maxHeartbeats 1000000
set_option autoImplicit false
namespace DD
open PySem PySem.Spec L2
open PyProof.Rows hiding St

/-! ### operators on data -/
def addD : D → D → T D
  | .int i, .int j => .ret (.int (i + j))
  | .str s, .str t => .chk (s.length + t.length) (.ret (.str (s ++ t)))
  | .tuple xs, .tuple ys => .chk (xs.length + ys.length) (.ret (.tuple (xs ++ ys)))
  | _, _ => .fail
def catD : D → D → T (List D)
  | .list xs, .list ys => .chk (xs.length + ys.length) (.ret (xs ++ ys))
  | _, _ => .fail
def subD : D → D → T D
  | .int i, .int j => .ret (.int (i - j))
  | _, _ => .fail
def small64 (i : Int) : Bool := decide (-18446744073709551616 < i) && decide (i < 18446744073709551616)
/-- factors that can be multiplied -/
def mulOk (i j : Int) : Bool := small64 i || small64 j || decide ((Builtin.Int.intBits i : Int) + (Builtin.Int.intBits j : Int) ≤ 134217728)
def mulD : D → D → T D
  | .int i, .int j => .need (mulOk i j) (.ret (.int (i * j)))
  | _, _ => .fail
def powD : D → D → T D
  | .int i, .int j => .need (small64 i && decide (0 ≤ j) && decide (j ≤ 1000)) (.ret (.int (i ^ j.toNat)))
  | _, _ => .fail
def divD : D → D → T D
  | .int i, .int j => .need (decide (0 < j) && decide (j < 1073741824)) (.ret (.int (i / j)))
  | _, _ => .fail
def modD : D → D → T D
  | .int i, .int j => .need (decide (0 < j)) (.ret (.int (i % j)))
  | _, _ => .fail
def ltD : D → D → T Bool
  | .int i, .int j => .ret (decide (i < j))
  | _, _ => .fail
def leD : D → D → T Bool
  | .int i, .int j => .ret (decide (i ≤ j))
  | _, _ => .fail
def gtD : D → D → T Bool
  | .int i, .int j => .ret (decide (j < i))
  | _, _ => .fail
def geD : D → D → T Bool
  | .int i, .int j => .ret (decide (j ≤ i))
  | _, _ => .fail
def eqD (x y : D) : T Bool := .need (SeqAt.shaped x && SeqAt.shaped y) (.ret (PyData.eqv x y))
def neD (x y : D) : T Bool := .need (SeqAt.shaped x && SeqAt.shaped y) (.ret (!PyData.eqv x y))
def anyD (ds : List D) (x : D) : Bool := ds.any fun z => PyData.eqv z x
def inD : D → D → T Bool
  | x, .list ds => .need (SeqAt.shaped x && SeqAt.shaped (.list ds)) (.ret (anyD ds x))
  | x, .tuple ds => .need (SeqAt.shaped x && SeqAt.shaped (.tuple ds)) (.ret (anyD ds x))
  | .str c, .str z => match c.cps.toList with
    | [n] => .ret (decide (n ∈ z.cps.toList))
    | _ => .fail
  | _, _ => .fail
theorem inD_list (x : D) (ds : List D) : inD x (.list ds) = .need (SeqAt.shaped x && SeqAt.shaped (.list ds)) (.ret (anyD ds x)) := by cases x <;> rfl
theorem inD_tup (x : D) (ds : List D) : inD x (.tuple ds) = .need (SeqAt.shaped x && SeqAt.shaped (.tuple ds)) (.ret (anyD ds x)) := by cases x <;> rfl
def ninD (x y : D) : T Bool := (inD x y).bind fun b => .ret (!b)
def isNon : D → Bool
  | .none => true
  | _ => false
def isD : D → D → T Bool
  | x, .none => .ret (isNon x)
  | .bool a, .bool b => .ret (a == b)
  | _, _ => .fail
def nisD (x y : D) : T Bool := (isD x y).bind fun b => .ret (!b)
def negD : D → T D
  | .int i => .ret (.int (-i))
  | _ => .fail

section
variable {X : Ctx} {q : Option Addr}
theorem do_sub : DO X q (binaryOp .Sub) subD := fun x y dx dy Hb H g Q ok0 h1 h2 ht => by
  cases h1 <;> cases h2 <;> first
    | exact ht.elim
    | exact ⟨_, fun z => op_sub, _, _, rfl, rfl, ht _ Hb H .refl ok0 (.int _)⟩
theorem do_add : DO X q (binaryOp .Add) addD := fun x y dx dy Hb H g Q ok0 h1 h2 ht => by
  cases h1 with
  | int i =>
    cases h2 with
    | int j => exact ⟨_, fun z => op_add, _, _, rfl, rfl, ht _ Hb H .refl ok0 (.int _)⟩
    | _ => exact ht.elim
  | str i =>
    cases h2 with
    | str j =>
      obtain ⟨hz, ht⟩ := T.ok_chk ht
      exact ⟨_, fun z => op_add_str, _, _, rfl, rfl, ok_line hz, ht _ Hb H .refl ok0 (.str _)⟩
    | _ => exact ht.elim
  | tup e1 a1 =>
    cases h2 with
    | tup e2 a2 =>
      rename_i t1 vs1 ds1 t2 vs2 ds2
      obtain ⟨hz, ht⟩ := T.ok_chk ht
      refine ⟨rCatA X.K, fun z => op_catA, _, _, _, _, rfl, rfl, sqT_mono ok0.sub e1, sqT_mono ok0.sub e2, by rw [DnAll.len a1, DnAll.len a2]; exact ok_line hz, fun z => ?_, fun _ z => ?_, fun _ _ p hp => ?_⟩
      · subst z; cases a1
        exact ht _ Hb H .refl ok0 (.tup e2 a2)
      · subst z; cases a2
        rw [List.append_nil] at ht
        exact ht _ Hb H .refl ok0 (.tup e1 a1)
      · have m := same_upd (o := .tup (vs1 ++ vs2)) (ok0.sub.free hp)
        exact ht _ _ _ (.new ok0 hp) (ok0.new hp) (.tup (SqT.of upd_same) (DnAll.app (dnAll_mono m _ _ a1) (dnAll_mono m _ _ a2)))
    | _ => exact ht.elim
  | _ => exact ht.elim
theorem small_ok {i : Int} (h : small64 i = true) : -(2 ^ 64) < i ∧ i < 2 ^ 64 := by
  unfold small64 at h
  rw [Bool.and_eq_true, decide_eq_true_eq, decide_eq_true_eq] at h
  exact ⟨by have := h.1; omega, by have := h.2; omega⟩
theorem do_mul : DO X q (binaryOp .Mult) mulD := fun x y dx dy Hb H g Q ok0 h1 h2 ht => by
  cases h1 <;> cases h2 <;> first
    | exact ht.elim
    | (obtain ⟨hz, ht⟩ := T.ok_need ht
       unfold mulOk at hz
       rw [Bool.or_eq_true, Bool.or_eq_true, decide_eq_true_eq] at hz
       rcases hz with hz | hz
       · exact ⟨_, fun z => op_mul, _, _, rfl, rfl, hz.imp small_ok small_ok, ht _ Hb H .refl ok0 (.int _)⟩
       · exact ⟨_, fun z => op_mulX, _, _, rfl, rfl, hz, ht _ Hb H .refl ok0 (.int _)⟩)
theorem do_pow : DO X q (binaryOp .Pow) powD := fun x y dx dy Hb H g Q ok0 h1 h2 ht => by
  cases h1 <;> cases h2 <;> first
    | exact ht.elim
    | (obtain ⟨hz, ht⟩ := T.ok_need ht
       rw [Bool.and_eq_true, Bool.and_eq_true, decide_eq_true_eq, decide_eq_true_eq] at hz
       have hs := small_ok hz.1.1
       exact ⟨_, fun z => op_pow, _, _, rfl, rfl, ⟨hz.1.2, by have := hz.2; omega, by omega⟩, ht _ Hb H .refl ok0 (.int _)⟩)
theorem do_div : DO X q (binaryOp .FloorDiv) divD := fun x y dx dy Hb H g Q ok0 h1 h2 ht => by
  cases h1 <;> cases h2 <;> first
    | exact ht.elim
    | (obtain ⟨hz, ht⟩ := T.ok_need ht
       rw [Bool.and_eq_true, decide_eq_true_eq, decide_eq_true_eq] at hz
       exact ⟨_, fun z => op_fdiv, _, _, rfl, rfl, hz, ht _ Hb H .refl ok0 (.int _)⟩)
theorem do_mod : DO X q (binaryOp .Mod) modD := fun x y dx dy Hb H g Q ok0 h1 h2 ht => by
  cases h1 <;> cases h2 <;> first
    | exact ht.elim
    | (obtain ⟨hz, ht⟩ := T.ok_need ht
       rw [decide_eq_true_eq] at hz
       exact ⟨_, fun z => op_mod, _, _, rfl, rfl, hz, ht _ Hb H .refl ok0 (.int _)⟩)
theorem do_lt : DOB X q (compareOp .Lt) ltD := fun x y dx dy Hb H g Q ok0 h1 h2 ht => by
  cases h1 <;> cases h2 <;> first
    | exact ht.elim
    | exact ⟨_, fun z => op_lt, _, _, rfl, rfl, ht _ Hb H .refl ok0 (.bl _)⟩
theorem do_le : DOB X q (compareOp .LtE) leD := fun x y dx dy Hb H g Q ok0 h1 h2 ht => by
  cases h1 <;> cases h2 <;> first
    | exact ht.elim
    | exact ⟨_, fun z => op_le, _, _, rfl, rfl, ht _ Hb H .refl ok0 (.bl _)⟩
theorem do_gt : DOB X q (compareOp .Gt) gtD := fun x y dx dy Hb H g Q ok0 h1 h2 ht => by
  cases h1 <;> cases h2 <;> first
    | exact ht.elim
    | exact ⟨_, fun z => op_gt, _, _, rfl, rfl, ht _ Hb H .refl ok0 (.bl _)⟩
theorem do_ge : DOB X q (compareOp .GtE) geD := fun x y dx dy Hb H g Q ok0 h1 h2 ht => by
  cases h1 <;> cases h2 <;> first
    | exact ht.elim
    | exact ⟨_, fun z => op_ge, _, _, rfl, rfl, ht _ Hb H .refl ok0 (.bl _)⟩
theorem do_eq (hu : X.A.units + 64 < cLine) : DOB X q (compareOp .Eq) eqD := fun x y dx dy Hb H g Q ok0 h1 h2 ht => by
  obtain ⟨hz, ht⟩ := T.ok_need (T.ok_bind.mp ht)
  rw [Bool.and_eq_true] at hz
  exact ⟨rEqD X.K, fun z => op_eqD hu, _, _, Dn.dp _ _ (shaped_noDct hz.1) (dn_mono ok0.sub _ _ h1), Dn.dp _ _ (shaped_noDct hz.2) (dn_mono ok0.sub _ _ h2), hz.1, hz.2, ht _ Hb H .refl ok0 (.bl _)⟩
theorem do_ne (hu : X.A.units + 64 < cLine) : DOB X q (compareOp .NotEq) neD := fun x y dx dy Hb H g Q ok0 h1 h2 ht => by
  obtain ⟨hz, ht⟩ := T.ok_need (T.ok_bind.mp ht)
  rw [Bool.and_eq_true] at hz
  exact ⟨rNeD X.K, fun z => op_neD hu, _, _, Dn.dp _ _ (shaped_noDct hz.1) (dn_mono ok0.sub _ _ h1), Dn.dp _ _ (shaped_noDct hz.2) (dn_mono ok0.sub _ _ h2), hz.1, hz.2, ht _ Hb H .refl ok0 (.bl _)⟩
/-- x in a tuple, of data -/
def rInDT (K : PySem.W.Frag) (neg : Bool) : R2 := fun x y H Q => ∃ d ds, Dp K H x d ∧ Dp K H y (.tuple ds) ∧ SeqAt.shaped d = true ∧ SeqAt.shaped (.tuple ds) = true ∧ Q (.bl (if neg then !anyD ds d else anyD ds d)) H
theorem op_inDT {X : Cx} (hu : X.A.units + 65 < cLine) : OpR X (compareOp .In) (rInDT X.K false) := by
  intro pins s σ H x y v u Q I rx ry h
  obtain ⟨d, ds, hd, he, sd, se, k⟩ := h
  obtain ⟨as, r1⟩ := Dp.reads I d x v hd rx
  obtain ⟨bs, r2⟩ := Dp.reads I (.tuple ds) y u he ry
  exact SeqAt.in_tuple_reads r2 r1 (SeqAt.canLay_of_shaped se) (SeqAt.canLay_of_shaped sd) (room_in_shaped sd hu) ⟨.bl _, H, I, rfl, k⟩
theorem op_ninDT {X : Cx} (hu : X.A.units + 65 < cLine) : OpR X (compareOp .NotIn) (rInDT X.K true) := by
  intro pins s σ H x y v u Q I rx ry h
  obtain ⟨d, ds, hd, he, sd, se, k⟩ := h
  obtain ⟨as, r1⟩ := Dp.reads I d x v hd rx
  obtain ⟨bs, r2⟩ := Dp.reads I (.tuple ds) y u he ry
  exact SeqAt.notIn_tuple_reads r2 r1 (SeqAt.canLay_of_shaped se) (SeqAt.canLay_of_shaped sd) (room_in_shaped sd hu) ⟨.bl _, H, I, rfl, k⟩
theorem str_one {c : Str} {n : Nat} (h : c.cps.toList = [n]) : c = ⟨#[n]⟩ := by
  obtain ⟨a⟩ := c
  have e : a = #[n] := by
    have := congrArg List.toArray h
    simpa using this
  rw [e]
theorem do_in (hu : X.A.units + 65 < cLine) : DOB X q (compareOp .In) inD := fun x y dx dy Hb H g Q ok0 h1 h2 ht => by
  have h1' := dn_mono ok0.sub _ _ h1
  have h2' := dn_mono ok0.sub _ _ h2
  dsimp only at ht
  cases h2 with
  | lst e2 a2 =>
    rw [inD_list] at ht
    obtain ⟨hz, ht⟩ := T.ok_need (T.ok_bind.mp ht)
    rw [Bool.and_eq_true] at hz
    exact ⟨rInD X.K, fun z => op_inD hu, _, _, Dn.dp _ _ (shaped_noDct hz.1) h1', Dn.dp _ _ (shaped_noDct hz.2) h2', hz.1, hz.2, ht _ Hb H .refl ok0 (.bl _)⟩
  | tup e2 a2 =>
    rw [inD_tup] at ht
    obtain ⟨hz, ht⟩ := T.ok_need (T.ok_bind.mp ht)
    rw [Bool.and_eq_true] at hz
    exact ⟨rInDT X.K false, fun z => op_inDT hu, _, _, Dn.dp _ _ (shaped_noDct hz.1) h1', Dn.dp _ _ (shaped_noDct hz.2) h2', hz.1, hz.2, ht _ Hb H .refl ok0 (.bl _)⟩
  | str z =>
    cases h1 with
    | str c =>
      have ht : ((match c.cps.toList with
        | [n] => T.ret (decide (n ∈ z.cps.toList))
        | _ => T.fail).bind fun b => T.ret (PyData.bool b)).ok g (PD X.K q Hb H Q) := ht
      split at ht
      · rename_i n e
        exact ⟨_, fun z => op_in_sign, n, z, by rw [str_one e], rfl, ht _ Hb H .refl ok0 (.bl _)⟩
      · exact ht.elim
    | _ => exact ht.elim
  | _ => cases h1 <;> exact ht.elim
theorem do_nin (hu : X.A.units + 65 < cLine) : DOB X q (compareOp .NotIn) ninD := fun x y dx dy Hb H g Q ok0 h1 h2 ht => by
  have h1' := dn_mono ok0.sub _ _ h1
  have h2' := dn_mono ok0.sub _ _ h2
  dsimp only at ht
  unfold ninD at ht
  rw [T.bind_assoc] at ht
  cases h2 with
  | lst e2 a2 =>
    rw [inD_list] at ht
    obtain ⟨hz, ht⟩ := T.ok_need (T.ok_bind.mp ht)
    rw [Bool.and_eq_true] at hz
    exact ⟨rNotInD X.K, fun z => op_notInD hu, _, _, Dn.dp _ _ (shaped_noDct hz.1) h1', Dn.dp _ _ (shaped_noDct hz.2) h2', hz.1, hz.2, ht _ Hb H .refl ok0 (.bl _)⟩
  | tup e2 a2 =>
    rw [inD_tup] at ht
    obtain ⟨hz, ht⟩ := T.ok_need (T.ok_bind.mp ht)
    rw [Bool.and_eq_true] at hz
    exact ⟨rInDT X.K true, fun z => op_ninDT hu, _, _, Dn.dp _ _ (shaped_noDct hz.1) h1', Dn.dp _ _ (shaped_noDct hz.2) h2', hz.1, hz.2, ht _ Hb H .refl ok0 (.bl _)⟩
  | str z =>
    cases h1 with
    | str c =>
      have ht : ((match c.cps.toList with
        | [n] => T.ret (decide (n ∈ z.cps.toList))
        | _ => T.fail).bind fun b => T.ret (PyData.bool !b)).ok g (PD X.K q Hb H Q) := ht
      split at ht
      · rename_i n e
        exact ⟨_, fun z => op_notIn_sign, n, z, by rw [str_one e], rfl, ht _ Hb H .refl ok0 (.bl _)⟩
      · exact ht.elim
    | _ => exact ht.elim
  | _ => cases h1 <;> exact ht.elim
theorem isNon_dn {K : PySem.W.Frag} {H : Hp} {v : V} {d : D} (h : Dn K H v d) : decide (v = .non) = isNon d := by cases h <;> rfl
theorem do_is : DOB X q (compareOp .Is) isD := fun x y dx dy Hb H g Q ok0 h1 h2 ht => by
  cases h2 with
  | non =>
    have ht : ((T.ret (isNon dx)).bind fun b => T.ret (PyData.bool b)).ok g (PD X.K q Hb H Q) := by cases h1 <;> exact ht
    exact ⟨_, fun z => op_isN, rfl, by rw [isNon_dn h1]; exact ht _ Hb H .refl ok0 (.bl _)⟩
  | bl b =>
    cases h1 with
    | bl a =>
      refine ⟨_, fun z => op_isBl, a, b, rfl, rfl, ?_⟩
      have e : decide (a = b) = (a == b) := by cases a <;> cases b <;> rfl
      rw [e]
      exact ht _ Hb H .refl ok0 (.bl _)
    | _ => exact ht.elim
  | _ => cases h1 <;> exact ht.elim
theorem do_nis : DOB X q (compareOp .IsNot) nisD := fun x y dx dy Hb H g Q ok0 h1 h2 ht => by
  dsimp only at ht
  unfold nisD at ht
  rw [T.bind_assoc] at ht
  cases h2 with
  | non =>
    have ht : ((T.ret (isNon dx)).bind fun b => T.ret (PyData.bool !b)).ok g (PD X.K q Hb H Q) := by cases h1 <;> exact ht
    exact ⟨_, fun z => op_notN, rfl, by rw [isNon_dn h1]; exact ht _ Hb H .refl ok0 (.bl _)⟩
  | bl b =>
    cases h1 with
    | bl a =>
      refine ⟨_, fun z => op_notBl, a, b, rfl, rfl, ?_⟩
      have e : (!decide (a = b)) = (!(a == b)) := by cases a <;> cases b <;> rfl
      rw [e]
      exact ht _ Hb H .refl ok0 (.bl _)
    | _ => exact ht.elim
  | _ => cases h1 <;> exact ht.elim
variable {ρ : List Sl} {pos : Pos}
theorem dx_neg {a : Expr} {ta : T D} (h : DX X q ρ a ta) : DX X q ρ (.UnaryOp .USub a pos) (ta.bind negD) := fun σ Hb H g Q ok0 sl ht => by
  refine ⟨_, fun z => pe_un un_neg pe_w, ?_⟩
  refine h.run ok0 sl (T.ok_bind.mp ht) fun d g1 v Hb1 H1 c1 s1 ok1 sl1 d1 => ?_
  cases d1 <;> first
    | exact c1.elim
    | exact ⟨_, rfl, c1 _ Hb1 H1 s1 ok1 (.int _)⟩
/-- xs + ys: a new list -/
theorem df_cat {a b : Expr} {ta tb : T D} (ha : DX X q ρ a ta) (hb : DX X q ρ b tb) : DF X q ρ (.BinOp a .Add b pos) (ta.bind fun x => tb.bind fun y => catD x y) := fun σ Hb H g Q ok0 sl ht => by
  refine ⟨_, fun z => pe_op op_cat pe_w pe_w, ?_⟩
  refine ha.run ok0 sl (T.ok_bind.mp ht) fun d g1 v Hb1 H1 c1 s1 ok1 sl1 d1 => ?_
  refine hb.run ok1 sl1 (T.ok_bind.mp c1) fun d' g2 v' Hb2 H2 c2 s2 ok2 sl2 d2 => ?_
  have d1 := dn_mono s2.ext _ _ d1
  cases d1 with
  | lst e1 a1 =>
    cases d2 with
    | lst e2 a2 =>
      obtain ⟨hz, c2⟩ := T.ok_chk c2
      have s12 := s1.trans ok1 s2
      refine ⟨_, _, _, _, rfl, rfl, ok2.sub _ _ e1, ok2.sub _ _ e2, by rw [DnAll.len a1, DnAll.len a2]; exact ok_line hz, fun p hp => ?_⟩
      exact c2 p _ Hb2 _ (s12.trans ok2 (.own hp)) (ok2.own hp) (ok2.sub.free hp) (step_free ok0 s12 (free_nq ok2 hp) hp) upd_same (DnAll.app a1 a2)
    | _ => exact c2.elim
  | _ => exact c2.elim
/-- xs * k: a new list -/
def repD : D → D → T (List D)
  | .list xs, .int k => .need (decide (-(2 ^ 63) ≤ k) && decide (k < 2 ^ 63)) (.chk (xs.length * k.toNat) (.ret (List.replicate k.toNat xs).flatten))
  | _, _ => .fail
theorem DnAll.flat {K : PySem.W.Frag} {H : Hp} {vs : List V} {ds : List D} (h : DnAll K H vs ds) : ∀ n : Nat, DnAll K H (List.replicate n vs).flatten (List.replicate n ds).flatten
  | 0 => .nil
  | n + 1 => by
    rw [List.replicate_succ, List.replicate_succ, List.flatten_cons, List.flatten_cons]
    exact DnAll.app h (DnAll.flat h n)
theorem df_rep {a b : Expr} {ta tb : T D} (ha : DX X q ρ a ta) (hb : DX X q ρ b tb) : DF X q ρ (.BinOp a .Mult b pos) (ta.bind fun x => tb.bind fun y => repD x y) := fun σ Hb H g Q ok0 sl ht => by
  refine ⟨_, fun z => pe_op op_rep pe_w pe_w, ?_⟩
  refine ha.run ok0 sl (T.ok_bind.mp ht) fun d g1 v Hb1 H1 c1 s1 ok1 sl1 d1 => ?_
  refine hb.run ok1 sl1 (T.ok_bind.mp c1) fun d' g2 v' Hb2 H2 c2 s2 ok2 sl2 d2 => ?_
  have d1 := dn_mono s2.ext _ _ d1
  cases d1 with
  | lst e1 a1 =>
    cases d2 with
    | int k =>
      obtain ⟨hk, c2⟩ := T.ok_need c2
      obtain ⟨hz, c2⟩ := T.ok_chk c2
      rw [Bool.and_eq_true, decide_eq_true_eq, decide_eq_true_eq] at hk
      have s12 := s1.trans ok1 s2
      refine ⟨_, _, _, rfl, rfl, ok2.sub _ _ e1, hk.1, hk.2, by rw [DnAll.len a1]; exact ok_line hz, fun p hp => ?_⟩
      exact c2 p _ Hb2 _ (s12.trans ok2 (.own hp)) (ok2.own hp) (ok2.sub.free hp) (step_free ok0 s12 (free_nq ok2 hp) hp) upd_same (DnAll.flat a1 _)
    | _ => exact c2.elim
  | _ => exact c2.elim

/-! ### items, slices -/
def ixD : D → D → T D
  | .list ds, .int i => match atI ds i with | some d => .ret d | none => .fail
  | .tuple ds, .int i => match atI ds i with | some d => .ret d | none => .fail
  | .str z, .int i => match atI z.cps.toList i with | some c => .chk z.length (.ret (.str ⟨#[c]⟩)) | none => .fail
  | _, _ => .fail
theorem DnAll.at {K : PySem.W.Frag} {H : Hp} {vs : List V} {ds : List D} {i : Int} {d : D} (h : DnAll K H vs ds) (e : atI ds i = some d) : ∃ v, atI vs i = some v ∧ Dn K H v d := by
  unfold atI at e ⊢
  rw [DnAll.len h]
  cases q : ixN ds.length i with
  | none => rw [q] at e; cases e
  | some j =>
    rw [q] at e
    obtain ⟨v, h1, h2⟩ := DnAll.get h (show ds[j]? = some d from e)
    exact ⟨v, h1, h2⟩
theorem dx_ix {a b : Expr} {ta tb : T D} (ha : DX X q ρ a ta) (hb : DX X q ρ b tb) (hs : PlainIx b := by exact fun _ _ => rfl) : DX X q ρ (.Subscript a b pos) (ta.bind fun x => tb.bind fun y => ixD x y) := fun σ Hb H g Q ok0 sl ht => by
  refine ⟨tOp (rIx X.K) (wE X a) (wE X b), fun z => pe_ix ix_seq pe_w pe_w hs, ?_⟩
  refine ha.run ok0 sl (T.ok_bind.mp ht) fun d g1 v Hb1 H1 c1 s1 ok1 sl1 d1 => ?_
  refine hb.run ok1 sl1 (T.ok_bind.mp c1) fun d' g2 v' Hb2 H2 c2 s2 ok2 sl2 d2 => ?_
  have d1 := dn_mono s2.ext _ _ d1
  have s12 := s1.trans ok1 s2
  cases d1 with
  | lst e1 a1 =>
    cases d2 with
    | int k =>
      simp only [ixD] at c2
      split at c2
      · rename_i dd e
        obtain ⟨w, h1, h2⟩ := DnAll.at a1 e
        exact .inl ⟨_, _, _, w, rfl, rfl, SqL.of (ok2.sub _ _ e1), h1, c2 w Hb2 H2 s12 ok2 h2⟩
      · exact c2.elim
    | _ => exact c2.elim
  | tup e1 a1 =>
    cases d2 with
    | int k =>
      simp only [ixD] at c2
      split at c2
      · rename_i dd e
        obtain ⟨w, h1, h2⟩ := DnAll.at a1 e
        exact .inr (.inl ⟨_, _, _, w, rfl, rfl, sqT_mono ok2.sub e1, h1, c2 w Hb2 H2 s12 ok2 h2⟩)
      · exact c2.elim
    | _ => exact c2.elim
  | str z =>
    cases d2 with
    | int k =>
      simp only [ixD] at c2
      split at c2
      · rename_i cc e
        obtain ⟨hz, c2⟩ := T.ok_chk c2
        exact .inr (.inr ⟨_, _, cc, rfl, rfl, ok_line hz, e, c2 _ Hb2 H2 s12 ok2 (.str _)⟩)
      · exact c2.elim
    | _ => exact c2.elim
  | _ => exact c2.elim
def wPO (X : Ctx) (e : Option Expr) : TO := fun σ H Q => ∃ u : TO, (∀ z, PO (X.at z) e u) ∧ u σ H Q
theorem po_w {X : Ctx} {z : Rst X} {e : Option Expr} : PO (X.at z) e (wPO X e) := ⟨fun pins s σ H Q I ⟨_, h, k⟩ => (h z).run pins s σ H Q I k⟩
/-- a part of a slice -/
def DP (X : Ctx) (q : Option Addr) (ρ : List Sl) (e : Option Expr) (t : T (Option Int)) : Prop :=
  ∀ σ Hb H g (Q : Option Int → Hp → Prop), Ok X.K q Hb H g → Sls X.K q Hb H ρ σ → t.ok g (fun o g' => ∀ Hb' H', Step q Hb H Hb' H' → Ok X.K q Hb' H' g' → Q o H') → wPO X e σ H Q
theorem dp_none : DP X q ρ none (.ret none) := fun σ Hb H g Q ok0 sl ht => ⟨_, fun z => po_none, ht Hb H .refl ok0⟩
def partD : D → T (Option Int)
  | .int i => .ret (some i)
  | _ => .fail
theorem dp_some {e : Expr} {t : T D} (h : DX X q ρ e t) : DP X q ρ (some e) (t.bind partD) := fun σ Hb H g Q ok0 sl ht => by
  refine ⟨_, fun z => po_some pe_w, ?_⟩
  refine h.run ok0 sl (T.ok_bind.mp ht) fun d g1 v Hb1 H1 c1 s1 ok1 sl1 d1 => ?_
  cases d1 <;> first
    | exact c1.elim
    | exact ⟨_, rfl, c1 Hb1 H1 s1 ok1⟩
def cutD {α : Type} (xs : List α) (lo hi : Option Int) : List α := (xs.drop (HT.sIx xs.length 0 lo)).take (HT.sIx xs.length xs.length hi - HT.sIx xs.length 0 lo)
theorem DnAll.cut {K : PySem.W.Frag} {H : Hp} {vs : List V} {ds : List D} (h : DnAll K H vs ds) (lo hi : Option Int) : DnAll K H (cutV vs lo hi) (cutD ds lo hi) := by
  unfold cutV cutD
  rw [DnAll.len h]
  exact DnAll.take _ (DnAll.drop _ h)
def slD : D → Option Int → Option Int → T D
  | .tuple ds, lo, hi => .ret (.tuple (cutD ds lo hi))
  | _, _, _ => .fail
def slLD : D → Option Int → Option Int → T (List D)
  | .list ds, lo, hi => .ret (cutD ds lo hi)
  | _, _, _ => .fail
variable {e : Expr} {lo hi : Option Expr} {p2 : Pos} {te : T D} {tl th : T (Option Int)}
theorem cut_whole {α : Type} {xs : List α} {lo hi : Option Int} (h : HT.sIx xs.length 0 lo = 0 ∧ HT.sIx xs.length xs.length hi = xs.length) : cutD xs lo hi = xs := by
  unfold cutD
  rw [h.1, h.2, List.drop_zero, Nat.sub_zero, List.take_length]
/-- t[lo:hi] of a tuple -/
theorem dx_sl (he : DX X q ρ e te) (hl : DP X q ρ lo tl) (hh : DP X q ρ hi th) : DX X q ρ (.Subscript e (.Slice lo hi none p2) pos) (te.bind fun x => tl.bind fun l => th.bind fun u => slD x l u) := fun σ Hb H g Q ok0 sl ht => by
  refine ⟨tSl (rSlA X.K) (wE X e) (wPO X lo) (wPO X hi), fun z => pe_slice sl_tupA pe_w po_w po_w, ?_⟩
  refine he.run ok0 sl (T.ok_bind.mp ht) fun d g1 v Hb1 H1 c1 s1 ok1 sl1 d1 => ?_
  refine hl σ Hb1 H1 g1 _ ok1 sl1 (T.ok_mono (T.ok_bind.mp c1) fun l g2 c2 Hb2 H2 s2 ok2 => ?_)
  refine hh σ Hb2 H2 g2 _ ok2 (sl1.step s2) (T.ok_mono (T.ok_bind.mp c2) fun u g3 c3 Hb3 H3 s3 ok3 => ?_)
  have d1 := dn_mono (s2.ext.trans s3.ext) _ _ d1
  have s13 := (s1.trans ok1 s2).trans ok2 s3
  cases d1 with
  | tup e1 a1 =>
    refine ⟨_, _, rfl, sqT_mono ok3.sub e1, fun hw => ?_, fun hw p hp => ?_⟩
    · rw [DnAll.len a1] at hw
      have c3 := c3
      simp only [slD, cut_whole hw] at c3
      exact c3 _ Hb3 H3 s13 ok3 (.tup e1 a1)
    · exact c3 _ _ _ (s13.trans ok3 (.new ok3 hp)) (ok3.new hp) (.tup (SqT.of upd_same) (dnAll_mono (same_upd (ok3.sub.free hp)) _ _ (DnAll.cut a1 _ _)))
  | _ => exact c3.elim
/-- xs[lo:hi] of a list: a new list -/
theorem df_sl (he : DX X q ρ e te) (hl : DP X q ρ lo tl) (hh : DP X q ρ hi th) : DF X q ρ (.Subscript e (.Slice lo hi none p2) pos) (te.bind fun x => tl.bind fun l => th.bind fun u => slLD x l u) := fun σ Hb H g Q ok0 sl ht => by
  refine ⟨tSl (rSlL X.K) (wE X e) (wPO X lo) (wPO X hi), fun z => pe_slice sl_list pe_w po_w po_w, ?_⟩
  refine he.run ok0 sl (T.ok_bind.mp ht) fun d g1 v Hb1 H1 c1 s1 ok1 sl1 d1 => ?_
  refine hl σ Hb1 H1 g1 _ ok1 sl1 (T.ok_mono (T.ok_bind.mp c1) fun l g2 c2 Hb2 H2 s2 ok2 => ?_)
  refine hh σ Hb2 H2 g2 _ ok2 (sl1.step s2) (T.ok_mono (T.ok_bind.mp c2) fun u g3 c3 Hb3 H3 s3 ok3 => ?_)
  have d1 := dn_mono (s2.ext.trans s3.ext) _ _ d1
  have s13 := (s1.trans ok1 s2).trans ok2 s3
  cases d1 with
  | lst e1 a1 =>
    refine ⟨_, _, rfl, SqL.of (ok3.sub _ _ e1), fun p hp => ?_⟩
    exact c3 p _ Hb3 _ (s13.trans ok3 (.own hp)) (ok3.own hp) (ok3.sub.free hp) (step_free ok0 s13 (free_nq ok3 hp) hp) upd_same (DnAll.cut a1 _ _)
  | _ => exact c3.elim
end
end DD
end T_DC

section T_DE
set_option Elab.async false
set_option linter.all false
set_option maxRecDepth 100000
set_option maxHeartbeats 1000000
set_option autoImplicit false
namespace DD
open PySem PySem.Spec L2
open PyProof.Rows hiding St

/-! ### calls of built-ins -/
section
variable {X : Ctx} {q : Option Addr} {ρ : List Sl} {pos p : Pos} {x : Str} {e e1 e2 : Expr} {es : List Expr}
/-- f(e, ..), f a built-in function, by what it makes of data -/
theorem dx_callB {id : String} {m : List D → T D} {ts : T (List D)} (hc : DC X q (.builtin id) m) (hg : Gb X x) (hm : X.mg x = none) (hv : bootBuiltins x = some (.builtin id)) (ha : DA X q ρ (e :: es) ts) (hn : x ≠ "__name__" := by decide) (hdb : (x == ("__debug__" : Str)) = false := by decide)
    (he : ∀ env : Env, starEach (e :: es) env = (false, eval e env) :: starEach es env := by intro _; rfl) (hpl : ∀ env : Env, (backTo pos (starEach es env)).any (·.1) = false := by intro _; rfl) : DX X q ρ (.Call (.Name x p) (e :: es) [] pos) (ts.bind m) := fun σ Hb H g Q ok0 sl ht => by
  refine ⟨_, fun z => pe_callB cr_w (hg.gl z) hm hv pa_w hn hdb (he _) (hpl _), ?_⟩
  refine ha.run ok0 sl (T.ok_bind.mp ht) fun ds g1 vs Hb1 H1 c1 s1 ok1 sl1 d1 => ?_
  exact hc _ _ Hb1 H1 g1 _ ok1 d1 (T.ok_mono c1 fun d g' h => pd_after ok1 s1 h)
theorem dx_callTy {n : String} {m : List D → T D} {ts : T (List D)} (hc : DC X q (.type n) m) (hg : Gb X x) (hm : X.mg x = none) (hv : bootBuiltins x = some (.type n)) (ha : DA X q ρ (e :: es) ts) (hn : x ≠ "__name__" := by decide) (hdb : (x == ("__debug__" : Str)) = false := by decide)
    (he : ∀ env : Env, starEach (e :: es) env = (false, eval e env) :: starEach es env := by intro _; rfl) (hpl : ∀ env : Env, (backTo pos (starEach es env)).any (·.1) = false := by intro _; rfl) : DX X q ρ (.Call (.Name x p) (e :: es) [] pos) (ts.bind m) := fun σ Hb H g Q ok0 sl ht => by
  refine ⟨_, fun z => pe_callTy cr_w (hg.gl z) hm hv pa_w hn hdb (he _) (hpl _), ?_⟩
  refine ha.run ok0 sl (T.ok_bind.mp ht) fun ds g1 vs Hb1 H1 c1 s1 ok1 sl1 d1 => ?_
  exact hc _ _ Hb1 H1 g1 _ ok1 d1 (T.ok_mono c1 fun d g' h => pd_after ok1 s1 h)
/-- one argument -/
def arg1 (m : D → T D) : List D → T D
  | [d] => m d
  | _ => .fail
def DC1 (X : Ctx) (q : Option Addr) (f : Value) (m : D → T D) : Prop := DC X q f (arg1 m)
theorem dx_b1 {id : String} {m : D → T D} {t : T D} (hc : DC1 X q (.builtin id) m) (hg : Gb X x) (hm : X.mg x = none) (hv : bootBuiltins x = some (.builtin id)) (h : DX X q ρ e t) (hn : x ≠ "__name__" := by decide) (hdb : (x == ("__debug__" : Str)) = false := by decide)
    (he : ∀ env : Env, starEach [e] env = (false, eval e env) :: starEach [] env := by intro _; rfl) (hpl : ∀ env : Env, (backTo pos (starEach [] env)).any (·.1) = false := by intro _; rfl) : DX X q ρ (.Call (.Name x p) [e] [] pos) (t.bind m) := by
  have k := dx_callB (p := p) (pos := pos) hc hg hm hv (da_cons h da_nil he) hn hdb he hpl
  simp only [T.bind_assoc, T.ret_bind] at k
  exact k
theorem dx_ty1 {n : String} {m : D → T D} {t : T D} (hc : DC1 X q (.type n) m) (hg : Gb X x) (hm : X.mg x = none) (hv : bootBuiltins x = some (.type n)) (h : DX X q ρ e t) (hn : x ≠ "__name__" := by decide) (hdb : (x == ("__debug__" : Str)) = false := by decide)
    (he : ∀ env : Env, starEach [e] env = (false, eval e env) :: starEach [] env := by intro _; rfl) (hpl : ∀ env : Env, (backTo pos (starEach [] env)).any (·.1) = false := by intro _; rfl) : DX X q ρ (.Call (.Name x p) [e] [] pos) (t.bind m) := by
  have k := dx_callTy (p := p) (pos := pos) hc hg hm hv (da_cons h da_nil he) hn hdb he hpl
  simp only [T.bind_assoc, T.ret_bind] at k
  exact k
theorem one_of {K : PySem.W.Frag} {Hb H : Hp} {vs : List V} {ds : List D} {m : D → T D} {g : Nat} {C : D → Nat → Prop} (h : DnAll K Hb vs ds) (ht : (arg1 m ds).ok g C) : ∃ v d, vs = [v] ∧ ds = [d] ∧ Dn K Hb v d ∧ (m d).ok g C := by
  cases h with
  | nil => exact ht.elim
  | cons h1 t =>
    cases t with
    | nil => exact ⟨_, _, rfl, rfl, h1, ht⟩
    | cons _ _ => exact ht.elim
def lenD : D → T D
  | .list ds => .ret (.int ds.length)
  | .tuple ds => .ret (.int ds.length)
  | .str s => .chk s.length (.ret (.int s.length))
  | _ => .fail
theorem dc_len : DC1 X q (.builtin "len") lenD := fun xs ds Hb H g Q ok0 hd ht => by
  obtain ⟨v, d, rfl, rfl, h1, ht⟩ := one_of (H := H) hd ht
  cases h1 with
  | lst e1 a1 => exact ⟨fun xs H Q => ∃ x n, xs = [x] ∧ LenV X.K x H n ∧ Q (.int n) H, fun z => call_len, _, _, rfl, .inl ⟨_, SqL.of (ok0.sub _ _ e1), rfl⟩, by rw [DnAll.len a1]; exact ht _ Hb H .refl ok0 (.int _)⟩
  | tup e1 a1 => exact ⟨fun xs H Q => ∃ x n, xs = [x] ∧ LenV X.K x H n ∧ Q (.int n) H, fun z => call_len, _, _, rfl, .inr ⟨_, sqT_mono ok0.sub e1, rfl⟩, by rw [DnAll.len a1]; exact ht _ Hb H .refl ok0 (.int _)⟩
  | str s =>
    obtain ⟨hz, ht⟩ := T.ok_chk ht
    exact ⟨fun xs H Q => ∃ x n, xs = [x] ∧ LenV X.K x H n ∧ Q (.int n) H, fun z => call_len, _, _, rfl, ⟨ok_line hz, rfl⟩, ht _ Hb H .refl ok0 (.int _)⟩
  | _ => exact ht.elim
def intD : D → T D
  | .int i => .ret (.int i)
  | .bool b => .ret (.int (if b then 1 else 0))
  | _ => .fail
theorem dc_int : DC1 X q (.type "int") intD := fun xs ds Hb H g Q ok0 hd ht => by
  obtain ⟨v, d, rfl, rfl, h1, ht⟩ := one_of (H := H) hd ht
  cases h1 with
  | int i => exact ⟨_, fun z => call_int1, .inl ⟨_, rfl, ht _ Hb H .refl ok0 (.int _)⟩⟩
  | bl b => exact ⟨_, fun z => call_int1, .inr ⟨_, rfl, ht _ Hb H .refl ok0 (.int _)⟩⟩
  | _ => exact ht.elim
def tupleD : D → T D
  | .list ds => .ret (.tuple ds)
  | .tuple ds => .ret (.tuple ds)
  | _ => .fail
theorem dc_tuple : DC1 X q (.type "tuple") tupleD := fun xs ds Hb H g Q ok0 hd ht => by
  obtain ⟨v, d, rfl, rfl, h1, ht⟩ := one_of (H := H) hd ht
  cases h1 with
  | lst e1 a1 =>
    exact ⟨fun xs H Q => ∃ p ys, xs = [.ref p] ∧ ((SqL X.K H p ys ∧ ∀ l, H l = none → Q (.ref l) (upd H l (.tup ys))) ∨ (SqT X.K H p ys ∧ Q (.ref p) H)), fun z => call_tuple_of, _, _, rfl, .inl ⟨SqL.of (ok0.sub _ _ e1), fun p hp => ht _ _ _ (.new ok0 hp) (ok0.new hp) (.tup (SqT.of upd_same) (dnAll_mono (same_upd (ok0.sub.free hp)) _ _ a1))⟩⟩
  | tup e1 a1 => exact ⟨fun xs H Q => ∃ p ys, xs = [.ref p] ∧ ((SqL X.K H p ys ∧ ∀ l, H l = none → Q (.ref l) (upd H l (.tup ys))) ∨ (SqT X.K H p ys ∧ Q (.ref p) H)), fun z => call_tuple_of, _, _, rfl, .inr ⟨sqT_mono ok0.sub e1, ht _ Hb H .refl ok0 (.tup e1 a1)⟩⟩
  | _ => exact ht.elim
/-- what a list of Bools holds -/
def boolsD : List D → Option (List Bool)
  | [] => some []
  | .bool b :: l => (boolsD l).map (b :: ·)
  | _ :: _ => none
theorem boolsD_map (bs : List Bool) : boolsD (bs.map .bool) = some bs := by
  induction bs with
  | nil => rfl
  | cons b bs ih => simp only [List.map_cons, boolsD, ih, Option.map_some]
theorem bools_dn {K : PySem.W.Frag} {H : Hp} : ∀ (ds : List D) {vs : List V} {bs : List Bool}, DnAll K H vs ds → boolsD ds = some bs → vs = bs.map V.bl
  | [], _, bs, h, e => by cases h; cases e; rfl
  | d :: ds, _, bs, h, e => by
    cases h with
    | cons h1 t =>
      cases h1 with
      | bl b =>
        cases z : boolsD ds with
        | none => simp only [boolsD, z] at e; cases e
        | some bs' =>
          simp only [boolsD, z, Option.map_some, Option.some.injEq] at e
          subst e
          rw [List.map_cons, bools_dn ds t z]
      | _ => cases e
def allD : D → T Bool
  | .list ds => match boolsD ds with | some bs => .ret (bs.all id) | none => .fail
  | _ => .fail
def anyB : D → T Bool
  | .list ds => match boolsD ds with | some bs => .ret (bs.any id) | none => .fail
  | _ => .fail
theorem dc_all : DC1 X q (.builtin "all") fun d => bo (allD d) := fun xs ds Hb H g Q ok0 hd ht => by
  obtain ⟨v, d, rfl, rfl, h1, ht⟩ := one_of (H := H) hd ht
  have ht := T.ok_bind.mp ht
  cases h1 with
  | lst e1 a1 =>
    simp only [allD] at ht
    split at ht
    · rename_i bs e
      have := bools_dn _ a1 e
      subst this
      exact ⟨rAll X.K, fun z => cr_all rfl, _, bs, rfl, SqL.of (ok0.sub _ _ e1), ht _ Hb H .refl ok0 (.bl _)⟩
    · exact ht.elim
  | _ => exact ht.elim
theorem dc_any : DC1 X q (.builtin "any") fun d => bo (anyB d) := fun xs ds Hb H g Q ok0 hd ht => by
  obtain ⟨v, d, rfl, rfl, h1, ht⟩ := one_of (H := H) hd ht
  have ht := T.ok_bind.mp ht
  cases h1 with
  | lst e1 a1 =>
    simp only [anyB] at ht
    split at ht
    · rename_i bs e
      have := bools_dn _ a1 e
      subst this
      exact ⟨rAny X.K, fun z => cr_any rfl, _, bs, rfl, SqL.of (ok0.sub _ _ e1), ht _ Hb H .refl ok0 (.bl _)⟩
    · exact ht.elim
  | _ => exact ht.elim
/-- what a list of ints holds -/
def intsD : List D → Option (List Int)
  | [] => some []
  | .int b :: l => (intsD l).map (b :: ·)
  | _ :: _ => none
theorem intsD_map (bs : List Int) : intsD (bs.map .int) = some bs := by
  induction bs with
  | nil => rfl
  | cons b bs ih => simp only [List.map_cons, intsD, ih, Option.map_some]
theorem ints_dn {K : PySem.W.Frag} {H : Hp} : ∀ (ds : List D) {vs : List V} {bs : List Int}, DnAll K H vs ds → intsD ds = some bs → vs = bs.map V.int
  | [], _, bs, h, e => by cases h; cases e; rfl
  | d :: ds, _, bs, h, e => by
    cases h with
    | cons h1 t =>
      cases h1 with
      | int b =>
        cases z : intsD ds with
        | none => simp only [intsD, z] at e; cases e
        | some bs' =>
          simp only [intsD, z, Option.map_some, Option.some.injEq] at e
          subst e
          rw [List.map_cons, ints_dn ds t z]
      | _ => cases e
def sumD : D → T D
  | .list ds => match intsD ds with | some bs => .ret (.int bs.sum) | none => .fail
  | _ => .fail
theorem dc_sum : DC1 X q (.builtin "sum") sumD := fun xs ds Hb H g Q ok0 hd ht => by
  obtain ⟨v, d, rfl, rfl, h1, ht⟩ := one_of (H := H) hd ht
  cases h1 with
  | lst e1 a1 =>
    simp only [sumD] at ht
    split at ht
    · rename_i bs e
      have := ints_dn _ a1 e
      subst this
      exact ⟨rSum X.K, fun z => cr_sum rfl, _, bs, rfl, SqL.of (ok0.sub _ _ e1), ht _ Hb H .refl ok0 (.int _)⟩
    · exact ht.elim
  | _ => exact ht.elim
/-- all(e), any(e) as tests and values -/
theorem dx_all {t : T D} (hg : Gb X "all") (hm : X.mg "all" = none) (h : DX X q ρ e t)
    (he : ∀ env : Env, starEach [e] env = (false, eval e env) :: starEach [] env := by intro _; rfl) (hpl : ∀ env : Env, (backTo pos (starEach [] env)).any (·.1) = false := by intro _; rfl) : DX X q ρ (.Call (.Name "all" p) [e] [] pos) (bo (t.bind allD)) := by
  have k := dx_b1 (p := p) (pos := pos) dc_all hg hm (by decide +kernel) h (by decide) (by decide) he hpl
  rw [← T.bind_assoc] at k
  exact k
theorem dx_any {t : T D} (hg : Gb X "any") (hm : X.mg "any" = none) (h : DX X q ρ e t)
    (he : ∀ env : Env, starEach [e] env = (false, eval e env) :: starEach [] env := by intro _; rfl) (hpl : ∀ env : Env, (backTo pos (starEach [] env)).any (·.1) = false := by intro _; rfl) : DX X q ρ (.Call (.Name "any" p) [e] [] pos) (bo (t.bind anyB)) := by
  have k := dx_b1 (p := p) (pos := pos) dc_any hg hm (by decide +kernel) h (by decide) (by decide) he hpl
  rw [← T.bind_assoc] at k
  exact k
/-- list(x): a new list -/
def listD : D → T (List D)
  | .list ds => .ret ds
  | .tuple ds => .ret ds
  | _ => .fail
theorem df_list {t : T D} (hg : Gb X "list") (hm : X.mg "list" = none) (h : DX X q ρ e t) (he : ∀ env : Env, starEach [e] env = (false, eval e env) :: starEach [] env := by intro _; rfl)
    (hpl : ∀ env : Env, (backTo pos (starEach [] env)).any (·.1) = false := by intro _; rfl) : DF X q ρ (.Call (.Name "list" p) [e] [] pos) (t.bind listD) := fun σ Hb H g Q ok0 sl ht => by
  refine ⟨tCB (fun xs H Q => ∃ p ys, xs = [.ref p] ∧ (SqL X.K H p ys ∨ SqT X.K H p ys) ∧ ∀ l, H l = none → Q (.ref l) (upd H l (.lst ys))) (tCons (wE X e) tNil), fun z => pe_callTy call_list_of (hg.gl z) hm (by decide +kernel) (pa_cons pe_w pa_nil (he _)) (by decide) (by decide) (he _) (hpl _), ?_⟩
  refine h.run ok0 sl (T.ok_bind.mp ht) fun d g1 v Hb1 H1 c1 s1 ok1 sl1 d1 => ?_
  cases d1 with
  | lst e1 a1 => exact ⟨_, _, rfl, .inl (SqL.of (ok1.sub _ _ e1)), fun l hl => c1 l _ Hb1 _ (s1.trans ok1 (.own hl)) (ok1.own hl) (ok1.sub.free hl) (step_free ok0 s1 (free_nq ok1 hl) hl) upd_same a1⟩
  | tup e1 a1 => exact ⟨_, _, rfl, .inr (sqT_mono ok1.sub e1), fun l hl => c1 l _ Hb1 _ (s1.trans ok1 (.own hl)) (ok1.own hl) (ok1.sub.free hl) (step_free ok0 s1 (free_nq ok1 hl) hl) upd_same a1⟩
  | _ => exact c1.elim
/-- isinstance(x, T) of a built-in type -/
def tyD : D → String
  | .none => "NoneType"
  | .bool _ => "bool"
  | .int _ => "int"
  | .str _ => "str"
  | .list _ => "list"
  | .tuple _ => "tuple"
  | .dict _ => "dict"
def isiD (n : String) (d : D) : Bool := (tyD d == n) || (n == "int" && tyD d == "bool")
theorem tyX_dn {K : PySem.W.Frag} {Hb H : Hp} {v : V} {d : D} (hs : Same Hb H) (h : Dn K Hb v d) : TyX K H v (.type (tyD d)) := by
  cases h with
  | non => exact .base .non
  | bl b => exact .base (.bl b)
  | int i => exact .base (.int i)
  | str s => exact .base (.str s)
  | lst h1 h2 => exact .base (.lst (hs _ _ h1))
  | dct h1 _ _ => exact .fDict (hs _ _ h1)
  | tup h1 h2 =>
    rcases h1 with (h | ⟨o, h⟩) | ⟨o, its, n, h, h', _⟩
    · exact .base (.tup (hs _ _ h))
    · exact .fTuple (hs _ _ h)
    · exact .kTuple h h'
theorem dx_isi {t : T D} {n : String} {x2 : Str} {p2 : Pos} (hk : ∀ a ∈ ["NoneType", "bool", "int", "str", "list", "tuple", "dict"], kitB a n = some ((a == n) || (n == "int" && a == "bool"))) (hg : Gb X "isinstance") (hm : X.mg "isinstance" = none) (hg2 : Gb X x2) (hm2 : X.mg x2 = none) (hv2 : bootBuiltins x2 = some (.type n)) (h : DX X q ρ e t)
    (hn2 : x2 ≠ "__name__" := by decide) (hdb2 : (x2 == ("__debug__" : Str)) = false := by decide)
    (he : ∀ env : Env, starEach [e, .Name x2 p2] env = (false, eval e env) :: starEach [.Name x2 p2] env := by intro _; rfl) (he2 : ∀ env : Env, starEach [.Name x2 p2] env = (false, eval (.Name x2 p2) env) :: starEach [] env := by intro _; rfl)
    (hpl : ∀ env : Env, (backTo pos (starEach [.Name x2 p2] env)).any (·.1) = false := by intro _; rfl) : DX X q ρ (.Call (.Name "isinstance" p) [e, .Name x2 p2] [] pos) (bo (t.bind fun d => .ret (isiD n d))) := fun σ Hb H g Q ok0 sl ht => by
  refine ⟨tCB (rIsi X.K) (tCons (wE X e) (tCons (tC (.ty n)) tNil)), fun z => pe_callB call_isi (hg.gl z) hm (by decide +kernel) (pa_cons pe_w (pa_cons (pe_bltn (v := .ty n) (hg2.gl z) hm2 hv2 rfl hn2 hdb2) pa_nil (he2 _)) (he _)) (by decide) (by decide) (he _) (hpl _), ?_⟩
  refine h.run ok0 sl (T.ok_bind.mp (T.ok_bind.mp ht)) fun d g1 v Hb1 H1 c1 s1 ok1 sl1 d1 => ?_
  refine ⟨v, .ty n, .type (tyD d), .type n, isiD n d, rfl, .ty n, tyX_dn ok1.sub d1, kit_ty ?_, c1 _ Hb1 H1 s1 ok1 (.bl _)⟩
  refine hk (tyD d) ?_
  cases d <;> simp [tyD]
end

/-! ### targets: what is bound to which slots -/
def wG (X : Ctx) (tg : Expr) : TG := fun v σ H Q => ∃ G : TG, (∀ z, PG (X.at z) tg G) ∧ G v σ H Q
theorem pg_w {X : Ctx} {z : Rst X} {tg : Expr} : PG (X.at z) tg (wG X tg) := ⟨fun pins s σ H v u Q I r ⟨_, h, k⟩ => (h z).run pins s σ H v u Q I r k⟩
/-- the item x, standing for d, is taken apart as dec tells; the slots are then env of it; ix: the slots that are set -/
structure DG (X : Ctx) (q : Option Addr) (ρ : List Sl) (ix : List Nat) {π : Type} (tg : Expr) (dec : D → Option π) (env : π → List Sl) : Prop where
  run : ∀ (v : V) (d : D) (σ : L2.St) (Hb H : Hp) (g : Nat) (Q : L2.St → Hp → Prop) (b : π), Ok X.K q Hb H g → Sls X.K q Hb H ρ σ → Dn X.K Hb v d → dec d = some b →
    (∀ σ', Sls X.K q Hb H (env b) σ' → σ'.length = σ.length → (∀ i, i ∉ ix → σ'[i]? = σ[i]?) → Q σ' H) → wG X tg v σ H Q
  how : ∀ (b : π) (i : Nat) (ds : List D), (env b)[i]? = some (Sl.ow ds) → i ∉ ix ∧ ρ[i]? = some (Sl.ow ds)
theorem how_set {ρ : List Sl} {i j : Nat} {d : D} {ds : List D} (e : (ρ.set i (.va d))[j]? = some (Sl.ow ds)) : j ∉ [i] ∧ ρ[j]? = some (Sl.ow ds) := by
  have n : i ≠ j := by
    rintro rfl
    rw [List.getElem?_set] at e
    split at e <;> (try split at e) <;> simp_all
  rw [List.getElem?_set_ne n] at e
  exact ⟨by simpa using Ne.symm n, e⟩
section
variable {X : Ctx} {q : Option Addr} {ρ : List Sl} {pos : Pos}
theorem dg_nm (i : Nat) {x : Str} (hN : X.N.Nodup) (hi : X.N[i]? = some x) (hx : Loc X.sc x) (hf : X.fn x = true ∨ X.sc.names.lookup x = some .local := by first | exact .inl rfl | exact .inr rfl | assumption) :
    DG X q ρ [i] (.Name x pos) some fun d => ρ.set i (.va d) := by
  refine ⟨fun v d σ Hb H g Q b ok0 sl hd e ht => ?_, fun b j ds e => how_set e⟩
  cases e
  refine ⟨_, fun z => pg_name hN hi (by rw [z.hsc]; exact hx) (by rw [z.hsc]; exact hf), ht _ (sl.setVa hd) (by rw [List.length_set]) fun j hj => ?_⟩
  rw [List.getElem?_set_ne (fun e => hj (by simp [e]))]
section
variable {π1 π2 π3 : Type} {ix1 ix2 ix3 : List Nat} {t1 t2 t3 : Expr} {k : Nat} {dec1 : D → Option π1} {dec2 : D → Option π2} {dec3 : D → Option π3} {env1 : π1 → List Sl} {env2 : π1 → π2 → List Sl} {env3 : π1 → π2 → π3 → List Sl}
def pairO (dec1 : D → Option π1) (dec2 : D → Option π2) : D → Option (π1 × π2)
  | .tuple [x, y] => (dec1 x).bind fun b1 => (dec2 y).bind fun b2 => some (b1, b2)
  | _ => none
def tripO (dec1 : D → Option π1) (dec2 : D → Option π2) (dec3 : D → Option π3) : D → Option (π1 × π2 × π3)
  | .tuple [x, y, z] => (dec1 x).bind fun b1 => (dec2 y).bind fun b2 => (dec3 z).bind fun b3 => some (b1, b2, b3)
  | _ => none
theorem pairO_some {d : D} {b : π1 × π2} (e : pairO dec1 dec2 d = some b) : ∃ x y, d = .tuple [x, y] ∧ dec1 x = some b.1 ∧ dec2 y = some b.2 := by
  unfold pairO at e
  split at e
  · rename_i x y
    obtain ⟨b1, h1, e⟩ := Option.bind_eq_some_iff.mp e
    obtain ⟨b2, h2, e⟩ := Option.bind_eq_some_iff.mp e
    cases e
    exact ⟨x, y, rfl, h1, h2⟩
  · cases e
theorem tripO_some {d : D} {b : π1 × π2 × π3} (e : tripO dec1 dec2 dec3 d = some b) : ∃ x y z, d = .tuple [x, y, z] ∧ dec1 x = some b.1 ∧ dec2 y = some b.2.1 ∧ dec3 z = some b.2.2 := by
  unfold tripO at e
  split at e
  · rename_i x y z
    obtain ⟨b1, h1, e⟩ := Option.bind_eq_some_iff.mp e
    obtain ⟨b2, h2, e⟩ := Option.bind_eq_some_iff.mp e
    obtain ⟨b3, h3, e⟩ := Option.bind_eq_some_iff.mp e
    cases e
    exact ⟨x, y, z, rfl, h1, h2, h3⟩
  · cases e
theorem dg_2 (h1 : DG X q ρ ix1 t1 dec1 env1) (h2 : ∀ b, DG X q (env1 b) ix2 t2 dec2 (env2 b))
    (hs1 : ∀ env : Env, (assignEach [t1, t2] env).map (·.2) = assign t1 env :: (assignEach [t2] env).map (·.2) := by intro _; rfl) (hs2 : ∀ env : Env, (assignEach [t2] env).map (·.2) = assign t2 env :: (assignEach [] env).map (·.2) := by intro _; rfl)
    (hn : ∀ env : Env, (assignEach [t1, t2] env).length = 2 := by intro _; rfl) (hst : ∀ env : Env, (assignEach [t1, t2] env).findIdx? (·.1) = none := by intro _; rfl) :
    DG X q ρ (ix1 ++ ix2) (.Tuple [t1, t2] k pos) (pairO dec1 dec2) fun b => env2 b.1 b.2 := by
  refine ⟨fun v d σ Hb H g Q b ok0 sl hd e ht => ?_, fun b i ds e => ?_⟩
  rotate_left
  · obtain ⟨n2, e2⟩ := (h2 b.1).how b.2 i ds e
    obtain ⟨n1, e1⟩ := h1.how b.1 i ds e2
    exact ⟨by rw [List.mem_append, not_or]; exact ⟨n1, n2⟩, e1⟩
  obtain ⟨x, y, rfl, e1, e2⟩ := pairO_some e
  refine ⟨gTup X.K 2 (gCons (wG X t1) (gCons (wG X t2) gNil)), fun z => pg_tup rfl (pgs_cons pg_w (pgs_cons pg_w pgs_nil (hs2 _)) (hs1 _)) (hn _) (hst _), ?_⟩
  cases hd with
  | tup hq ha =>
    cases ha with
    | cons a1 ha =>
      cases ha with
      | cons a2 ha =>
        cases ha
        refine ⟨_, _, rfl, sqT_mono ok0.sub hq, rfl, _, _, rfl, h1.run _ _ σ Hb H g _ _ ok0 sl a1 e1 fun σ1 sl1 l1 k1 => ?_⟩
        refine ⟨_, _, rfl, (h2 b.1).run _ _ σ1 Hb H g _ _ ok0 sl1 a2 e2 fun σ2 sl2 l2 k2 => ?_⟩
        refine ⟨rfl, ht _ sl2 (l2.trans l1) fun i hi => ?_⟩
        rw [List.mem_append, not_or] at hi
        rw [k2 i hi.2, k1 i hi.1]
theorem dg_3 (h1 : DG X q ρ ix1 t1 dec1 env1) (h2 : ∀ b, DG X q (env1 b) ix2 t2 dec2 (env2 b)) (h3 : ∀ b c, DG X q (env2 b c) ix3 t3 dec3 (env3 b c))
    (hs1 : ∀ env : Env, (assignEach [t1, t2, t3] env).map (·.2) = assign t1 env :: (assignEach [t2, t3] env).map (·.2) := by intro _; rfl) (hs2 : ∀ env : Env, (assignEach [t2, t3] env).map (·.2) = assign t2 env :: (assignEach [t3] env).map (·.2) := by intro _; rfl)
    (hs3 : ∀ env : Env, (assignEach [t3] env).map (·.2) = assign t3 env :: (assignEach [] env).map (·.2) := by intro _; rfl)
    (hn : ∀ env : Env, (assignEach [t1, t2, t3] env).length = 3 := by intro _; rfl) (hst : ∀ env : Env, (assignEach [t1, t2, t3] env).findIdx? (·.1) = none := by intro _; rfl) :
    DG X q ρ (ix1 ++ (ix2 ++ ix3)) (.Tuple [t1, t2, t3] k pos) (tripO dec1 dec2 dec3) fun b => env3 b.1 b.2.1 b.2.2 := by
  refine ⟨fun v d σ Hb H g Q b ok0 sl hd e ht => ?_, fun b i ds e => ?_⟩
  rotate_left
  · obtain ⟨n3, e3⟩ := (h3 b.1 b.2.1).how b.2.2 i ds e
    obtain ⟨n2, e2⟩ := (h2 b.1).how b.2.1 i ds e3
    obtain ⟨n1, e1⟩ := h1.how b.1 i ds e2
    exact ⟨by rw [List.mem_append, not_or, List.mem_append, not_or]; exact ⟨n1, n2, n3⟩, e1⟩
  obtain ⟨x, y, z, rfl, e1, e2, e3⟩ := tripO_some e
  refine ⟨gTup X.K 3 (gCons (wG X t1) (gCons (wG X t2) (gCons (wG X t3) gNil))), fun z => pg_tup rfl (pgs_cons pg_w (pgs_cons pg_w (pgs_cons pg_w pgs_nil (hs3 _)) (hs2 _)) (hs1 _)) (hn _) (hst _), ?_⟩
  cases hd with
  | tup hq ha =>
    cases ha with
    | cons a1 ha =>
      cases ha with
      | cons a2 ha =>
        cases ha with
        | cons a3 ha =>
          cases ha
          refine ⟨_, _, rfl, sqT_mono ok0.sub hq, rfl, _, _, rfl, h1.run _ _ σ Hb H g _ _ ok0 sl a1 e1 fun σ1 sl1 l1 k1 => ?_⟩
          refine ⟨_, _, rfl, (h2 b.1).run _ _ σ1 Hb H g _ _ ok0 sl1 a2 e2 fun σ2 sl2 l2 k2 => ?_⟩
          refine ⟨_, _, rfl, (h3 b.1 b.2.1).run _ _ σ2 Hb H g _ _ ok0 sl2 a3 e3 fun σ3 sl3 l3 k3 => ?_⟩
          refine ⟨rfl, ht _ sl3 (l3.trans (l2.trans l1)) fun i hi => ?_⟩
          rw [List.mem_append, not_or, List.mem_append, not_or] at hi
          rw [k3 i hi.2.2, k2 i hi.2.1, k1 i hi.1]
end
end

/-! ### what is walked -/
/-- the walk J hands out the items ds -/
def Wk (K : PySem.W.Frag) (q : Option Addr) (J : It) (Hb : Hp) (ds : List D) : Prop :=
  ∀ (i : Nat) (Hb1 H1 : Hp) (g : Nat), Same Hb Hb1 → Ok K q Hb1 H1 g →
    (∀ d, ds[i]? = some d → J.go i H1 ∧ ∀ x H2, J.yld i H1 x H2 → ∃ Hb2, Step q Hb1 H1 Hb2 H2 ∧ Ok K q Hb2 H2 g ∧ Dn K Hb2 x d) ∧ (ds.length ≤ i → J.stop i H1)
def DI (X : Ctx) (q : Option Addr) (ρ : List Sl) (tg iter : Expr) (t : T (List D)) : Prop :=
  ∀ σ Hb H g (R : It → Hp → Prop), Ok X.K q Hb H g → Sls X.K q Hb H ρ σ → t.ok g (fun ds g' => ∀ J Hb' H', Step q Hb H Hb' H' → Ok X.K q Hb' H' g' → Wk X.K q J Hb' ds → R J H') → wI X tg iter σ H R
section
variable {X : Ctx} {q : Option Addr} {ρ : List Sl} {pos p : Pos} {tg e e1 e2 : Expr}
theorem wk_list {K : PySem.W.Frag} {a : Addr} {vs : List V} {Hb : Hp} {ds : List D} (e : Hb a = some (.lst vs)) (h : DnAll K Hb vs ds) : Wk K q (Itl K a) Hb ds := fun i Hb1 H1 g s ok1 => by
  have hq : SqL K H1 a vs := SqL.of (ok1.sub _ _ (s _ _ e))
  refine ⟨fun d hd => ?_, fun hi => ⟨vs, hq, by rw [DnAll.len h]; exact hi⟩⟩
  obtain ⟨v, h1, h2⟩ := DnAll.get h hd
  refine ⟨⟨vs, v, hq, h1⟩, fun x H2 ⟨eH, y⟩ => ?_⟩
  subst eH
  have := y vs hq
  rw [h1] at this
  cases this
  exact ⟨Hb1, .refl, ok1, dn_mono s _ _ h2⟩
theorem wk_tup {K : PySem.W.Frag} {a : Addr} {vs : List V} {Hb : Hp} {ds : List D} (e : SqT K Hb a vs) (h : DnAll K Hb vs ds) : Wk K q (Itt K a) Hb ds := fun i Hb1 H1 g s ok1 => by
  have hq : SqT K H1 a vs := sqT_mono ok1.sub (sqT_mono s e)
  refine ⟨fun d hd => ?_, fun hi => ⟨vs, hq, by rw [DnAll.len h]; exact hi⟩⟩
  obtain ⟨v, h1, h2⟩ := DnAll.get h hd
  refine ⟨⟨vs, v, hq, h1⟩, fun x H2 ⟨eH, y⟩ => ?_⟩
  subst eH
  have := y vs hq
  rw [h1] at this
  cases this
  exact ⟨Hb1, .refl, ok1, dn_mono s _ _ h2⟩
def itemsL : D → T (List D)
  | .list ds => .ret ds
  | _ => .fail
def itemsT : D → T (List D)
  | .tuple ds => .ret ds
  | _ => .fail
def itemsS : D → T (List D)
  | .str s => .ret (s.cps.toList.map fun c => .str ⟨#[c]⟩)
  | _ => .fail
/-- over a list, a tuple, a text -/
theorem di_list {t : T D} (h : DX X q ρ e t) : DI X q ρ tg e (t.bind itemsL) := fun σ Hb H g R ok0 sl ht => by
  refine ⟨iList X.K (wE X e), fun z => pi_list pe_w, ?_⟩
  refine h.run ok0 sl (T.ok_bind.mp ht) fun d g1 v Hb1 H1 c1 s1 ok1 sl1 d1 => ?_
  cases d1 with
  | lst e1 a1 => exact ⟨_, rfl, ⟨_, SqL.of (ok1.sub _ _ e1)⟩, c1 _ Hb1 H1 s1 ok1 (wk_list e1 a1)⟩
  | _ => exact c1.elim
theorem di_tup {t : T D} (h : DX X q ρ e t) : DI X q ρ tg e (t.bind itemsT) := fun σ Hb H g R ok0 sl ht => by
  refine ⟨iTup X.K (wE X e), fun z => pi_tup pe_w, ?_⟩
  refine h.run ok0 sl (T.ok_bind.mp ht) fun d g1 v Hb1 H1 c1 s1 ok1 sl1 d1 => ?_
  cases d1 with
  | tup e1 a1 => exact ⟨_, rfl, ⟨_, sqT_mono ok1.sub e1⟩, c1 _ Hb1 H1 s1 ok1 (wk_tup e1 a1)⟩
  | _ => exact c1.elim
theorem di_str {t : T D} (h : DX X q ρ e t) : DI X q ρ tg e (t.bind itemsS) := fun σ Hb H g R ok0 sl ht => by
  refine ⟨_, fun z => pi_str pe_w, ?_⟩
  refine h.run ok0 sl (T.ok_bind.mp ht) fun d g1 v Hb1 H1 c1 s1 ok1 sl1 d1 => ?_
  cases d1 with
  | str z =>
    refine ⟨_, rfl, c1 _ Hb1 H1 s1 ok1 fun i Hb2 H2 g2 s2 ok2 => ⟨fun d hd => ?_, fun hi => ?_⟩⟩
    · rw [List.getElem?_map] at hd
      cases hz : z.cps.toList[i]? with
      | none => rw [hz] at hd; cases hd
      | some c =>
        rw [hz] at hd
        cases hd
        have hz' : z.cps[i]? = some c := by rw [← Array.getElem?_toList]; exact hz
        refine ⟨?_, fun x H3 y => ?_⟩
        · show i < z.cps.size
          exact (Array.getElem?_eq_some_iff.mp hz').1
        · obtain ⟨eH, c', h1, h2⟩ := y
          subst eH h2
          rw [hz'] at h1
          cases h1
          exact ⟨Hb2, .refl, ok2, .str _⟩
    · rw [List.length_map, Array.length_toList] at hi
      exact hi
  | _ => exact c1.elim
/-- over range(n), range(a, b) -/
def rangeL (lo hi : Int) : List D := (List.range (hi - lo).toNat).map fun (i : Nat) => .int (lo + (i : Nat))
def big62 (i : Int) : Bool := decide (-(2 ^ 62) ≤ i) && decide (i < 2 ^ 62)
theorem big_ok {i : Int} (h : big62 i = true) : -(2 ^ 62) ≤ i ∧ i < 2 ^ 62 := by
  unfold big62 at h
  rw [Bool.and_eq_true, decide_eq_true_eq, decide_eq_true_eq] at h
  exact h
theorem wk_range {K : PySem.W.Frag} {Hb : Hp} (lo : Int) (n : Nat) : Wk K q (Itr lo n) Hb ((List.range n).map fun i => .int (lo + (i : Nat))) := fun i Hb1 H1 g s ok1 => by
  refine ⟨fun d hd => ?_, fun hi => ?_⟩
  · rw [List.getElem?_map] at hd
    by_cases hlt : i < n
    · rw [List.getElem?_range hlt] at hd
      cases hd
      refine ⟨hlt, fun x H2 ⟨e1, e2⟩ => ?_⟩
      subst e1 e2
      exact ⟨Hb1, .refl, ok1, .int _⟩
    · rw [List.getElem?_eq_none (by rw [List.length_range]; omega)] at hd
      cases hd
  · rw [List.length_map, List.length_range] at hi
    exact hi
def range1 : D → T (List D)
  | .int j => .need (big62 j) (.ret (rangeL 0 j))
  | _ => .fail
def range2 : D → D → T (List D)
  | .int i, .int j => .need (big62 i && big62 j) (.ret (rangeL i j))
  | _, _ => .fail
theorem di_range1 {t : T D} (hg : Gb X "range") (hm : X.mg "range" = none) (h : DX X q ρ e t) (hs : ∀ env : Env, starEach [e] env = [(false, eval e env)] := by intro _; rfl) : DI X q ρ tg (.Call (.Name "range" p) [e] [] pos) (t.bind range1) := fun σ Hb H g R ok0 sl ht => by
  refine ⟨_, fun z => pi_range1 (hg.gl z) hm (pa_cons pe_w pa_nil (hs _)) (hs _), ?_⟩
  refine h.run ok0 sl (T.ok_bind.mp ht) fun d g1 v Hb1 H1 c1 s1 ok1 sl1 d1 => ?_
  cases d1 with
  | int j =>
    obtain ⟨hz, c1⟩ := T.ok_need c1
    have hb := big_ok hz
    refine ⟨j, rfl, hb.1, hb.2, c1 _ Hb1 H1 s1 ok1 ?_⟩
    unfold rangeL
    rw [Int.sub_zero]
    exact wk_range 0 j.toNat
  | _ => exact c1.elim
theorem di_range2 {ta tb : T D} (hg : Gb X "range") (hm : X.mg "range" = none) (ha : DX X q ρ e1 ta) (hb : DX X q ρ e2 tb) (hs : ∀ env : Env, starEach [e1, e2] env = [(false, eval e1 env), (false, eval e2 env)] := by intro _; rfl) (hs2 : ∀ env : Env, starEach [e2] env = [(false, eval e2 env)] := by intro _; rfl) :
    DI X q ρ tg (.Call (.Name "range" p) [e1, e2] [] pos) (ta.bind fun a => tb.bind fun b => range2 a b) := fun σ Hb H g R ok0 sl ht => by
  refine ⟨_, fun z => pi_range2 (hg.gl z) hm (pa_cons pe_w (pa_cons pe_w pa_nil (hs2 _)) (by rw [hs, hs2])) (hs _) (hs2 _), ?_⟩
  refine ha.run ok0 sl (T.ok_bind.mp ht) fun d g1 v Hb1 H1 c1 s1 ok1 sl1 d1 => ?_
  refine hb.run ok1 sl1 (T.ok_bind.mp c1) fun d' g2 v' Hb2 H2 c2 s2 ok2 sl2 d2 => ?_
  cases d1 with
  | int i =>
    cases d2 with
    | int j =>
      obtain ⟨hz, c2⟩ := T.ok_need c2
      rw [Bool.and_eq_true] at hz
      have h1 := big_ok hz.1
      have h2 := big_ok hz.2
      exact ⟨i, j, rfl, ⟨h1.1, h1.2, h2.1, h2.2⟩, c2 _ Hb2 H2 (s1.trans ok1 s2) ok2 (wk_range i _)⟩
    | _ => exact c2.elim
  | _ => cases d2 <;> exact c2.elim
end
end DD
end T_DE

section T_DM
set_option Elab.async false
set_option linter.all false
set_option maxRecDepth 100000
set_option maxHeartbeats 1000000
set_option autoImplicit false
namespace DD
open PySem PySem.Spec L2
open PyProof.Rows hiding St

/-! ### comprehensions -/
theorem T.ok_some {α : Type} {t : T α} : ∀ {g : Nat} {Q : α → Nat → Prop}, t.ok g Q → ∃ a g', Q a g' := by
  induction t with
  | ret a => exact fun h => ⟨a, _, h⟩
  | fail => exact fun h => h.elim
  | draw n k ih => exact fun ⟨h1, _, g', _, h⟩ => ih 0 (h 0 h1)
  | next k ih => exact fun ⟨g', _, h⟩ => ih h
def T.opt {α : Type} : Option α → T α
  | some a => .ret a
  | none => .fail
def Ctx.blk (X : Ctx) (scope : Scope) : Ctx := { X with sc := relS scope X.sc, fn := fun x => scope.names.lookup x == some .cell, W := WF, fr := false }
theorem relabel_relS {scope : Scope} {env : Env} {sc : Scope} (h : env.scope = sc) : relabel scope env = relS scope sc := by
  subst h
  rfl
def Rst.blk {X : Ctx} (z : Rst X) (scope : Scope) (s : Shared) (H : Hp) (C : Addr) (cl : List (Str × Addr)) (fp : List Addr) : Rst (X.blk scope) :=
  ⟨z.base, s, H, compEnvC scope cl C z.env, z.stack, z.stack, fp, [], fun _ _ => False, relabel_relS z.hsc, PassesOwn.never, takesF, fun h => nomatch h⟩
/-- the slots of a block's own names -/
def wipeR (ρ : List Sl) : List Nat → List Sl
  | [] => ρ
  | v :: vs => (wipeR ρ vs).set v .un
theorem Sls.wipe {K : PySem.W.Frag} {q : Option Addr} {Hb H : Hp} {ρ : List Sl} {σ : L2.St} (h : Sls K q Hb H ρ σ) : ∀ vs : List Nat, Sls K q Hb H (wipeR ρ vs) (L2.wipe σ vs)
  | [] => h
  | v :: vs => (h.wipe vs).setUn
theorem wipe_in {σ : L2.St} : ∀ {vs : List Nat} {i : Nat}, i ∈ vs → i < σ.length → (L2.wipe σ vs)[i]? = some none
  | v :: vs, i, h, hl => by
    unfold L2.wipe
    by_cases e : v = i
    · subst e
      rw [List.getElem?_set_self (by rw [wipe_length]; exact hl)]
    · rw [List.getElem?_set_ne e]
      rcases List.mem_cons.mp h with z | z
      · exact absurd z.symm e
      · exact wipe_in z hl
theorem wipe_same {σ σ2 : L2.St} {vs ix : List Nat} (hl : σ2.length = σ.length) (hk : ∀ i, i ∉ ix → σ2[i]? = (L2.wipe σ vs)[i]?) (hi : ∀ i ∈ ix, i ∈ vs) : L2.wipe σ2 vs = L2.wipe σ vs := by
  apply List.ext_getElem?
  intro i
  by_cases h : i ∈ vs
  · by_cases hlt : i < σ.length
    · rw [wipe_in h hlt, wipe_in h (by rw [hl]; exact hlt)]
    · rw [List.getElem?_eq_none (by rw [wipe_length, hl]; omega), List.getElem?_eq_none (by rw [wipe_length]; omega)]
  · rw [wipe_out h]
    exact hk i fun z => h (hi i z)
def wTs (X : Ctx) (ifs : List Expr) : TT := fun σ H Q => ∃ u : TT, (∀ z, PTs (X.at z) ifs u) ∧ u σ H Q
theorem pts_w {X : Ctx} {z : Rst X} {ifs : List Expr} : PTs (X.at z) ifs (wTs X ifs) := ⟨fun pins s σ H Q I ⟨_, h, k⟩ => (h z).run pins s σ H Q I k⟩
def DTs (X : Ctx) (q : Option Addr) (ρ : List Sl) (ifs : List Expr) (t : T Bool) : Prop := ∀ σ Hb H g Q, Ok X.K q Hb H g → Sls X.K q Hb H ρ σ → t.ok g (PB X.K q Hb H Q) → wTs X ifs σ H Q
section
variable {X : Ctx} {q : Option Addr} {ρ : List Sl}
theorem dts_nil : DTs X q ρ [] (.ret true) := fun σ Hb H g Q ok0 sl ht => ⟨_, fun z => pts_nil, ht Hb H .refl ok0⟩
theorem dts_one {c : Expr} {t : T Bool} (h : DT X q ρ c t) : DTs X q ρ [c] t := fun σ Hb H g Q ok0 sl ht => ⟨_, fun z => pts_one pt_w, h σ Hb H g Q ok0 sl ht⟩
/-- what one item comes to -/
def itemT {π : Type} (dec : D → Option π) (tc : π → T Bool) (te : π → T D) (d : D) : T (Option D) := (T.opt (dec d)).bind fun b => (tc b).bind fun k => if k then (te b).bind fun e => .ret (some e) else .ret none
theorem opt_ok {α : Type} {o : Option α} {g : Nat} {C : α → Nat → Prop} (h : (T.opt o).ok g C) : ∃ a, o = some a ∧ C a g := by
  cases o with
  | none => exact h.elim
  | some a => exact ⟨a, rfl, h⟩
theorem turn_ok {π : Type} {ix : List Nat} {tg elt : Expr} {ifs : List Expr} {dec : D → Option π} {env : π → List Sl} {tc : π → T Bool} {te : π → T D} (dg : DG X q ρ ix tg dec env) (hc : ∀ b, DTs X q (env b) ifs (tc b)) (he : ∀ b, DX X q (env b) elt (te b))
    {σ : L2.St} {Hb H : Hp} {g : Nat} {x : V} {d : D} {C : Option D → Nat → Prop} {K0 : Hp → Prop} {K1 : V → Hp → Prop} {L : L2.St → Prop} (ok0 : Ok X.K q Hb H g) (sl : Sls X.K q Hb H ρ σ) (hd : Dn X.K Hb x d) (ht : (itemT dec tc te d).ok g C)
    (hL : ∀ σ2 : L2.St, σ2.length = σ.length → (∀ i, i ∉ ix → σ2[i]? = σ[i]?) → L σ2)
    (h0 : ∀ Hb' H' g', Step q Hb H Hb' H' → Ok X.K q Hb' H' g' → C none g' → K0 H') (h1 : ∀ y e Hb' H' g', Step q Hb H Hb' H' → Ok X.K q Hb' H' g' → Dn X.K Hb' y e → C (some e) g' → K1 y H') :
    wG X tg x σ H fun σ2 H2 => L σ2 ∧ wTs X ifs σ2 H2 fun k H3 => if k = true then wE X elt σ2 H3 K1 else K0 H3 := by
  obtain ⟨b, eb, ht⟩ := opt_ok (T.ok_bind.mp ht)
  refine dg.run x d σ Hb H g _ b ok0 sl hd eb fun σ2 sl2 l2 k2 => ⟨hL σ2 l2 k2, ?_⟩
  refine hc b σ2 Hb H g _ ok0 sl2 (T.ok_mono (T.ok_bind.mp ht) fun k g1 c1 Hb1 H1 s1 ok1 => ?_)
  cases k with
  | false => exact iteF (h0 Hb1 H1 g1 s1 ok1 c1)
  | true =>
    refine iteT ((he b).run ok1 (sl2.step s1) (T.ok_bind.mp c1) fun e g2 y Hb2 H2 c2 s2 ok2 _ d2 => ?_)
    exact h1 y e Hb2 H2 g2 (s1.trans ok1 s2) ok2 d2 c2
/-- a list that is being built -/
structure Bd (K : PySem.W.Frag) (q : Option Addr) (Dd : Addr) (Hb H : Hp) (acc : List D) : Prop where
  ex : ∃ vs, H Dd = some (.lst vs) ∧ DnAll K Hb vs acc
  nb : Hb Dd = Option.none
  nq : q ≠ some Dd
theorem Bd.step {K : PySem.W.Frag} {Dd : Addr} {Hb H Hb' H' : Hp} {acc : List D} (h : Bd K q Dd Hb H acc) (s : Step q Hb H Hb' H') : Bd K q Dd Hb' H' acc := by
  obtain ⟨vs, e, dv⟩ := h.ex
  exact ⟨⟨vs, s.keep _ _ e h.nq, dnAll_mono s.ext _ _ dv⟩, s.stay _ _ e h.nb, h.nq⟩
/-- an item is put behind -/
theorem Bd.more {K : PySem.W.Frag} {Dd : Addr} {Hb H : Hp} {acc : List D} {vs : List V} {y : V} {e : D} {g : Nat} (h : Bd K q Dd Hb H acc) (ok0 : Ok K q Hb H g) (hv : H Dd = some (.lst vs)) (hd : Dn K Hb y e) :
    Bd K q Dd Hb (upd H Dd (.lst (vs ++ [y]))) (acc ++ [e]) ∧ Ok K q Hb (upd H Dd (.lst (vs ++ [y]))) g := by
  obtain ⟨vs', e', dv⟩ := h.ex
  rw [hv] at e'
  cases e'
  refine ⟨⟨⟨_, upd_same, DnAll.app dv (.cons hd .nil)⟩, h.nb, h.nq⟩, fun b u hb => ?_, fun a ha => ⟨(ok0.pool a ha).1, ?_⟩⟩
  · rw [upd_ne (fun z => by rw [z, h.nb] at hb; cases hb)]
    exact ok0.sub _ _ hb
  · exact (ok0.pool a ha).2.keep (Same.refl _) fun u hu => by rw [upd_ne fun z => h.nq (by rw [ha, z])]; exact hu
theorem Step.mut {Hb H Hb' H' : Hp} {Dd : Addr} {o : HO} (s : Step q Hb H Hb' H') (h : H Dd = Option.none) : Step q Hb H Hb' (upd H' Dd o) :=
  ⟨s.ext, fun b u hb n => by rw [upd_ne (ne_of_none hb h)]; exact s.keep b u hb n, s.stay⟩
section
variable {π : Type} {scope : Scope} {vs ix : List Nat} {tg iter elt : Expr} {ifs : List Expr} {ts : T (List D)} {dec : D → Option π} {env : π → List Sl} {tc : π → T Bool} {te : π → T D}
/-- what a comprehension of one clause comes to -/
def lcT (ts : T (List D)) (dec : D → Option π) (tc : π → T Bool) (te : π → T D) : T (List D) := ts.bind fun ds => .chk ds.length (T.filtM (itemT dec tc te) ds)
theorem lc_deep (di : DI X q ρ tg iter ts) (dg : DG (X.blk scope) q (wipeR ρ vs) ix tg dec env) (hix : ∀ i ∈ ix, i ∈ vs) (hc : ∀ b, DTs (X.blk scope) q (env b) ifs (tc b)) (he : ∀ b, DX (X.blk scope) q (env b) elt (te b))
    {σ : L2.St} {Hb H : Hp} {g : Nat} {Q : V → Hp → Prop} (ok0 : Ok X.K q Hb H g) (sl : Sls X.K q Hb H ρ σ) (ht : (lcT ts dec tc te).ok g (PF X.K q Hb H Q)) :
    tLc (wI X tg iter) (wG (X.blk scope) tg) (wTs (X.blk scope) ifs) (wE (X.blk scope) elt) vs σ H Q := by
  refine di σ Hb H g _ ok0 sl (T.ok_mono (T.ok_bind.mp ht) fun ds g1 c1 J Hb1 H1 s1 ok1 wk => ?_)
  obtain ⟨hz, c1⟩ := T.ok_chk c1
  intro Dd hD
  refine ⟨fun i m H2 => m = ds.length - i ∧ i ≤ ds.length ∧ ∃ Hb2 g2 acc, Step q Hb1 H1 Hb2 H2 ∧ Ok X.K q Hb2 H2 g2 ∧ Bd X.K q Dd Hb2 H2 acc ∧ acc.length ≤ i ∧
    (T.filtM (itemT dec tc te) (ds.drop i)).ok g2 (fun r g' => PF X.K q Hb H Q (acc ++ r) g'), ⟨ds.length, rfl, Nat.zero_le _, Hb1, g1, [], .own hD, ok1.own hD, ⟨⟨[], upd_same, .nil⟩, ok1.sub.free hD, free_nq ok1 hD⟩, Nat.le_refl _, c1⟩, ?_⟩
  rintro i m H2 ⟨rfl, hi, Hb2, g2, acc, s2, ok2, bd, ha, c2⟩
  obtain ⟨wgo, wstop⟩ := wk i Hb2 H2 g2 s2.ext ok2
  by_cases hlt : i < ds.length
  · refine .inr ?_
    obtain ⟨go, yl⟩ := wgo _ (List.getElem?_eq_getElem hlt)
    refine ⟨go, fun H' => ∃ Hb2 g2 acc, Step q Hb1 H1 Hb2 H' ∧ Ok X.K q Hb2 H' g2 ∧ Bd X.K q Dd Hb2 H' acc ∧ acc.length ≤ i + 1 ∧ (T.filtM (itemT dec tc te) (ds.drop (i + 1))).ok g2 (fun r g' => PF X.K q Hb H Q (acc ++ r) g'),
      fun H' p => ⟨ds.length - (i + 1), by omega, rfl, hlt, p⟩, fun x H3 y => ?_⟩
    obtain ⟨Hb3, s3, ok3, dx⟩ := yl x H3 y
    have sl3 : Sls X.K q Hb3 H3 (wipeR ρ vs) (L2.wipe σ vs) := (((sl.step s1).step s2).step s3).wipe vs
    rw [List.drop_eq_getElem_cons hlt] at c2
    have bd3 := bd.step s3
    have s13 : Step q Hb1 H1 Hb3 H3 := s2.trans ok2 s3
    refine turn_ok dg hc he ok3 sl3 dx (T.ok_bind.mp c2) (fun σ2 l2 k2 => wipe_same (by rw [l2, wipe_length]) k2 hix) (fun Hb' H' g' s' ok' c' => ?_) fun y' e Hb' H' g' s' ok' d' c' => ?_
    · refine ⟨Hb', g', acc, s13.trans ok3 s', ok', bd3.step s', by omega, ?_⟩
      exact T.ok_mono (T.ok_bind.mp c') fun r g'' h => h
    · have bd4 := bd3.step s'
      obtain ⟨vs4, e4, d4⟩ := bd4.ex
      obtain ⟨bd5, ok5⟩ := bd4.more ok' e4 d'
      refine ⟨vs4, e4, by rw [DnAll.len d4, sizeLine_eq]; omega, Hb', g', acc ++ [e], (s13.trans ok3 s').mut hD, ok5, bd5, by simp only [List.length_append, List.length_singleton]; omega, ?_⟩
      refine T.ok_mono (T.ok_bind.mp c') fun r g'' h => ?_
      have h : PF X.K q Hb H Q (acc ++ e :: r) g'' := h
      rw [List.append_assoc]
      exact h
  · have e : i = ds.length := by omega
    subst e
    refine .inl ⟨wstop (Nat.le_refl _), ?_⟩
    rw [List.drop_length] at c2
    have c2 : PF X.K q Hb H Q (acc ++ []) g2 := c2
    rw [List.append_nil] at c2
    obtain ⟨vs4, e4, d4⟩ := bd.ex
    exact c2 Dd vs4 Hb2 H2 (s1.trans ok1 s2) ok2 bd.nb (step_free ok0 s1 (free_nq ok1 hD) hD) e4 d4
/-- [elt for tg in iter if ..] -/
theorem df_lc {own : List (Str × Nat)} {pos : Pos} (hN : X.N.Nodup) (di : DI X q ρ tg iter ts) (bk : blkC X.N X.sc scope own = true) (dg : DG (X.blk scope) q (wipeR ρ (own.map (·.2))) ix tg dec env) (hix : ∀ i ∈ ix, i ∈ own.map (·.2))
    (hc : ∀ b, DTs (X.blk scope) q (env b) ifs (tc b)) (he : ∀ b, DX (X.blk scope) q (env b) elt (te b)) (hs : ∀ (env : Env) (x : Value), foldedSetIterable iter env x = pure x := by intro _ _; rfl) :
    DF X q ρ (.ListComp elt [⟨tg, iter, ifs, 0⟩] scope pos) (lcT ts dec tc te) := fun σ Hb H g Q ok0 sl ht =>
  ⟨_, fun z => pe_lc rfl hN pi_w (blkOk_by (by rw [z.hsc]; exact bk)) (fun s H C cl fp => pg_w (z := z.blk scope s H C cl fp)) (fun s H C cl fp => pts_w (z := z.blk scope s H C cl fp)) (fun s H C cl fp => pe_w (z := z.blk scope s H C cl fp)) (hs _),
    lc_deep di dg hix hc he ok0 sl ht⟩
/-- y = e, by what it takes to store it: e's reading within the statement -/
def wEA (X : Ctx) (i : Nat) (st : Stmt) : TE := fun σ H Q => ∃ u : TE, (∀ z, PS (X.at z) st (tAsg u (gName i))) ∧ u σ H Q
theorem ps_wEA {z : Rst X} {i : Nat} {st : Stmt} : PS (X.at z) st (tAsg (wEA X i st) (gName i)) := ⟨fun pins s σ H Q I ⟨u, h, k⟩ => (h z).run pins s σ H Q I k⟩
def DXA (X : Ctx) (q : Option Addr) (ρ : List Sl) (i : Nat) (st : Stmt) (t : T D) : Prop := ∀ σ Hb H g Q, Ok X.K q Hb H g → Sls X.K q Hb H ρ σ → t.ok g (PD X.K q Hb H Q) → wEA X i st σ H Q
def DFA (X : Ctx) (q : Option Addr) (ρ : List Sl) (i : Nat) (st : Stmt) (t : T (List D)) : Prop := ∀ σ Hb H g Q, Ok X.K q Hb H g → Sls X.K q Hb H ρ σ → t.ok g (PF X.K q Hb H Q) → wEA X i st σ H Q
section
variable {i : Nat} {x : Str} {e : Expr} {pos pos' py spos : Pos} {t : T D} {tf : T (List D)}
theorem dxa (hN : X.N.Nodup) (hi : X.N[i]? = some x) (hx : Loc X.sc x) (h : DX X q ρ e t) (hs : ∀ env : Env, swapsWith e (some (.Name x pos')) pos.line env = pure false := by intro _; rfl)
    (hf : X.fn x = true ∨ X.sc.names.lookup x = some .local := by first | exact .inl rfl | exact .inr rfl | assumption) : DXA X q ρ i (.Assign [.Name x pos'] e pos) t := fun σ Hb H g Q ok0 sl ht =>
  ⟨wE X e, fun z => ps_set hN hi (by rw [z.hsc]; exact hx) pe_w (hs _) (by rw [z.hsc]; exact hf), h σ Hb H g Q ok0 sl ht⟩
theorem dfa (hN : X.N.Nodup) (hi : X.N[i]? = some x) (hx : Loc X.sc x) (h : DF X q ρ e tf) (hs : ∀ env : Env, swapsWith e (some (.Name x pos')) pos.line env = pure false := by intro _; rfl)
    (hf : X.fn x = true ∨ X.sc.names.lookup x = some .local := by first | exact .inl rfl | exact .inr rfl | assumption) : DFA X q ρ i (.Assign [.Name x pos'] e pos) tf := fun σ Hb H g Q ok0 sl ht =>
  ⟨wE X e, fun z => ps_set hN hi (by rw [z.hsc]; exact hx) pe_w (hs _) (by rw [z.hsc]; exact hf), h σ Hb H g Q ok0 sl ht⟩
/-- y = [elt for ..] on one line, y a local name that the block does not bear -/
theorem dfa_lc {own : List (Str × Nat)} (hN : X.N.Nodup) (hi : X.N[i]? = some x) (hx : X.sc.names.lookup x = some .local) (hk : X.sc.kind = .function) (hl : (py.line == pos.line) = true := by rfl) (ha : (scope.names.any fun (n, k) => n == x && (k == .local || k == .cell)) = false := by decide +kernel)
    (di : DI X q ρ tg iter ts) (bk : blkC X.N X.sc scope own = true) (dg : DG (X.blk scope) q (wipeR ρ (own.map (·.2))) ix tg dec env) (hix : ∀ i ∈ ix, i ∈ own.map (·.2))
    (hc : ∀ b, DTs (X.blk scope) q (env b) ifs (tc b)) (he : ∀ b, DX (X.blk scope) q (env b) elt (te b)) (hs : ∀ (env : Env) (x : Value), foldedSetIterable iter env x = pure x := by intro _ _; rfl) :
    DFA X q ρ i (.Assign [.Name x py] (.ListComp elt [⟨tg, iter, ifs, 0⟩] scope pos) spos) (lcT ts dec tc te) := fun σ Hb H g Q ok0 sl ht =>
  ⟨_, fun z => ps_setLc rfl hN hi (by rw [z.hsc]; exact hx) (sw_true (by rw [z.hsc]; exact hk) (by rw [z.hsc]; exact hx) hl ha) pi_w (blkOk_by (by rw [z.hsc]; exact bk)) (fun s H C cl fp => pg_w (z := z.blk scope s H C cl fp)) (fun s H C cl fp => pts_w (z := z.blk scope s H C cl fp)) (fun s H C cl fp => pe_w (z := z.blk scope s H C cl fp)) (hs _),
    lc_deep di dg hix hc he ok0 sl ht⟩
end
end
end
end DD
end T_DM

section T_DN
set_option Elab.async false
set_option linter.all false
set_option maxRecDepth 100000
set_option maxHeartbeats 1000000
set_option autoImplicit false
namespace DD
open PySem PySem.Spec L2
open PyProof.Rows hiding St

/-! ### comprehensions of two clauses -/
def T.flatM {α β : Type} (f : α → T (List β)) : List α → T (List β)
  | [] => .ret []
  | a :: l => (f a).bind fun b => (T.flatM f l).bind fun bs => .ret (b ++ bs)
def hideR (ρ : List Sl) : List Sl := ρ.map fun s => match s with | .ow _ => .un | s => s
theorem Sls.hide {K : PySem.W.Frag} {q : Option Addr} {Hb H : Hp} {ρ : List Sl} {σ : L2.St} (h : Sls K q Hb H ρ σ) : Sls K q Hb H (hideR ρ) σ := by
  have key : ∀ (i : Nat) ds, (hideR ρ)[i]? ≠ some (Sl.ow ds) := fun i ds e => by
    unfold hideR at e
    rw [List.getElem?_map] at e
    cases z : ρ[i]? with
    | none => rw [z] at e; cases e
    | some s => rw [z] at e; cases s <;> cases e
  refine ⟨by unfold hideR; rw [List.length_map]; exact h.len, fun i sl e => ?_, fun i j ds es p e1 _ _ _ => absurd e1 (key i ds)⟩
  unfold hideR at e
  rw [List.getElem?_map] at e
  cases z : ρ[i]? with
  | none => rw [z] at e; cases e
  | some s =>
    rw [z] at e
    obtain ⟨v, e1, r⟩ := h.rel i s z
    refine ⟨v, e1, ?_⟩
    cases s <;> cases e <;> first
      | exact r
      | trivial
theorem hide_ne {ρ : List Sl} {i : Nat} {ds : List D} : (hideR ρ)[i]? ≠ some (Sl.ow ds) := fun e => by
  unfold hideR at e
  rw [List.getElem?_map] at e
  cases z : ρ[i]? with
  | none => rw [z] at e; cases e
  | some s => rw [z] at e; cases s <;> cases e
theorem wipe_hide_ne {ρ : List Sl} {i : Nat} {ds : List D} : ∀ vs : List Nat, (wipeR (hideR ρ) vs)[i]? ≠ some (Sl.ow ds)
  | [] => hide_ne
  | v :: vs => fun e => by
    unfold wipeR at e
    by_cases h : v = i
    · subst h
      rw [List.getElem?_set] at e
      split at e <;> (try split at e) <;> simp_all
    · rw [List.getElem?_set_ne h] at e
      exact wipe_hide_ne vs e
section
variable {X : Ctx} {q : Option Addr} {ρ : List Sl} {π π1 : Type} {scope : Scope} {vs ix vs1 ix1 : List Nat} {tg iter elt tg1 iter1 : Expr} {ifs ifs1 : List Expr} {ts : T (List D)} {dec : D → Option π} {env : π → List Sl} {tc : π → T Bool}
  {ts1 : π → T (List D)} {dec1 : π → D → Option π1} {env1 : π → π1 → List Sl} {tc1 : π → π1 → T Bool} {te : π → π1 → T D}
/-- what one item of the first clause comes to -/
def lc2I (dec : D → Option π) (tc : π → T Bool) (ts1 : π → T (List D)) (dec1 : π → D → Option π1) (tc1 : π → π1 → T Bool) (te : π → π1 → T D) (d : D) : T (List D) :=
  (T.opt (dec d)).bind fun b => (tc b).bind fun k => if k then (ts1 b).bind fun es => T.filtM (itemT (dec1 b) (tc1 b) (te b)) es else .ret []
def lc2T (ts : T (List D)) (dec : D → Option π) (tc : π → T Bool) (ts1 : π → T (List D)) (dec1 : π → D → Option π1) (tc1 : π → π1 → T Bool) (te : π → π1 → T D) : T (List D) :=
  ts.bind fun ds => (T.flatM (lc2I dec tc ts1 dec1 tc1 te) ds).bind fun r => .chk r.length (.ret r)
theorem lc2_deep (di : DI X q ρ tg iter ts) (dg : DG (X.blk scope) q (wipeR (hideR ρ) vs) ix tg dec env) (hix : ∀ i ∈ ix, i ∈ vs) (hc : ∀ b, DTs (X.blk scope) q (env b) ifs (tc b))
    (di1 : ∀ b, DI (X.blk scope) q (env b) tg1 iter1 (ts1 b)) (dg1 : ∀ b, DG (X.blk scope) q (wipeR (env b) vs1) ix1 tg1 (dec1 b) (env1 b)) (hix1 : ∀ i ∈ ix1, i ∈ vs1) (hc1 : ∀ b c, DTs (X.blk scope) q (env1 b c) ifs1 (tc1 b c))
    (he : ∀ b c, DX (X.blk scope) q (env1 b c) elt (te b c))
    {σ : L2.St} {Hb H : Hp} {g : Nat} {Q : V → Hp → Prop} (ok0 : Ok X.K q Hb H g) (sl : Sls X.K q Hb H ρ σ) (ht : (lc2T ts dec tc ts1 dec1 tc1 te).ok g (PF X.K q Hb H Q)) :
    tLc2 (wI X tg iter) (wG (X.blk scope) tg) (wTs (X.blk scope) ifs) (wI (X.blk scope) tg1 iter1) (wG (X.blk scope) tg1) (wTs (X.blk scope) ifs1) (wE (X.blk scope) elt) vs vs1 σ H Q := by
  refine di σ Hb H g _ ok0 sl (T.ok_mono (T.ok_bind.mp ht) fun ds g1 c1 J Hb1 H1 s1 ok1 wk => ?_)
  have c1 : (T.flatM (lc2I dec tc ts1 dec1 tc1 te) ds).ok g1 fun r g' => r.length < 16777216 ∧ PF X.K q Hb H Q r g' := T.ok_mono (T.ok_bind.mp c1) fun r g' h => T.ok_chk h
  intro Dd hD
  -- the word of the outer loop
  generalize hPv : (fun (i : Nat) (H2 : Hp) => ∃ Hb2 g2 acc, Step q Hb1 H1 Hb2 H2 ∧ Ok X.K q Hb2 H2 g2 ∧ Bd X.K q Dd Hb2 H2 acc ∧
    (T.flatM (lc2I dec tc ts1 dec1 tc1 te) (ds.drop i)).ok g2 (fun r g' => (acc ++ r).length < 16777216 ∧ PF X.K q Hb H Q (acc ++ r) g')) = Pv
  refine ⟨fun i m H2 => m = ds.length - i ∧ i ≤ ds.length ∧ Pv i H2, ⟨ds.length, rfl, Nat.zero_le _, ?_⟩, ?_⟩
  · subst hPv
    exact ⟨Hb1, g1, [], .own hD, ok1.own hD, ⟨⟨[], upd_same, .nil⟩, ok1.sub.free hD, free_nq ok1 hD⟩, c1⟩
  rintro i m H2 ⟨rfl, hi, pv⟩
  have pv0 := pv
  rw [← hPv] at pv
  obtain ⟨Hb2, g2, acc, s2, ok2, bd, c2⟩ := pv
  obtain ⟨wgo, wstop⟩ := wk i Hb2 H2 g2 s2.ext ok2
  by_cases hlt : i < ds.length
  · refine .inr ?_
    obtain ⟨go, yl⟩ := wgo _ (List.getElem?_eq_getElem hlt)
    refine ⟨go, Pv (i + 1), fun H' p => ⟨ds.length - (i + 1), by omega, rfl, hlt, p⟩, fun x H3 y => ?_⟩
    obtain ⟨Hb3, s3, ok3, dx⟩ := yl x H3 y
    have sl3 : Sls X.K q Hb3 H3 (wipeR (hideR ρ) vs) (L2.wipe σ vs) := (((sl.step s1).step s2).step s3).hide.wipe vs
    rw [List.drop_eq_getElem_cons hlt] at c2
    have bd3 := bd.step s3
    have s13 : Step q Hb1 H1 Hb3 H3 := s2.trans ok2 s3
    -- behind the item's part r of the list
    have c3 : (lc2I dec tc ts1 dec1 tc1 te ds[i]).ok g2 fun a g' => (T.flatM (lc2I dec tc ts1 dec1 tc1 te) (ds.drop (i + 1))).ok g' fun r g'' => (acc ++ (a ++ r)).length < 16777216 ∧ PF X.K q Hb H Q (acc ++ (a ++ r)) g'' :=
      T.ok_mono (T.ok_bind.mp c2) fun a g' h => T.ok_mono (T.ok_bind.mp h) fun r g'' h => h
    obtain ⟨b, eb, c3⟩ := opt_ok (T.ok_bind.mp c3)
    refine dg.run x ds[i] (L2.wipe σ vs) Hb3 H3 g2 _ b ok3 sl3 dx eb fun σ2 sl2 l2 k2 => ⟨wipe_same (by rw [l2, wipe_length]) k2 hix, ?_⟩
    refine hc b σ2 Hb3 H3 g2 _ ok3 sl2 (T.ok_mono (T.ok_bind.mp c3) fun k g4 c4 Hb4 H4 s4 ok4 => ?_)
    have s14 := s13.trans ok3 s4
    cases k with
    | false =>
      refine iteF ?_
      subst hPv
      exact ⟨Hb4, g4, acc, s14, ok4, bd3.step s4, c4⟩
    | true =>
      refine iteT (di1 b σ2 Hb4 H4 g4 _ ok4 (sl2.step s4) (T.ok_mono (T.ok_bind.mp c4) fun es g5 c5 J1 Hb5 H5 s5 ok5 wk1 => ?_))
      have s15 := s14.trans ok4 s5
      have sl5 := (sl2.step s4).step s5
      -- the word of the inner loop
      generalize hPw : (fun (j : Nat) (H6 : Hp) => ∃ Hb6 g6 acc6, Step q Hb1 H1 Hb6 H6 ∧ Same Hb5 Hb6 ∧ Sls X.K q Hb6 H6 (env b) σ2 ∧ Ok X.K q Hb6 H6 g6 ∧ Bd X.K q Dd Hb6 H6 acc6 ∧
        (T.filtM (itemT (dec1 b) (tc1 b) (te b)) (es.drop j)).ok g6 (fun a g' => (T.flatM (lc2I dec tc ts1 dec1 tc1 te) (ds.drop (i + 1))).ok g' fun r g'' => (acc6 ++ (a ++ r)).length < 16777216 ∧ PF X.K q Hb H Q (acc6 ++ (a ++ r)) g'')) = Pw
      refine ⟨fun j k H6 => k = es.length - j ∧ j ≤ es.length ∧ Pw j H6, ⟨es.length, rfl, Nat.zero_le _, ?_⟩, ?_⟩
      · subst hPw
        exact ⟨Hb5, g5, acc, s15, Same.refl _, sl5, ok5, (bd3.step s4).step s5, c5⟩
      rintro j k H6 ⟨rfl, hj, pw⟩
      rw [← hPw] at pw
      obtain ⟨Hb6, g6, acc6, s6, m6, sl6, ok6, bd6, c6⟩ := pw
      obtain ⟨wgo1, wstop1⟩ := wk1 j Hb6 H6 g6 m6 ok6
      by_cases hlt1 : j < es.length
      · refine .inr ?_
        obtain ⟨go1, yl1⟩ := wgo1 _ (List.getElem?_eq_getElem hlt1)
        refine ⟨go1, Pw (j + 1), fun H' p => ⟨es.length - (j + 1), by omega, rfl, hlt1, p⟩, fun x1 H7 y1 => ?_⟩
        obtain ⟨Hb7, s7, ok7, dx7⟩ := yl1 x1 H7 y1
        have sl7 := (sl6.step s7).wipe vs1
        rw [List.drop_eq_getElem_cons hlt1] at c6
        have bd7 := bd6.step s7
        have s17 := s6.trans ok6 s7
        refine turn_ok (dg1 b) (hc1 b) (he b) ok7 sl7 dx7 (T.ok_bind.mp c6) (fun σ3 l3 k3 => wipe_same (by rw [l3, wipe_length]) k3 hix1) (fun Hb' H' g' s' ok' c' => ?_) fun y' e Hb' H' g' s' ok' d' c' => ?_
        · subst hPw
          exact ⟨Hb', g', acc6, s17.trans ok7 s', (m6.trans s7.ext).trans s'.ext, (sl6.step s7).step s', ok', bd7.step s', T.ok_mono (T.ok_bind.mp c') fun r g'' h => h⟩
        · have bd8 := bd7.step s'
          obtain ⟨vs8, e8, d8⟩ := bd8.ex
          obtain ⟨bd9, ok9⟩ := bd8.more ok' e8 d'
          have c9 : (T.filtM (itemT (dec1 b) (tc1 b) (te b)) (es.drop (j + 1))).ok g' (fun a g' => (T.flatM (lc2I dec tc ts1 dec1 tc1 te) (ds.drop (i + 1))).ok g' fun r g'' => (acc6 ++ [e] ++ (a ++ r)).length < 16777216 ∧ PF X.K q Hb H Q (acc6 ++ [e] ++ (a ++ r)) g'') :=
            T.ok_mono (T.ok_bind.mp c') fun a g'' h => by
              have h : (T.flatM (lc2I dec tc ts1 dec1 tc1 te) (ds.drop (i + 1))).ok g'' fun r g'' => (acc6 ++ (e :: a ++ r)).length < 16777216 ∧ PF X.K q Hb H Q (acc6 ++ (e :: a ++ r)) g'' := h
              refine T.ok_mono h fun r g3 h => ?_
              rw [List.append_assoc]
              exact h
          have hlen : vs8.length < sizeLine := by
            obtain ⟨a, ga, ha⟩ := T.ok_some c9
            obtain ⟨r, gr, hr, _⟩ := T.ok_some ha
            simp only [List.length_append, List.length_singleton] at hr
            rw [DnAll.len d8, sizeLine_eq]
            omega
          refine ⟨vs8, e8, hlen, ?_⟩
          subst hPw
          have sl8 := (sl6.step s7).step s'
          refine ⟨Hb', g', acc6 ++ [e], (s17.trans ok7 s').mut hD, (m6.trans s7.ext).trans s'.ext, ?_, ok9, bd9, c9⟩
          -- the slots own no list that stands at Dd
          refine ⟨sl8.len, fun i sl hsl => ?_, sl8.sep⟩
          obtain ⟨s0, e0, r0⟩ := sl8.rel i sl hsl
          refine ⟨s0, e0, ?_⟩
          cases sl with
          | un => trivial
          | va d => exact r0
          | po => exact r0
          | fz ns => exact r0
          | ow ds0 =>
            exact absurd (dg.how b _ _ hsl).2 (wipe_hide_ne vs)
      · have ej : j = es.length := by omega
        subst ej
        refine .inl ⟨wstop1 (Nat.le_refl _), ?_⟩
        rw [List.drop_length] at c6
        subst hPv
        exact ⟨Hb6, g6, acc6, s6, ok6, bd6, c6⟩
  · have e : i = ds.length := by omega
    subst e
    refine .inl ⟨wstop (Nat.le_refl _), ?_⟩
    rw [List.drop_length] at c2
    have c2 : (acc ++ []).length < 16777216 ∧ PF X.K q Hb H Q (acc ++ []) g2 := c2
    rw [List.append_nil] at c2
    obtain ⟨vs4, e4, d4⟩ := bd.ex
    exact c2.2 Dd vs4 Hb2 H2 (s1.trans ok1 s2) ok2 bd.nb (step_free ok0 s1 (free_nq ok1 hD) hD) e4 d4
section
variable {own : List (Str × Nat)} {pos : Pos}
/-- [elt for tg in iter if .. for tg1 in iter1 if ..] -/
theorem df_lc2 (hN : X.N.Nodup) (di : DI X q ρ tg iter ts) (bk : blkC X.N X.sc scope own = true) (hv : ∀ i ∈ vs1, i ∈ own.map (·.2)) (dg : DG (X.blk scope) q (wipeR (hideR ρ) (own.map (·.2))) ix tg dec env) (hix : ∀ i ∈ ix, i ∈ own.map (·.2)) (hc : ∀ b, DTs (X.blk scope) q (env b) ifs (tc b))
    (di1 : ∀ b, DI (X.blk scope) q (env b) tg1 iter1 (ts1 b)) (dg1 : ∀ b, DG (X.blk scope) q (wipeR (env b) vs1) ix1 tg1 (dec1 b) (env1 b)) (hix1 : ∀ i ∈ ix1, i ∈ vs1) (hc1 : ∀ b c, DTs (X.blk scope) q (env1 b c) ifs1 (tc1 b c))
    (he : ∀ b c, DX (X.blk scope) q (env1 b c) elt (te b c)) (hs : ∀ (env : Env) (x : Value), foldedSetIterable iter env x = pure x := by intro _ _; rfl) (hs1 : ∀ (env : Env) (x : Value), foldedSetIterable iter1 env x = pure x := by intro _ _; rfl) :
    DF X q ρ (.ListComp elt [⟨tg, iter, ifs, 0⟩, ⟨tg1, iter1, ifs1, 0⟩] scope pos) (lc2T ts dec tc ts1 dec1 tc1 te) := fun σ Hb H g Q ok0 sl ht =>
  ⟨_, fun z => pe_lc2 rfl hN pi_w (blkOk_by (by rw [z.hsc]; exact bk)) hv (fun s H C cl fp => pg_w (z := z.blk scope s H C cl fp)) (fun s H C cl fp => pts_w (z := z.blk scope s H C cl fp)) (fun s H C cl fp => pi_w (z := z.blk scope s H C cl fp)) (fun s H C cl fp => pg_w (z := z.blk scope s H C cl fp)) (fun s H C cl fp => pts_w (z := z.blk scope s H C cl fp)) (fun s H C cl fp => pe_w (z := z.blk scope s H C cl fp)) (hs _) hs1,
    lc2_deep di dg hix hc di1 dg1 hix1 hc1 he ok0 sl ht⟩
theorem dfa_lc2 {i : Nat} {x : Str} {py spos : Pos} (hN : X.N.Nodup) (hi : X.N[i]? = some x) (hx : X.sc.names.lookup x = some .local) (hk : X.sc.kind = .function)
    (hsw : ∀ env : Env, env.scope = X.sc → swapsWith (.ListComp elt [⟨tg, iter, ifs, 0⟩, ⟨tg1, iter1, ifs1, 0⟩] scope pos) (some (.Name x py)) spos.line env = pure true)
    (di : DI X q ρ tg iter ts) (bk : blkC X.N X.sc scope own = true) (hv : ∀ i ∈ vs1, i ∈ own.map (·.2)) (dg : DG (X.blk scope) q (wipeR (hideR ρ) (own.map (·.2))) ix tg dec env) (hix : ∀ i ∈ ix, i ∈ own.map (·.2)) (hc : ∀ b, DTs (X.blk scope) q (env b) ifs (tc b))
    (di1 : ∀ b, DI (X.blk scope) q (env b) tg1 iter1 (ts1 b)) (dg1 : ∀ b, DG (X.blk scope) q (wipeR (env b) vs1) ix1 tg1 (dec1 b) (env1 b)) (hix1 : ∀ i ∈ ix1, i ∈ vs1) (hc1 : ∀ b c, DTs (X.blk scope) q (env1 b c) ifs1 (tc1 b c))
    (he : ∀ b c, DX (X.blk scope) q (env1 b c) elt (te b c)) (hs : ∀ (env : Env) (x : Value), foldedSetIterable iter env x = pure x := by intro _ _; rfl) (hs1 : ∀ (env : Env) (x : Value), foldedSetIterable iter1 env x = pure x := by intro _ _; rfl) :
    DFA X q ρ i (.Assign [.Name x py] (.ListComp elt [⟨tg, iter, ifs, 0⟩, ⟨tg1, iter1, ifs1, 0⟩] scope pos) spos) (lc2T ts dec tc ts1 dec1 tc1 te) := fun σ Hb H g Q ok0 sl ht =>
  ⟨_, fun z => ps_setLc2 rfl hN hi (by rw [z.hsc]; exact hx) (hsw _ z.hsc) pi_w (blkOk_by (by rw [z.hsc]; exact bk)) hv (fun s H C cl fp => pg_w (z := z.blk scope s H C cl fp)) (fun s H C cl fp => pts_w (z := z.blk scope s H C cl fp)) (fun s H C cl fp => pi_w (z := z.blk scope s H C cl fp)) (fun s H C cl fp => pg_w (z := z.blk scope s H C cl fp)) (fun s H C cl fp => pts_w (z := z.blk scope s H C cl fp)) (fun s H C cl fp => pe_w (z := z.blk scope s H C cl fp)) (hs _) hs1,
    lc2_deep di dg hix hc di1 dg1 hix1 hc1 he ok0 sl ht⟩
end
end
end DD
end T_DN

section T_DS
set_option Elab.async false
set_option linter.all false
set_option maxRecDepth 100000
set_option maxHeartbeats 1000000
set_option autoImplicit false
namespace DD
open PySem PySem.Spec L2
open PyProof.Rows hiding St

/-! ### statements -/
/-- how a block ends -/
inductive En where
  | nx (ρ : List Sl) | rt (d : D) | bk (ρ : List Sl) | ct (ρ : List Sl)
  /-- an own error of the class at C that holds d in its field f -/
  | ex (C : Addr) (f : Str) (d : D)
/-- as Step, but for what the slots own -/
structure StepO (q : Option Addr) (O : Addr → Prop) (Hb H Hb' H' : Hp) : Prop where
  ext : Same Hb Hb'
  keep : ∀ b o, H b = some o → q ≠ some b → ¬ O b → H' b = some o
  stay : ∀ b o, H b = some o → Hb b = Option.none → ¬ O b → Hb' b = Option.none
/-- what is wanted behind an end -/
def EnP (K : PySem.W.Frag) (W : WX) (q : Option Addr) (O : Addr → Prop) (Hb H : Hp) (C : Ends) : En → Nat → Prop
  | .rt d, g => ∀ v Hb' H', StepO q O Hb H Hb' H' → Ok K q Hb' H' g → Dn K Hb' v d → C.rt v H'
  | .nx ρ, g => ∀ σ Hb' H', StepO q O Hb H Hb' H' → Ok K q Hb' H' g → Sls K q Hb' H' ρ σ → (∀ p, OwnP ρ σ p → O p ∨ H p = Option.none) → C.nx σ H'
  | .bk ρ, g => ∀ σ Hb' H', StepO q O Hb H Hb' H' → Ok K q Hb' H' g → Sls K q Hb' H' ρ σ → (∀ p, OwnP ρ σ p → O p ∨ H p = Option.none) → C.bk σ H'
  | .ct ρ, g => ∀ σ Hb' H', StepO q O Hb H Hb' H' → Ok K q Hb' H' g → Sls K q Hb' H' ρ σ → (∀ p, OwnP ρ σ p → O p ∨ H p = Option.none) → C.ct σ H'
  | .ex c f d, g => ∀ v dd σ Hb' H', StepO q O Hb H Hb' H' → Ok K q Hb' H' g → Dn K Hb' v d → H' dd = some (.xd [(f, v)]) → W (.ref c) (some dd) σ H'
def DS (X : Ctx) (q : Option Addr) (ρ : List Sl) {R : Type} (sts : List Stmt) (t : T R) (ε : R → En) : Prop :=
  ∀ σ Hb H g (C : Ends), Ok X.K q Hb H g → Sls X.K q Hb H ρ σ → t.ok g (fun r g' => EnP X.K X.W q (OwnP ρ σ) Hb H C (ε r) g') → wSs X sts C σ H
section
variable {X : Ctx} {q : Option Addr} {ρ : List Sl}
theorem StepO.refl {O : Addr → Prop} {Hb H : Hp} : StepO q O Hb H Hb H := ⟨Same.refl _, fun _ _ h _ _ => h, fun _ _ _ h _ => h⟩
theorem StepO.of {O : Addr → Prop} {Hb H Hb' H' : Hp} (s : Step q Hb H Hb' H') : StepO q O Hb H Hb' H' := ⟨s.ext, fun b o h n _ => s.keep b o h n, fun b o h n _ => s.stay b o h n⟩
theorem StepO.trans {K : PySem.W.Frag} {O O1 : Addr → Prop} {Hb H Hb1 H1 Hb2 H2 : Hp} {g : Nat} (ok1 : Ok K q Hb1 H1 g) (a : StepO q O Hb H Hb1 H1) (hO : ∀ p, O1 p → O p ∨ H p = Option.none) (b : StepO q O1 Hb1 H1 Hb2 H2) : StepO q O Hb H Hb2 H2 := by
  refine ⟨a.ext.trans b.ext, fun c o h n z => ?_, fun c o h n z => ?_⟩
  · refine b.keep c o (a.keep c o h n z) n fun y => ?_
    rcases hO c y with y | y
    · exact z y
    · rw [y] at h; cases h
  · have nO : ¬ O1 c := fun y => by
      rcases hO c y with y | y
      · exact z y
      · rw [y] at h; cases h
    by_cases hq : q = some c
    · obtain ⟨u, e⟩ := (ok1.pool c hq).2.there
      exact b.stay c u e (a.stay c o h n z) nO
    · exact b.stay c o (a.keep c o h hq z) (a.stay c o h n z) nO
/-- the end's wish from a later state -/
theorem enP_after {K : PySem.W.Frag} {W : WX} {O O1 : Addr → Prop} {Hb H Hb1 H1 : Hp} {C : Ends} {e : En} {g g1 : Nat} (ok1 : Ok K q Hb1 H1 g1) (ok0 : ∃ g0, Ok K q Hb H g0) (a : StepO q O Hb H Hb1 H1) (hO : ∀ p, O1 p → O p ∨ H p = Option.none) (h : EnP K W q O Hb H C e g) : EnP K W q O1 Hb1 H1 C e g := by
  have own : ∀ p, O1 p ∨ H1 p = Option.none → O p ∨ H p = Option.none := fun p hp => by
    rcases hp with hp | hp
    · exact hO p hp
    · refine Classical.byCases (fun z : O p => .inl z) fun z => .inr ?_
      cases e : H p with
      | none => rfl
      | some o =>
        have nq : q ≠ some p := fun y => by
          obtain ⟨u, e2⟩ := (ok1.pool p y).2.there
          rw [hp] at e2; cases e2
        rw [a.keep p o e nq z] at hp; cases hp
  cases e with
  | rt d => exact fun v Hb' H' s o dv => h v Hb' H' (a.trans ok1 hO s) o dv
  | ex c f d => exact fun v dd σ Hb' H' s o dv e => h v dd σ Hb' H' (a.trans ok1 hO s) o dv e
  | nx ρ => exact fun σ Hb' H' s o sl ow => h σ Hb' H' (a.trans ok1 hO s) o sl fun p hp => own p (ow p hp)
  | bk ρ => exact fun σ Hb' H' s o sl ow => h σ Hb' H' (a.trans ok1 hO s) o sl fun p hp => own p (ow p hp)
  | ct ρ => exact fun σ Hb' H' s o sl ow => h σ Hb' H' (a.trans ok1 hO s) o sl fun p hp => own p (ow p hp)
section
variable {R : Type} {ε : R → En} {rest : List Stmt} {pos : Pos}
/-- forgetting slots -/
def leSl : Sl → Sl → Prop
  | .un, _ => True
  | a, b => a = b
def leR : List Sl → List Sl → Prop
  | [], [] => True
  | a :: l, b :: m => leSl a b ∧ leR l m
  | _, _ => False
theorem leR.len : ∀ {l m : List Sl}, leR l m → l.length = m.length
  | [], [], _ => rfl
  | _ :: _, _ :: _, h => congrArg (· + 1) (leR.len h.2)
theorem leR.get : ∀ {l m : List Sl} {i : Nat} {s : Sl}, leR l m → l[i]? = some s → s = .un ∨ m[i]? = some s
  | a :: l, b :: m, 0, s, h, e => by
    cases e
    cases a with
    | un => exact .inl rfl
    | va d => exact .inr (congrArg some (show Sl.va d = b from h.1).symm)
    | ow d => exact .inr (congrArg some (show Sl.ow d = b from h.1).symm)
    | po => exact .inr (congrArg some (show Sl.po = b from h.1).symm)
    | fz ns => exact .inr (congrArg some (show Sl.fz ns = b from h.1).symm)
  | a :: l, b :: m, i + 1, s, h, e => leR.get (i := i) h.2 e
theorem leR.refl : ∀ l : List Sl, leR l l
  | [] => trivial
  | a :: l => ⟨by cases a <;> first | trivial | rfl, leR.refl l⟩
theorem Sls.le {K : PySem.W.Frag} {Hb H : Hp} {ρ' : List Sl} {σ : L2.St} (h : Sls K q Hb H ρ σ) (l : leR ρ' ρ) : Sls K q Hb H ρ' σ := by
  refine ⟨l.len.trans h.len, fun i sl e => ?_, fun i j ds es p e1 e2 e3 e4 => ?_⟩
  · rcases l.get e with z | z
    · subst z
      have hi : i < σ.length := by
        have := (List.getElem?_eq_some_iff.mp e).1
        rw [l.len, h.len] at this
        exact this
      exact ⟨σ[i], List.getElem?_eq_getElem hi, trivial⟩
    · exact h.rel i sl z
  · rcases l.get e1 with z | z
    · cases z
    · rcases l.get e2 with y | y
      · cases y
      · exact h.sep i j ds es p z y e3 e4
theorem OwnP.le {ρ' : List Sl} {σ : L2.St} {p : Addr} (l : leR ρ' ρ) (h : OwnP ρ' σ p) : OwnP ρ σ p := by
  obtain ⟨i, ds, e1, e2⟩ := h
  rcases l.get e1 with z | z
  · cases z
  · exact ⟨i, ds, z, e2⟩
/-- the block's end -/
theorem ds_nil {r : R} {ρ' : List Sl} (e : ε r = .nx ρ') (l : leR ρ' ρ) : DS X q ρ [] (.ret r) ε := fun σ Hb H g C ok0 sl ht => by
  refine ⟨_, fun z => pss_nil, ?_⟩
  have ht : EnP X.K X.W q (OwnP ρ σ) Hb H C (ε r) g := ht
  rw [e] at ht
  exact ht σ Hb H .refl ok0 (sl.le l) fun p hp => .inl (hp.le l)
theorem ds_cont {r : R} {ρ' : List Sl} (e : ε r = .ct ρ') (l : leR ρ' ρ) : DS X q ρ (.Continue pos :: rest) (.ret r) ε := fun σ Hb H g C ok0 sl ht => by
  refine ⟨_, fun z => pss_cons ps_continue pss_never, ?_⟩
  have ht : EnP X.K X.W q (OwnP ρ σ) Hb H C (ε r) g := ht
  rw [e] at ht
  exact ht σ Hb H .refl ok0 (sl.le l) fun p hp => .inl (hp.le l)
theorem ds_break {r : R} {ρ' : List Sl} (e : ε r = .bk ρ') (l : leR ρ' ρ) : DS X q ρ (.Break pos :: rest) (.ret r) ε := fun σ Hb H g C ok0 sl ht => by
  refine ⟨_, fun z => pss_cons ps_break pss_never, ?_⟩
  have ht : EnP X.K X.W q (OwnP ρ σ) Hb H C (ε r) g := ht
  rw [e] at ht
  exact ht σ Hb H .refl ok0 (sl.le l) fun p hp => .inl (hp.le l)
/-- return e -/
theorem ds_ret {e : Expr} {t : T D} (h : DX X q ρ e t) : DS X q ρ (.Return (some e) pos :: rest) t En.rt := fun σ Hb H g C ok0 sl ht => by
  refine ⟨_, fun z => pss_cons (ps_ret pe_w) pss_never, ?_⟩
  exact h.run ok0 sl ht fun d g1 v Hb1 H1 c1 s1 ok1 sl1 d1 => c1 v Hb1 H1 (.of s1) ok1 d1
theorem ds_retI {e : Expr} {t : T D} {inj : D → R} (hi : ∀ d, ε (inj d) = .rt d) (h : DX X q ρ e t) : DS X q ρ (.Return (some e) pos :: rest) (t.bind fun d => .ret (inj d)) ε := fun σ Hb H g C ok0 sl ht => by
  refine ⟨_, fun z => pss_cons (ps_ret pe_w) pss_never, ?_⟩
  refine h.run ok0 sl (T.ok_bind.mp ht) fun d g1 v Hb1 H1 c1 s1 ok1 sl1 d1 => ?_
  have c1 : EnP X.K X.W q (OwnP ρ σ) Hb H C (ε (inj d)) g1 := c1
  rw [hi] at c1
  exact c1 v Hb1 H1 (.of s1) ok1 d1
theorem ds_retN {inj : R} (hi : ε inj = .rt .none) : DS X q ρ (.Return none pos :: rest) (.ret inj) ε := fun σ Hb H g C ok0 sl ht => by
  refine ⟨_, fun z => pss_cons ps_retN pss_never, ?_⟩
  have ht : EnP X.K X.W q (OwnP ρ σ) Hb H C (ε inj) g := ht
  rw [hi] at ht
  exact ht _ Hb H .refl ok0 .non
/-- x = e -/
theorem ds_asg {i : Nat} {st : Stmt} {t : T D} {k : D → T R} (h : DXA X q ρ i st t) (hk : ∀ d, DS X q (ρ.set i (.va d)) rest (k d) ε) : DS X q ρ (st :: rest) (t.bind k) ε := fun σ Hb H g C ok0 sl ht => by
  refine ⟨_, fun z => pss_cons (ps_wEA (i := i)) pss_w, ?_⟩
  refine h σ Hb H g _ ok0 sl (T.ok_mono (T.ok_bind.mp ht) fun d g1 c1 v Hb1 H1 s1 ok1 d1 => ?_)
  refine hk d (σ.set i (some v)) Hb1 H1 g1 C ok1 ((sl.step s1).setVa d1) (T.ok_mono c1 fun r g' h => enP_after ok1 ⟨g, ok0⟩ (.of s1) (fun p hp => ?_) h)
  obtain ⟨j, ds, e1, e2⟩ := hp
  refine .inl ⟨j, ds, ?_⟩
  by_cases hj : i = j
  · subst hj
    rw [List.getElem?_set] at e1
    split at e1 <;> (try split at e1) <;> simp_all
  · rw [List.getElem?_set_ne hj] at e1 e2
    exact ⟨e1, e2⟩
/-- x = e, a new list that x owns -/
theorem ds_own {i : Nat} {st : Stmt} {t : T (List D)} {k : List D → T R} (h : DFA X q ρ i st t) (hk : ∀ ds, DS X q (ρ.set i (.ow ds)) rest (k ds) ε) : DS X q ρ (st :: rest) (t.bind k) ε := fun σ Hb H g C ok0 sl ht => by
  refine ⟨_, fun z => pss_cons (ps_wEA (i := i)) pss_w, ?_⟩
  refine h σ Hb H g _ ok0 sl (T.ok_mono (T.ok_bind.mp ht) fun ds g1 c1 p vs Hb1 H1 s1 ok1 n1 n2 e1 d1 => ?_)
  have sl1 := sl.step s1
  have np : ∀ (j : Nat) es, ρ[j]? = some (Sl.ow es) → σ[j]? ≠ some (some (V.ref p)) := fun j es e2 e3 => by
    obtain ⟨s, e4, r⟩ := sl.rel j _ e2
    rw [e3] at e4
    cases e4
    obtain ⟨p', vs', y1, y2, _⟩ := r
    cases y1
    rw [n2] at y2; cases y2
  refine hk ds (σ.set i (some (.ref p))) Hb1 H1 g1 C ok1 (sl1.setOw e1 n1 d1 (free_nq ok0 n2) fun j es _ e2 e3 => np j es e2 e3) (T.ok_mono c1 fun r g' h => enP_after ok1 ⟨g, ok0⟩ (.of s1) (fun p' hp => ?_) h)
  obtain ⟨j, ds', f1, f2⟩ := hp
  by_cases hj : i = j
  · subst hj
    rw [List.getElem?_set] at f2
    split at f2
    · split at f2
      · cases f2; exact .inr n2
      · cases f2
    · exact absurd rfl (by assumption)
  · rw [List.getElem?_set_ne hj] at f1 f2
    exact .inl ⟨j, ds', f1, f2⟩
/-- an owned list stands from here on -/
theorem ds_frz (i : Nat) {ds : List D} {sts : List Stmt} {t : T R} (e : ρ[i]? = some (Sl.ow ds)) (hk : DS X q (ρ.set i (.va (.list ds))) sts t ε) : DS X q ρ sts t ε := fun σ Hb H g C ok0 sl ht => by
  obtain ⟨s, e1, r⟩ := sl.rel i _ e
  obtain ⟨p, vs, rfl, h1, h2, h3, h4⟩ := r
  have hO : OwnP ρ σ p := ⟨i, ds, e, e1⟩
  have m := same_upd (o := .lst vs) h2
  have so : StepO q (OwnP ρ σ) Hb H (upd Hb p (.lst vs)) H := ⟨m, fun _ _ h _ _ => h, fun b o hb hn nO => by rw [upd_ne (fun (z : b = p) => nO (by rw [z]; exact hO))]; exact hn⟩
  have ok1 := ok0.frz h1 h2 h4
  have hs : σ = σ.set i (some (.ref p)) := by
    apply List.ext_getElem?
    intro j
    by_cases hj : i = j
    · subst hj
      rw [e1, List.getElem?_set_self (List.getElem?_eq_some_iff.mp e1).1]
    · rw [List.getElem?_set_ne hj]
  have sl1 : Sls X.K q (upd Hb p (.lst vs)) H (ρ.set i (.va (.list ds))) σ := by
    refine ⟨by rw [List.length_set]; exact sl.len, fun j sl' ej => ?_, fun j k ds' es p' e2 e3 e4 e5 => ?_⟩
    · by_cases hj : i = j
      · subst hj
        rw [List.getElem?_set_self (List.getElem?_eq_some_iff.mp e).1] at ej
        cases ej
        exact ⟨_, e1, .ref p, rfl, .lst upd_same (dnAll_mono m _ _ h3)⟩
      · rw [List.getElem?_set_ne hj] at ej
        obtain ⟨s, e2, r⟩ := sl.rel j sl' ej
        refine ⟨s, e2, ?_⟩
        cases sl' with
        | un => trivial
        | va d => obtain ⟨v, y, dv⟩ := r; exact ⟨v, y, dn_mono m _ _ dv⟩
        | po => exact r
        | fz ns => obtain ⟨a, y, h⟩ := r; exact ⟨a, y, m.seq h⟩
        | ow es =>
          obtain ⟨p', vs', y1, y2, y3, y4, y5⟩ := r
          refine ⟨p', vs', y1, y2, ?_, dnAll_mono m _ _ y4, y5⟩
          rw [upd_ne (fun z => hj (sl.sep i j ds es p e ej e1 (by rw [e2, y1, z])))]
          exact y3
    · have nj : i ≠ j := by
        rintro rfl
        rw [List.getElem?_set_self (List.getElem?_eq_some_iff.mp e).1] at e2
        cases e2
      have nk : i ≠ k := by
        rintro rfl
        rw [List.getElem?_set_self (List.getElem?_eq_some_iff.mp e).1] at e3
        cases e3
      rw [List.getElem?_set_ne nj] at e2
      rw [List.getElem?_set_ne nk] at e3
      exact sl.sep j k ds' es p' e2 e3 e4 e5
  refine hk σ _ H g C ok1 sl1 (T.ok_mono ht fun r g' h => enP_after ok1 ⟨g, ok0⟩ so (fun p' hp => ?_) h)
  obtain ⟨j, ds', f1, f2⟩ := hp
  refine .inl ⟨j, ds', ?_, f2⟩
  have nj : i ≠ j := by
    rintro rfl
    rw [List.getElem?_set_self (List.getElem?_eq_some_iff.mp e).1] at f1
    cases f1
  rw [List.getElem?_set_ne nj] at f1
  exact f1
/-- x.append(e), x's own list -/
theorem ds_app (i : Nat) {ds : List D} {x : Str} {px ap cp ep : Pos} {e : Expr} {t : T D} {k : D → T R} (er : ρ[i]? = some (Sl.ow ds)) (hN : X.N[i]? = some x) (hv : Vis X.sc x) (h : DX X q ρ e t)
    (hk : ∀ d, DS X q (ρ.set i (.ow (ds ++ [d]))) rest (k d) ε) (hd : (x == ("__debug__" : Str)) = false := by decide) (hcd : (x == ("__classdict__" : Str)) = false := by decide)
    (hbase : ∀ env : Env, attributeBase (.Name x px) "append" env (eval (.Name x px) env) = eval (.Name x px) env := by intro _; rfl)
    (hfew : ∀ env : Env, ((backTo cp (starEach [e] env)).all (fun x => !x.1) && (backToKw cp (keywordEach [] env)).all (fun x => x.1.isSome)
      && decide ([e].length + ([] : List Keyword).length + (if ([] : List Keyword).isEmpty then 0 else 1) < 30)) = true := by intro _; rfl)
    (hline : (ap.endLine == cp.line) = true := by rfl) (hs : ∀ env : Env, starEach [e] env = (false, eval e env) :: starEach [] env := by intro _; rfl) (hpl : ∀ env : Env, (backTo cp (starEach [] env)).any (·.1) = false := by intro _; rfl)
    (hsw : ∀ env : Env, swapsWith (.Call (.Attribute (.Name x px) "append" ap) [e] [] cp) none ep.line env = pure false := by intro _; rfl) :
    DS X q ρ (.Expr (.Call (.Attribute (.Name x px) "append" ap) [e] [] cp) ep :: rest) (t.bind fun d => .chk ds.length (k d)) ε := fun σ Hb H g C ok0 sl ht => by
  refine ⟨tSeq (tDrop (tBM X.K "list" rAppend (tVar i) (tCons (wE X e) tNil))) (wSs X rest), fun z => pss_cons (ps_expr (pe_bm PySem.F.plainAttrs_list PySem.F.slot_list_append PySem.F.type_list_append mt_append (pe_var hN (by rw [z.hsc]; exact hv) hd hcd) (pa_cons pe_w pa_nil (hs _)) (hbase _) (hfew _) hline (hs _) (hpl _)) (hsw _)) pss_w, ?_⟩
  obtain ⟨s, e1, r⟩ := sl.rel i _ er
  obtain ⟨p, vs, rfl, h1, h2, h3, h4⟩ := r
  refine ⟨_, e1, .inl ⟨rfl, _, SqL.of h1⟩, ?_⟩
  refine h.run ok0 sl (T.ok_bind.mp ht) fun d g1 v Hb1 H1 c1 s1 ok1 sl1 d1 => ?_
  obtain ⟨hz, c1⟩ := T.ok_chk c1
  have f1 : H1 p = some (.lst vs) := s1.keep _ _ h1 h4
  have f2 : Hb1 p = Option.none := s1.stay _ _ h1 h2
  have f3 := dnAll_mono s1.ext _ _ h3
  refine ⟨p, vs, v, rfl, rfl, f1, by rw [DnAll.len f3, sizeLine_eq]; exact hz, ?_⟩
  -- the state behind
  have hO : OwnP ρ σ p := ⟨i, ds, er, e1⟩
  have hi : i < σ.length := (List.getElem?_eq_some_iff.mp e1).1
  have hir : i < ρ.length := (List.getElem?_eq_some_iff.mp er).1
  have so : StepO q (OwnP ρ σ) Hb H Hb1 (upd H1 p (.lst (vs ++ [v]))) :=
    ⟨s1.ext, fun b o hb n nO => by rw [upd_ne (fun (y : b = p) => nO (by rw [y]; exact hO))]; exact s1.keep b o hb n, fun b o hb n _ => s1.stay b o hb n⟩
  have ok2 : Ok X.K q Hb1 (upd H1 p (.lst (vs ++ [v]))) g1 := by
    refine ⟨fun b u hb => ?_, fun a ha => ⟨(ok1.pool a ha).1, (ok1.pool a ha).2.keep (Same.refl _) fun u hu => by rw [upd_ne (fun y => h4 (by rw [ha, y]))]; exact hu⟩⟩
    rw [upd_ne (fun y => by rw [y, f2] at hb; cases hb)]
    exact ok1.sub _ _ hb
  have sl2 : Sls X.K q Hb1 (upd H1 p (.lst (vs ++ [v]))) (ρ.set i (.ow (ds ++ [d]))) σ := by
    refine ⟨by rw [List.length_set]; exact sl.len, fun j sl' ej => ?_, fun j k ds' es p' e2 e3 e4 e5 => ?_⟩
    · by_cases hj : i = j
      · subst hj
        rw [List.getElem?_set_self hir] at ej
        cases ej
        exact ⟨_, e1, p, _, rfl, upd_same, f2, DnAll.app f3 (.cons d1 .nil), h4⟩
      · rw [List.getElem?_set_ne hj] at ej
        obtain ⟨s, e2, r⟩ := sl1.rel j sl' ej
        refine ⟨s, e2, ?_⟩
        cases sl' with
        | un => trivial
        | va d => exact r
        | po => exact r
        | fz ns => exact r
        | ow es =>
          obtain ⟨p', vs', y1, y2, y3, y4, y5⟩ := r
          refine ⟨p', vs', y1, ?_, y3, y4, y5⟩
          rw [upd_ne (fun z => hj (sl.sep i j ds es p er ej e1 (by rw [e2, y1, z])))]
          exact y2
    · have look : ∀ (j : Nat) (es : List D), (ρ.set i (Sl.ow (ds ++ [d])))[j]? = some (Sl.ow es) → ∃ es', ρ[j]? = some (Sl.ow es') := fun j es ej => by
        by_cases hj : i = j
        · subst hj; exact ⟨ds, er⟩
        · rw [List.getElem?_set_ne hj] at ej; exact ⟨es, ej⟩
      obtain ⟨a1, b1⟩ := look j ds' e2
      obtain ⟨a2, b2⟩ := look k es e3
      exact sl.sep j k a1 a2 p' b1 b2 e4 e5
  refine hk d σ Hb1 _ g1 C ok2 sl2 (T.ok_mono c1 fun r g' h => enP_after ok2 ⟨g, ok0⟩ so (fun p' hp => ?_) h)
  obtain ⟨j, ds', f1, f2⟩ := hp
  by_cases hj : i = j
  · subst hj
    exact .inl ⟨i, ds, er, f2⟩
  · rw [List.getElem?_set_ne hj] at f1
    exact .inl ⟨j, ds', f1, f2⟩
/-- if c: A (which never falls through), then the rest -/
theorem ds_ifx {RA : Type} {εA : RA → En} {conv : RA → R} {c : Expr} {A : List Stmt} {tc : T Bool} {tA : T RA} {tr : T R} (hc : DT X q ρ c tc) (hA : DS X q ρ A tA εA) (hn : ∀ r ρ', εA r ≠ .nx ρ') (hv : ∀ r, ε (conv r) = εA r) (hr : DS X q ρ rest tr ε) :
    DS X q ρ (.If c A [] pos :: rest) (tc.bind fun b => if b then tA.bind fun r => .ret (conv r) else tr) ε := fun σ Hb H g C ok0 sl ht => by
  refine ⟨_, fun z => pss_cons (ps_if pt_w pss_w pss_w) pss_w, ?_⟩
  refine hc.run ok0 sl (T.ok_bind.mp ht) fun b g1 Hb1 H1 c1 s1 ok1 sl1 => ?_
  cases b with
  | true =>
    refine iteT (hA σ Hb1 H1 g1 _ ok1 sl1 (T.ok_mono (T.ok_bind.mp c1) fun r g' h => ?_))
    have h : EnP X.K X.W q (OwnP ρ σ) Hb H C (ε (conv r)) g' := h
    rw [hv] at h
    have h2 := enP_after ok1 ⟨g, ok0⟩ (.of s1) (fun p hp => .inl hp) h (O1 := OwnP ρ σ)
    cases e : εA r with
    | nx ρ' => exact absurd e (hn r ρ')
    | rt d => rw [e] at h2; exact h2
    | ex c f d => rw [e] at h2; exact h2
    | bk ρ' => rw [e] at h2; exact h2
    | ct ρ' => rw [e] at h2; exact h2
  | false =>
    refine iteF ⟨_, fun z => pss_nil, ?_⟩
    exact hr σ Hb1 H1 g1 C ok1 sl1 (T.ok_mono c1 fun r g' h => enP_after ok1 ⟨g, ok0⟩ (.of s1) (fun p hp => .inl hp) h)
/-- if c: return .., then the rest -/
theorem ds_ifr {c : Expr} {A : List Stmt} {tc : T Bool} {tA tr : T D} (hc : DT X q ρ c tc) (hA : DS X q ρ A tA En.rt) (hr : DS X q ρ rest tr En.rt) : DS X q ρ (.If c A [] pos :: rest) (tc.bind fun b => if b then tA else tr) En.rt := by
  have h := ds_ifx (conv := id) (pos := pos) hc hA (fun r ρ' => by intro e; cases e) (fun r => rfl) hr
  simp only [id, T.bind_ret] at h
  exact h
/-- if c: A else: B, at the block's end -/
theorem ds_ite {c : Expr} {A B : List Stmt} {tc : T Bool} {tA tB : T R} (hc : DT X q ρ c tc) (hA : DS X q ρ A tA ε) (hB : DS X q ρ B tB ε) : DS X q ρ [.If c A B pos] (tc.bind fun b => if b then tA else tB) ε := fun σ Hb H g C ok0 sl ht => by
  refine ⟨_, fun z => pss_one (ps_if pt_w pss_w pss_w), ?_⟩
  refine hc.run ok0 sl (T.ok_bind.mp ht) fun b g1 Hb1 H1 c1 s1 ok1 sl1 => ?_
  cases b with
  | true => exact iteT (hA σ Hb1 H1 g1 C ok1 sl1 (T.ok_mono c1 fun r g' h => enP_after ok1 ⟨g, ok0⟩ (.of s1) (fun p hp => .inl hp) h))
  | false => exact iteF (hB σ Hb1 H1 g1 C ok1 sl1 (T.ok_mono c1 fun r g' h => enP_after ok1 ⟨g, ok0⟩ (.of s1) (fun p hp => .inl hp) h))
/-- if c: A else: B, both fall through, the slots then are env of what they give -/
theorem ds_ifj {S : Type} {env : S → List Sl} {c : Expr} {A B : List Stmt} {tc : T Bool} {tA tB : T S} {k : S → T R} (hc : DT X q ρ c tc) (hA : DS X q ρ A tA fun s => .nx (env s)) (hB : DS X q ρ B tB fun s => .nx (env s)) (hr : ∀ s, DS X q (env s) rest (k s) ε) :
    DS X q ρ (.If c A B pos :: rest) ((tc.bind fun b => if b then tA else tB).bind k) ε := fun σ Hb H g C ok0 sl ht => by
  refine ⟨_, fun z => pss_cons (ps_if pt_w pss_w pss_w) pss_w, ?_⟩
  rw [T.bind_assoc] at ht
  refine hc.run ok0 sl (T.ok_bind.mp ht) fun b g1 Hb1 H1 c1 s1 ok1 sl1 => ?_
  have fin : ∀ s g', (k s).ok g' (fun r g'' => EnP X.K X.W q (OwnP ρ σ) Hb H C (ε r) g'') → EnP X.K X.W q (OwnP ρ σ) Hb1 H1 { C with nx := wSs X rest C } (.nx (env s)) g' := fun s g' h σ2 Hb2 H2 s2 ok2 sl2 ow => by
    refine hr s σ2 Hb2 H2 g' C ok2 sl2 (T.ok_mono h fun r g'' h => enP_after ok2 ⟨g, ok0⟩ (StepO.trans ok1 (.of s1) (fun p hp => .inl hp) s2) (fun p hp => ?_) h)
    rcases ow p hp with y | y
    · exact .inl y
    · exact .inr (by
        cases e : H p with
        | none => rfl
        | some o =>
          have nq : q ≠ some p := free_nq ok1 y
          rw [s1.keep p o e nq] at y; cases y)
  cases b with
  | true => exact iteT (hA σ Hb1 H1 g1 _ ok1 sl1 (T.ok_mono (T.ok_bind.mp c1) fun s g' h => fin s g' h))
  | false => exact iteF (hB σ Hb1 H1 g1 _ ok1 sl1 (T.ok_mono (T.ok_bind.mp c1) fun s g' h => fin s g' h))
/-- a, b, .. = e -/
theorem ds_asgT {π : Type} {ix : List Nat} {tg e : Expr} {t : T D} {dec : D → Option π} {env : π → List Sl} {k : π → T R} (h : DX X q ρ e t) (dg : DG X q ρ ix tg dec env) (hk : ∀ b, DS X q (env b) rest (k b) ε)
    (hs : ∀ env : Env, swapsWithSole [tg] e pos.line env = pure false := by intro _; rfl) (hw : ∀ env : Env, swappedStores [tg] e env = pure none := by intro _; rfl) (h1 : ∀ env : Env, (assignEach [tg] env).map (·.2) = [assign tg env] := by intro _; rfl) :
    DS X q ρ (.Assign [tg] e pos :: rest) (t.bind fun d => (T.opt (dec d)).bind k) ε := fun σ Hb H g C ok0 sl ht => by
  refine ⟨_, fun z => pss_cons (ps_asg pe_w pg_w (hs _) (hw _) (h1 _)) pss_w, ?_⟩
  refine h.run ok0 sl (T.ok_bind.mp ht) fun d g1 v Hb1 H1 c1 s1 ok1 sl1 d1 => ?_
  obtain ⟨b, eb, c1⟩ := opt_ok (T.ok_bind.mp c1)
  refine dg.run v d σ Hb1 H1 g1 _ b ok1 sl1 d1 eb fun σ2 sl2 l2 k2 => ?_
  refine hk b σ2 Hb1 H1 g1 C ok1 sl2 (T.ok_mono c1 fun r g' h => enP_after ok1 ⟨g, ok0⟩ (.of s1) (fun p hp => ?_) h)
  obtain ⟨i, ds, e1, e2⟩ := hp
  obtain ⟨n, e3⟩ := dg.how b i ds e1
  exact .inl ⟨i, ds, e3, by rw [← k2 i n]; exact e2⟩
/-- a, b = e1, e2 of plain local names -/
theorem ds_par {i j : Nat} {x y : Str} {a b : Expr} {ta tb : T D} {px py pt pt2 : Pos} {kt k2 : Nat} {k : D → D → T R} (hN : X.N.Nodup) (hi : X.N[i]? = some x) (hj : X.N[j]? = some y) (hij : i ≠ j)
    (hx : X.sc.names.lookup x = some .local) (hy : X.sc.names.lookup y = some .local) (ha : DX X q ρ a ta) (hb : DX X q ρ b tb) (hk : ∀ c d, DS X q ((ρ.set i (.va c)).set j (.va d)) rest (k c d) ε)
    (hw : ∀ env : Env, env.scope = X.sc → swappedStores [.Tuple [.Name x px, .Name y py] kt pt] (.Tuple [a, b] k2 pt2) env = pure (some [x, y]))
    (hs : ∀ env : Env, swapsWithSole [.Tuple [.Name x px, .Name y py] kt pt] (.Tuple [a, b] k2 pt2) pos.line env = pure false := by intro _; rfl)
    (hs1 : ∀ env : Env, starEach [a, b] env = (false, eval a env) :: starEach [b] env := by intro _; rfl) (hs2 : ∀ env : Env, starEach [b] env = (false, eval b env) :: starEach [] env := by intro _; rfl) :
    DS X q ρ (.Assign [.Tuple [.Name x px, .Name y py] kt pt] (.Tuple [a, b] k2 pt2) pos :: rest) (ta.bind fun c => tb.bind fun d => k c d) ε := fun σ Hb H g C ok0 sl ht => by
  refine ⟨_, fun z => pss_cons (ps_par rfl hN hi hj hij (by rw [z.hsc]; exact hx) (by rw [z.hsc]; exact hy) (pa_cons pe_w (pa_cons pe_w pa_nil (hs2 _)) (hs1 _)) (hw _ z.hsc) (hs _)) pss_w, ?_⟩
  refine ha.run ok0 sl (T.ok_bind.mp ht) fun c g1 v Hb1 H1 c1 s1 ok1 sl1 d1 => ?_
  refine hb.run ok1 sl1 (T.ok_bind.mp c1) fun d g2 v' Hb2 H2 c2 s2 ok2 sl2 d2 => ?_
  refine ⟨v, v', rfl, ?_⟩
  refine hk c d _ Hb2 H2 g2 C ok2 ((sl2.setVa (dn_mono s2.ext _ _ d1)).setVa d2) (T.ok_mono c2 fun r g' h => enP_after ok2 ⟨g, ok0⟩ (.of (s1.trans ok1 s2)) (fun p hp => ?_) h)
  obtain ⟨l, ds, e1, e2⟩ := hp
  refine .inl ⟨l, ds, ?_⟩
  have n1 : j ≠ l := by
    rintro rfl
    rw [List.getElem?_set] at e1
    split at e1 <;> (try split at e1) <;> simp_all
  rw [List.getElem?_set_ne n1] at e1 e2
  have n2 : i ≠ l := by
    rintro rfl
    rw [List.getElem?_set] at e1
    split at e1 <;> (try split at e1) <;> simp_all
  rw [List.getElem?_set_ne n2] at e1 e2
  exact ⟨e1, e2⟩
end
end
end DD
end T_DS

section T_DL
set_option Elab.async false
set_option linter.all false
set_option maxRecDepth 100000
set_option maxHeartbeats 1000000
set_option autoImplicit false
namespace DD
open PySem PySem.Spec L2
open PyProof.Rows hiding St

/-! ### for -/
/-- how a loop's turn ends -/
inductive O (S : Type) where
  | nx (s : S) | ct (s : S) | bk (s : S) | rt (d : D)
def enO {S : Type} (η : S → List Sl) : O S → En
  | .nx s => .nx (η s)
  | .ct s => .ct (η s)
  | .bk s => .bk (η s)
  | .rt d => .rt d
def T.loopM {S : Type} (f : D → S → T (O S)) : List D → S → T (O S)
  | [], s => .ret (.nx s)
  | d :: l, s => (f d s).bind fun o => match o with
    | .nx s' => T.loopM f l s'
    | .ct s' => T.loopM f l s'
    | .bk s' => .ret (.bk s')
    | .rt d => .ret (.rt d)
/-- behind the loop -/
def endO {S R : Type} (k : S → T R) (inj : D → R) : O S → T R
  | .nx s => k s
  | .ct s => k s
  | .bk s => k s
  | .rt d => .ret (inj d)
section
variable {X : Ctx} {q : Option Addr} {ρ : List Sl} {R S π : Type} {ε : R → En} {rest body : List Stmt} {pos : Pos} {tg iter : Expr} {η : S → List Sl} {s0 : S} {ts : T (List D)} {ix : List Nat} {dec : D → Option π} {env : S → π → List Sl}
theorem ds_forO {tb : S → π → T (O S)} {k : S → T R} {inj : D → R} (di : DI X q ρ tg iter ts) (h0 : leR (η s0) ρ) (dg : ∀ s, DG X q (η s) ix tg dec (env s)) (hb : ∀ s b, DS X q (env s b) body (tb s b) (enO η)) (hr : ∀ s, DS X q (η s) rest (k s) ε)
    (hi : ∀ d, ε (inj d) = .rt d) (hs : ∀ (env : Env) (x : Value), foldedSetIterable iter env x = pure x := by intro _ _; rfl) :
    DS X q ρ (.For tg iter body [] pos :: rest) (ts.bind fun ds => (T.loopM (fun d s => (T.opt (dec d)).bind (tb s)) ds s0).bind (endO k inj)) ε := fun σ Hb H g C ok0 sl ht => by
  refine ⟨tSeq (tFor (wI X tg iter) (wG X tg) (wSs X body)) (wSs X rest), fun z => pss_cons (ps_for z.own rfl pi_w pg_w pss_w (hs _)) pss_w, ?_⟩
  refine di σ Hb H g _ ok0 sl (T.ok_mono (T.ok_bind.mp ht) fun ds g1 c1 J Hb1 H1 s1 ok1 wk => ?_)
  generalize hPv : (fun (i : Nat) (σ2 : L2.St) (H2 : Hp) => ∃ s Hb2 g2, StepO q (OwnP ρ σ) Hb H Hb2 H2 ∧ Same Hb1 Hb2 ∧ Ok X.K q Hb2 H2 g2 ∧ Sls X.K q Hb2 H2 (η s) σ2 ∧ (∀ p, OwnP (η s) σ2 p → OwnP ρ σ p ∨ H p = Option.none) ∧
    ((T.loopM (fun d s => (T.opt (dec d)).bind (tb s)) (ds.drop i) s).bind (endO k inj)).ok g2 (fun r g' => EnP X.K X.W q (OwnP ρ σ) Hb H C (ε r) g')) = Pv
  refine ⟨fun i m σ2 H2 => m = ds.length - i ∧ i ≤ ds.length ∧ Pv i σ2 H2, ⟨ds.length, rfl, Nat.zero_le _, ?_⟩, ?_⟩
  · subst hPv
    exact ⟨s0, Hb1, g1, .of s1, Same.refl _, ok1, (sl.step s1).le h0, fun p hp => .inl (hp.le h0), c1⟩
  rintro i m σ2 H2 ⟨rfl, hi', pv⟩
  rw [← hPv] at pv
  obtain ⟨s, Hb2, g2, s2, m2, ok2, sl2, ow2, c2⟩ := pv
  obtain ⟨wgo, wstop⟩ := wk i Hb2 H2 g2 m2 ok2
  -- behind the loop
  have fin : ∀ (s : S) (σ3 : L2.St) (Hb3 H3 : Hp) (g3 : Nat), StepO q (OwnP ρ σ) Hb H Hb3 H3 → Ok X.K q Hb3 H3 g3 → Sls X.K q Hb3 H3 (η s) σ3 → (∀ p, OwnP (η s) σ3 p → OwnP ρ σ p ∨ H p = Option.none) →
      (k s).ok g3 (fun r g' => EnP X.K X.W q (OwnP ρ σ) Hb H C (ε r) g') → wSs X rest C σ3 H3 := fun s σ3 Hb3 H3 g3 s3 ok3 sl3 ow3 c3 =>
    hr s σ3 Hb3 H3 g3 C ok3 sl3 (T.ok_mono c3 fun r g' h => enP_after ok3 ⟨g, ok0⟩ s3 ow3 h)
  by_cases hlt : i < ds.length
  · refine .inr ?_
    obtain ⟨go, yl⟩ := wgo _ (List.getElem?_eq_getElem hlt)
    refine ⟨go, Pv (i + 1), fun σ' H' p => ⟨ds.length - (i + 1), by omega, rfl, hlt, p⟩, fun x H3 y => ?_⟩
    obtain ⟨Hb3, s3, ok3, dx⟩ := yl x H3 y
    rw [List.drop_eq_getElem_cons hlt] at c2
    have so3 : StepO q (OwnP ρ σ) Hb H Hb3 H3 := StepO.trans ok2 s2 ow2 (.of s3)
    have c3 := T.ok_bind.mp (T.ok_bind.mp c2)
    obtain ⟨b, eb, c3⟩ := opt_ok (T.ok_bind.mp c3)
    refine (dg s).run x ds[i] σ2 Hb3 H3 g2 _ b ok3 (sl2.step s3) dx eb fun σ3 sl3 l3 k3 => ?_
    have ow3 : ∀ p, OwnP (env s b) σ3 p → OwnP ρ σ p ∨ H p = Option.none := fun p ⟨j, ds', e1, e2⟩ => by
      obtain ⟨n, e3⟩ := (dg s).how b j ds' e1
      exact ow2 p ⟨j, ds', e3, by rw [← k3 j n]; exact e2⟩
    have own : ∀ {σ4 : L2.St} {ρ4 : List Sl}, (∀ p, OwnP ρ4 σ4 p → OwnP (env s b) σ3 p ∨ H3 p = Option.none) → ∀ p, OwnP ρ4 σ4 p → OwnP ρ σ p ∨ H p = Option.none := fun {σ4 ρ4} h p hp => by
      rcases h p hp with y | y
      · exact ow3 p y
      · refine Classical.byCases (fun z : OwnP ρ σ p => .inl z) fun z => .inr ?_
        cases e : H p with
        | none => rfl
        | some o => rw [so3.keep p o e (free_nq ok3 y) z] at y; cases y
    refine hb s b σ3 Hb3 H3 g2 _ ok3 sl3 (T.ok_mono c3 fun o g' h => ?_)
    cases o with
    | nx s' =>
      intro σ4 Hb4 H4 s4 ok4 sl4 ow4
      show Pv (i + 1) σ4 H4
      subst hPv
      exact ⟨s', Hb4, g', StepO.trans ok3 so3 ow3 s4, (m2.trans s3.ext).trans s4.ext, ok4, sl4, own ow4, T.ok_bind.mpr h⟩
    | ct s' =>
      intro σ4 Hb4 H4 s4 ok4 sl4 ow4
      show Pv (i + 1) σ4 H4
      subst hPv
      exact ⟨s', Hb4, g', StepO.trans ok3 so3 ow3 s4, (m2.trans s3.ext).trans s4.ext, ok4, sl4, own ow4, T.ok_bind.mpr h⟩
    | bk s' =>
      intro σ4 Hb4 H4 s4 ok4 sl4 ow4
      exact fin s' σ4 Hb4 H4 g' (StepO.trans ok3 so3 ow3 s4) ok4 sl4 (own ow4) h
    | rt d =>
      intro v Hb4 H4 s4 ok4 dv
      have h : EnP X.K X.W q (OwnP ρ σ) Hb H C (ε (inj d)) g' := h
      rw [hi] at h
      exact h v Hb4 H4 (StepO.trans ok3 so3 ow3 s4) ok4 dv
  · have e : i = ds.length := by omega
    subst e
    refine .inl ⟨wstop (Nat.le_refl _), ?_⟩
    rw [List.drop_length] at c2
    exact fin s σ2 Hb2 H2 g2 s2 ok2 sl2 ow2 c2
theorem loop_fold {f : D → S → T S} : ∀ (ds : List D) (s : S), T.loopM (fun d s => (f d s).bind fun s' => .ret (.nx s')) ds s = (T.foldM f ds s).bind fun s' => .ret (.nx s')
  | [], s => rfl
  | d :: ds, s => by
    unfold T.loopM T.foldM
    rw [T.bind_assoc, T.bind_assoc]
    congr 1
    funext s'
    exact loop_fold ds s'
/-- a loop whose turns fall through -/
theorem ds_for {tb : S → π → T S} {k : S → T R} (di : DI X q ρ tg iter ts) (h0 : leR (η s0) ρ) (dg : ∀ s, DG X q (η s) ix tg dec (env s)) (hb : ∀ s b, DS X q (env s b) body (tb s b) fun s' => .nx (η s')) (hr : ∀ s, DS X q (η s) rest (k s) ε)
    (inj : D → R) (hi : ∀ d, ε (inj d) = .rt d) (hs : ∀ (env : Env) (x : Value), foldedSetIterable iter env x = pure x := by intro _ _; rfl) :
    DS X q ρ (.For tg iter body [] pos :: rest) (ts.bind fun ds => (T.foldM (fun d s => (T.opt (dec d)).bind (tb s)) ds s0).bind k) ε := by
  have h := ds_forO (pos := pos) (tb := fun s b => (tb s b).bind fun s' => .ret (.nx s')) (inj := inj) di h0 dg (fun s b σ Hb H g C ok0 sl ht => hb s b σ Hb H g C ok0 sl (T.ok_mono (T.ok_bind.mp ht) fun s' g' h => h)) hr hi hs
  have e : (fun (d : D) (s : S) => (T.opt (dec d)).bind fun b => (tb s b).bind fun s' => T.ret (O.nx s')) = fun d s => ((T.opt (dec d)).bind (tb s)).bind fun s' => T.ret (O.nx s') := by
    funext d s
    rw [T.bind_assoc]
  rw [e] at h
  simp only [loop_fold] at h
  simp only [T.bind_assoc, T.ret_bind, endO] at h
  skip
  exact h
end

/-! ### defs -/
/-- what a def is worth: n arguments, m of them -/
def spI (K : PySem.W.Frag) (n : Nat) (m : List D → T D) : Sp := fun vs H Q _ => ∃ q Hb g ds, Ok K q Hb H g ∧ DnAll K Hb vs ds ∧ ds.length = n ∧ (m ds).ok g (PD K q Hb H Q)
/-- .. whose first argument is the pool -/
def spP (K : PySem.W.Frag) (n : Nat) (m : List D → T D) : Sp := fun vs H Q _ => ∃ a vs' Hb g ds, vs = .ref a :: vs' ∧ Ok K (some a) Hb H g ∧ DnAll K Hb vs' ds ∧ ds.length = n ∧ (m ds).ok g (PD K (some a) Hb H Q)
structure Fd (P : Program) (w : World) (K : PySem.W.Frag) (mg : Str → Option Value) (k : Nat) (x : Str) (sp : Sp) : Prop where
  ex : ∃ f fd ps, mg x = some (.ref f) ∧ PySem.W.keepIn K (.ref f) = true ∧ Binds K fd ps [] ∧ ∀ base, FnOk P w K mg base CX0 k f fd ps sp
section
variable {X : Ctx} {q : Option Addr} {ρ : List Sl} {pos p p2 : Pos} {x y : Str} {k : Nat} {e e1 e2 e3 e4 : Expr} {es : List Expr} {t1 t2 t3 t4 : T D}
theorem dx_call {n : Nat} {m : List D → T D} {ts : T (List D)} (F : Fd X.P X.w X.K X.mg k x (spI X.K n m)) (hr : Room k X.A) (hg : Gb X x) (ha : DA X q ρ (e :: es) ts) (hn : ∀ (g : Nat) (C : List D → Nat → Prop), ts.ok g C → ts.ok g fun ds g' => ds.length = n ∧ C ds g') (hdb : (x == ("__debug__" : Str)) = false := by decide)
    (he : ∀ env : Env, starEach (e :: es) env = (false, eval e env) :: starEach es env := by intro _; rfl) (hpl : ∀ env : Env, (backTo pos (starEach es env)).any (·.1) = false := by intro _; rfl) :
    DX X q ρ (.Call (.Name x p) (e :: es) [] pos) (ts.bind m) := fun σ Hb H g Q ok0 sl ht => by
  obtain ⟨f, fd, ps, hm, hk, hb, F⟩ := F.ex
  refine ⟨tCall (spI X.K n m) [] E0 (wA X (e :: es)), fun z => pe_call (F _) hr (hg.gl z) hm hk hb .nil pass0 pa_w hdb (he _) (hpl _), ?_⟩
  refine ha.run ok0 sl (hn _ _ (T.ok_bind.mp ht)) fun ds g1 vs Hb1 H1 c1 s1 ok1 sl1 d1 => ?_
  show spI X.K n m (vs ++ []) H1 Q E0
  rw [List.append_nil]
  exact ⟨q, Hb1, g1, ds, ok1, d1, c1.1, T.ok_mono c1.2 fun d g' h => pd_after ok1 s1 h⟩
/-- functions of one to five data -/
def ar1 (m : D → T D) : List D → T D | [a] => m a | _ => .fail
def ar2 (m : D → D → T D) : List D → T D | [a, b] => m a b | _ => .fail
def ar3 (m : D → D → D → T D) : List D → T D | [a, b, c] => m a b c | _ => .fail
def ar4 (m : D → D → D → D → T D) : List D → T D | [a, b, c, d] => m a b c d | _ => .fail
theorem len1 {t : T D} {g : Nat} {C : List D → Nat → Prop} (h : (t.bind fun a => T.ret [a]).ok g C) : (t.bind fun a => T.ret [a]).ok g fun ds g' => ds.length = 1 ∧ C ds g' := T.ok_bind.mpr (T.ok_mono (T.ok_bind.mp h) fun a g' h => ⟨rfl, h⟩)
theorem dx_call1 {m : D → T D} (F : Fd X.P X.w X.K X.mg k x (spI X.K 1 (ar1 m))) (hr : Room k X.A) (hg : Gb X x) (h1 : DX X q ρ e1 t1) (hdb : (x == ("__debug__" : Str)) = false := by decide)
    (he1 : ∀ env : Env, starEach [e1] env = (false, eval e1 env) :: starEach [] env := by intro _; rfl) (hpl : ∀ env : Env, (backTo pos (starEach [] env)).any (·.1) = false := by intro _; rfl) :
    DX X q ρ (.Call (.Name x p) [e1] [] pos) (t1.bind m) := by
  have h := dx_call (p := p) (pos := pos) F hr hg (da_cons h1 da_nil he1) (fun g C h => by
    simp only [T.ret_bind] at h ⊢
    exact len1 h) hdb he1 hpl
  simp only [T.bind_assoc, T.ret_bind] at h
  exact h
theorem dx_call2 {m : D → D → T D} (F : Fd X.P X.w X.K X.mg k x (spI X.K 2 (ar2 m))) (hr : Room k X.A) (hg : Gb X x) (h1 : DX X q ρ e1 t1) (h2 : DX X q ρ e2 t2) (hdb : (x == ("__debug__" : Str)) = false := by decide)
    (he1 : ∀ env : Env, starEach [e1, e2] env = (false, eval e1 env) :: starEach [e2] env := by intro _; rfl) (he2 : ∀ env : Env, starEach [e2] env = (false, eval e2 env) :: starEach [] env := by intro _; rfl) (hpl : ∀ env : Env, (backTo pos (starEach [e2] env)).any (·.1) = false := by intro _; rfl) :
    DX X q ρ (.Call (.Name x p) [e1, e2] [] pos) (t1.bind fun a => t2.bind fun b => m a b) := by
  have h := dx_call (p := p) (pos := pos) F hr hg (da_cons h1 (da_cons h2 da_nil he2) he1) (fun g C h => by
    simp only [T.ret_bind, T.bind_assoc] at h ⊢
    exact T.ok_bind.mpr (T.ok_mono (T.ok_bind.mp h) fun a g' h => T.ok_bind.mpr (T.ok_mono (T.ok_bind.mp h) fun b g'' h => ⟨rfl, h⟩))) hdb he1 hpl
  simp only [T.bind_assoc, T.ret_bind] at h
  exact h
theorem dx_call3 {m : D → D → D → T D} (F : Fd X.P X.w X.K X.mg k x (spI X.K 3 (ar3 m))) (hr : Room k X.A) (hg : Gb X x) (h1 : DX X q ρ e1 t1) (h2 : DX X q ρ e2 t2) (h3 : DX X q ρ e3 t3) (hdb : (x == ("__debug__" : Str)) = false := by decide)
    (he1 : ∀ env : Env, starEach [e1, e2, e3] env = (false, eval e1 env) :: starEach [e2, e3] env := by intro _; rfl) (he2 : ∀ env : Env, starEach [e2, e3] env = (false, eval e2 env) :: starEach [e3] env := by intro _; rfl) (he3 : ∀ env : Env, starEach [e3] env = (false, eval e3 env) :: starEach [] env := by intro _; rfl)
    (hpl : ∀ env : Env, (backTo pos (starEach [e2, e3] env)).any (·.1) = false := by intro _; rfl) :
    DX X q ρ (.Call (.Name x p) [e1, e2, e3] [] pos) (t1.bind fun a => t2.bind fun b => t3.bind fun c => m a b c) := by
  have h := dx_call (p := p) (pos := pos) F hr hg (da_cons h1 (da_cons h2 (da_cons h3 da_nil he3) he2) he1) (fun g C h => by
    simp only [T.ret_bind, T.bind_assoc] at h ⊢
    exact T.ok_bind.mpr (T.ok_mono (T.ok_bind.mp h) fun a g' h => T.ok_bind.mpr (T.ok_mono (T.ok_bind.mp h) fun b g'' h => T.ok_bind.mpr (T.ok_mono (T.ok_bind.mp h) fun b g'' h => ⟨rfl, h⟩)))) hdb he1 hpl
  simp only [T.bind_assoc, T.ret_bind] at h
  exact h
/-- the pool's slot -/
theorem pv_po (i : Nat) {x : Str} {σ : L2.St} {Hb H : Hp} (e : ρ[i]? = some Sl.po) (sl : Sls X.K q Hb H ρ σ) : ∃ a, q = some a ∧ σ[i]? = some (some (.ref a)) := by
  obtain ⟨s, e1, a, h1, h2⟩ := sl.rel i _ e
  exact ⟨a, h1, by rw [e1, h2]⟩
/-- f(pool, e, ..) -/
theorem dx_callP (i : Nat) {n : Nat} {m : List D → T D} {ts : T (List D)} (F : Fd X.P X.w X.K X.mg k x (spP X.K n m)) (hr : Room k X.A) (hg : Gb X x) (hp : ρ[i]? = some Sl.po) (hN : X.N[i]? = some y) (hv : Vis X.sc y) (ha : DA X q ρ es ts) (hn : ∀ (g : Nat) (C : List D → Nat → Prop), ts.ok g C → ts.ok g fun ds g' => ds.length = n ∧ C ds g')
    (hdb : (x == ("__debug__" : Str)) = false := by decide) (hd : (y == ("__debug__" : Str)) = false := by decide) (hcd : (y == ("__classdict__" : Str)) = false := by decide)
    (he : ∀ env : Env, starEach (.Name y p2 :: es) env = (false, eval (.Name y p2) env) :: starEach es env := by intro _; rfl) (hpl : ∀ env : Env, (backTo pos (starEach es env)).any (·.1) = false := by intro _; rfl) :
    DX X q ρ (.Call (.Name x p) (.Name y p2 :: es) [] pos) (ts.bind m) := fun σ Hb H g Q ok0 sl ht => by
  obtain ⟨f, fd, ps, hm, hk, hb, F⟩ := F.ex
  refine ⟨tCall (spP X.K n m) [] E0 (tCons (tVar i) (wA X es)), fun z => pe_call (F _) hr (hg.gl z) hm hk hb .nil pass0 (pa_cons (pe_var hN (by rw [z.hsc]; exact hv) hd hcd) pa_w (he _)) hdb (he _) (hpl _), ?_⟩
  obtain ⟨a, rfl, e1⟩ := pv_po (x := y) i hp sl
  refine ⟨_, e1, ?_⟩
  refine ha.run ok0 sl (hn _ _ (T.ok_bind.mp ht)) fun ds g1 vs Hb1 H1 c1 s1 ok1 sl1 d1 => ?_
  show spP X.K n m (.ref a :: vs ++ []) H1 Q E0
  rw [List.append_nil]
  exact ⟨a, vs, Hb1, g1, ds, rfl, ok1, d1, c1.1, T.ok_mono c1.2 fun d g' h => pd_after ok1 s1 h⟩
def ar0 (m : T D) : List D → T D | [] => m | _ => .fail
theorem dx_callP0 (i : Nat) {m : T D} (F : Fd X.P X.w X.K X.mg k x (spP X.K 0 (ar0 m))) (hr : Room k X.A) (hg : Gb X x) (hp : ρ[i]? = some Sl.po) (hN : X.N[i]? = some y) (hv : Vis X.sc y)
    (hdb : (x == ("__debug__" : Str)) = false := by decide) (hd : (y == ("__debug__" : Str)) = false := by decide) (hcd : (y == ("__classdict__" : Str)) = false := by decide)
    (he : ∀ env : Env, starEach [.Name y p2] env = (false, eval (.Name y p2) env) :: starEach [] env := by intro _; rfl) (hpl : ∀ env : Env, (backTo pos (starEach [] env)).any (·.1) = false := by intro _; rfl) :
    DX X q ρ (.Call (.Name x p) [.Name y p2] [] pos) m := dx_callP (p := p) (p2 := p2) (pos := pos) i F hr hg hp hN hv da_nil (fun g C h => ⟨rfl, h⟩) hdb hd hcd he hpl
theorem dx_callP1 (i : Nat) {m : D → T D} (F : Fd X.P X.w X.K X.mg k x (spP X.K 1 (ar1 m))) (hr : Room k X.A) (hg : Gb X x) (hp : ρ[i]? = some Sl.po) (hN : X.N[i]? = some y) (hv : Vis X.sc y) (h1 : DX X q ρ e1 t1)
    (hdb : (x == ("__debug__" : Str)) = false := by decide) (hd : (y == ("__debug__" : Str)) = false := by decide) (hcd : (y == ("__classdict__" : Str)) = false := by decide)
    (he : ∀ env : Env, starEach [.Name y p2, e1] env = (false, eval (.Name y p2) env) :: starEach [e1] env := by intro _; rfl) (he1 : ∀ env : Env, starEach [e1] env = (false, eval e1 env) :: starEach [] env := by intro _; rfl) (hpl : ∀ env : Env, (backTo pos (starEach [e1] env)).any (·.1) = false := by intro _; rfl) :
    DX X q ρ (.Call (.Name x p) [.Name y p2, e1] [] pos) (t1.bind m) := by
  have h := dx_callP (p := p) (p2 := p2) (pos := pos) i F hr hg hp hN hv (da_cons h1 da_nil he1) (fun g C h => by
    simp only [T.ret_bind] at h ⊢
    exact len1 h) hdb hd hcd he hpl
  simp only [T.bind_assoc, T.ret_bind] at h
  exact h
theorem dx_callP2 (i : Nat) {m : D → D → T D} (F : Fd X.P X.w X.K X.mg k x (spP X.K 2 (ar2 m))) (hr : Room k X.A) (hg : Gb X x) (hp : ρ[i]? = some Sl.po) (hN : X.N[i]? = some y) (hv : Vis X.sc y) (h1 : DX X q ρ e1 t1) (h2 : DX X q ρ e2 t2)
    (hdb : (x == ("__debug__" : Str)) = false := by decide) (hd : (y == ("__debug__" : Str)) = false := by decide) (hcd : (y == ("__classdict__" : Str)) = false := by decide)
    (he : ∀ env : Env, starEach [.Name y p2, e1, e2] env = (false, eval (.Name y p2) env) :: starEach [e1, e2] env := by intro _; rfl) (he1 : ∀ env : Env, starEach [e1, e2] env = (false, eval e1 env) :: starEach [e2] env := by intro _; rfl)
    (he2 : ∀ env : Env, starEach [e2] env = (false, eval e2 env) :: starEach [] env := by intro _; rfl) (hpl : ∀ env : Env, (backTo pos (starEach [e1, e2] env)).any (·.1) = false := by intro _; rfl) :
    DX X q ρ (.Call (.Name x p) [.Name y p2, e1, e2] [] pos) (t1.bind fun a => t2.bind fun b => m a b) := by
  have h := dx_callP (p := p) (p2 := p2) (pos := pos) i F hr hg hp hN hv (da_cons h1 (da_cons h2 da_nil he2) he1) (fun g C h => by
    simp only [T.ret_bind, T.bind_assoc] at h ⊢
    exact T.ok_bind.mpr (T.ok_mono (T.ok_bind.mp h) fun a g' h => T.ok_bind.mpr (T.ok_mono (T.ok_bind.mp h) fun b g'' h => ⟨rfl, h⟩))) hdb hd hcd he hpl
  simp only [T.bind_assoc, T.ret_bind] at h
  exact h
end
/-- a def keeps its promise, by its body -/
def bodyX (P : Program) (w : World) (K : PySem.W.Frag) (mg : Str → Option Value) (A : Around) (N : List Str) (st : Stmt) : Ctx := ⟨P, w, K, mg, A, N, defScope st, fun _ => true, WF, true⟩
def argSl (N : List Str) (ds : List D) : List Sl := ds.map .va ++ List.replicate (N.length - ds.length) .un
theorem sls_start {K : PySem.W.Frag} {q : Option Addr} {Hb H : Hp} {N : List Str} {vs : List V} {ds : List D} (h : DnAll K Hb vs ds) : Sls K q Hb H (argSl N ds) (L2.start N vs) := by
  have hl := DnAll.len h
  have key : ∀ (i : Nat) ds', (argSl N ds)[i]? ≠ some (Sl.ow ds') := fun i ds' e => by
    unfold argSl at e
    rw [List.getElem?_append] at e
    split at e
    · rw [List.getElem?_map] at e
      cases z : ds[i]? with
      | none => rw [z] at e; cases e
      | some s => rw [z] at e; cases e
    · rw [List.getElem?_replicate] at e
      split at e <;> cases e
  refine ⟨?_, fun i sl e => ?_, fun i j a b p e1 _ _ _ => absurd e1 (key i a)⟩
  · unfold argSl L2.start
    simp only [List.length_append, List.length_map, List.length_replicate, hl]
  · unfold argSl at e
    unfold L2.start
    rw [List.getElem?_append] at e ⊢
    simp only [List.length_map, hl] at e ⊢
    split at e
    · rename_i hlt
      rw [if_pos hlt]
      rw [List.getElem?_map] at e ⊢
      cases z : ds[i]? with
      | none => rw [z] at e; cases e
      | some d =>
        rw [z] at e
        cases e
        obtain ⟨v, h1, h2⟩ := DnAll.get h z
        exact ⟨some v, by rw [h1] <;> rfl, v, rfl, h2⟩
    · rename_i hlt
      rw [if_neg hlt]
      rw [List.getElem?_replicate] at e ⊢
      split at e
      · cases e
        rename_i h2
        exact ⟨none, by rw [if_pos h2], trivial⟩
      · cases e
section
variable {P : Program} {w : World} {K : PySem.W.Frag} {mg : Str → Option Value} {x qual : Str} {st : Stmt} {f : Addr} {fd : FuncData} {N ps : List Str} {k n : Nat} {m : List D → T D}
theorem argSl_now {N : List Str} (ds : List D) (i : Nat) (ds' : List D) : (argSl N ds)[i]? ≠ some (Sl.ow ds') := fun e => by
  unfold argSl at e
  rw [List.getElem?_append] at e
  split at e
  · rw [List.getElem?_map] at e
    cases z : ds[i]? with
    | none => rw [z] at e; cases e
    | some s => rw [z] at e; cases e
  · rw [List.getElem?_replicate] at e
    split at e <;> cases e
theorem fn_deep (F : Fun K x qual st f fd) (S : FnScope N ps (defScope st)) (hps : ps.length = n) (body : ∀ A q ds, Room k A → ds.length = n → DS (bodyX P w K mg A N st) q (argSl N ds) (defBody st) (m ds) En.rt) (base : Heap) :
    FnOk P w K mg base CX0 (k + 1) f fd ps (spI K n m) := by
  refine F.ok S (fun vs H Q E ⟨q, Hb, g, ds, _, h1, h2, _⟩ => by rw [DnAll.len h1, h2, hps]) (fun cdv A outer s H vs Q E hr ⟨q, Hb, g, ds, ok0, h1, h2, h3⟩ => ?_)
  have noow : ∀ p, ¬ OwnP (argSl N ds) (L2.start N vs) p := fun p ⟨i, ds', e, _⟩ => argSl_now ds i ds' e
  obtain ⟨u, hu, q1⟩ := body (A.deeper (envOfC qual (defScope st) s.heap.objs.size f cdv)) q ds hr h2 (L2.start N vs) Hb H g { nx := fun _ H' => Q .non H', rt := Q } ok0 (sls_start h1)
    (T.ok_mono h3 fun d g' h v Hb' H' so ok' dv => h v Hb' H' ⟨so.ext, fun b o hb n => so.keep b o hb n (noow b), fun b o hb n => so.stay b o hb n (noow b)⟩ ok' dv)
  exact ⟨u, hu (.top base s H (envOfC qual (defScope st) s.heap.objs.size f cdv) outer rfl rfl rfl), q1⟩
theorem fn_deepP (F : Fun K x qual st f fd) (S : FnScope N ps (defScope st)) (hps : ps.length = n + 1) (body : ∀ A a ds, Room k A → ds.length = n → DS (bodyX P w K mg A N st) (some a) ((argSl N (.none :: ds)).set 0 .po) (defBody st) (m ds) En.rt) (base : Heap) :
    FnOk P w K mg base CX0 (k + 1) f fd ps (spP K n m) := by
  have noow : ∀ (ds : List D) (i : Nat) (ds' : List D), ((argSl N (.none :: ds)).set 0 .po)[i]? ≠ some (Sl.ow ds') := fun ds i ds' e => by
    by_cases hi : 0 = i
    · subst hi
      rw [List.getElem?_set] at e
      split at e <;> (try split at e) <;> simp_all
    · rw [List.getElem?_set_ne hi] at e
      unfold argSl at e
      rw [List.getElem?_append] at e
      split at e
      · rw [List.getElem?_map] at e
        cases z : (PyData.none :: ds)[i]? with
        | none => rw [z] at e; cases e
        | some s => rw [z] at e; cases e
      · rw [List.getElem?_replicate] at e
        split at e <;> cases e
  refine F.ok S (fun vs H Q E ⟨a, vs', Hb, g, ds, e, _, h1, h2, _⟩ => by rw [e, List.length_cons, DnAll.len h1, h2, hps]) (fun cdv A outer s H vs Q E hr ⟨a, vs', Hb, g, ds, e, ok0, h1, h2, h3⟩ => ?_)
  subst e
  have sl : Sls K (some a) Hb H ((argSl N (.none :: ds)).set 0 .po) (L2.start N (.ref a :: vs')) := by
    have s0 := sls_start (K := K) (q := some a) (Hb := Hb) (H := H) (N := N) (.cons .non h1)
    refine ⟨?_, fun i sl e => ?_, fun i j b c p e1 _ _ _ => absurd e1 (noow ds i b)⟩
    · rw [List.length_set, s0.len]
      unfold L2.start
      rfl
    · by_cases hi : 0 = i
      · subst hi
        rw [List.getElem?_set] at e
        split at e
        · split at e
          · cases e
            exact ⟨some (.ref a), rfl, a, rfl, rfl⟩
          · cases e
        · exact absurd rfl (by assumption)
      · rw [List.getElem?_set_ne hi] at e
        obtain ⟨v, e1, r⟩ := s0.rel i sl e
        refine ⟨v, ?_, r⟩
        rw [← e1]
        cases i with
        | zero => exact absurd rfl hi
        | succ i => rfl
  have now2 : ∀ p, ¬ OwnP ((argSl N (.none :: ds)).set 0 .po) (L2.start N (.ref a :: vs')) p := fun p ⟨i, ds', e, _⟩ => noow ds i ds' e
  obtain ⟨u, hu, q1⟩ := body (A.deeper (envOfC qual (defScope st) s.heap.objs.size f cdv)) a ds hr h2 (L2.start N (.ref a :: vs')) Hb H g { nx := fun _ H' => Q .non H', rt := Q } ok0 sl
    (T.ok_mono h3 fun d g' h v Hb' H' so ok' dv => h v Hb' H' ⟨so.ext, fun b o hb n => so.keep b o hb n (now2 b), fun b o hb n => so.stay b o hb n (now2 b)⟩ ok' dv)
  exact ⟨u, hu (.top base s H (envOfC qual (defScope st) s.heap.objs.size f cdv) outer rfl rfl rfl), q1⟩
end
end DD
end T_DL

section T_DQ
set_option Elab.async false
set_option linter.all false
set_option maxRecDepth 100000
set_option maxHeartbeats 1000000
set_option autoImplicit false
namespace DD
open PySem PySem.Spec L2
open PyProof.Rows hiding St

/-! ### sorting, plainly -/
/-- x may stand ahead of y -/
def leS (x y : D) : Bool := !PySem.W.dataLt y x
def insD (x : D) : List D → List D
  | [] => [x]
  | y :: l => if leS x y then x :: y :: l else y :: insD x l
def srtD : List D → List D
  | [] => []
  | x :: l => insD x (srtD l)
theorem leS_total : PySem.W.TotalLe leS := PySem.W.sortLe_total (PyProof.Rows.listOrd PyProof.Rows.itemOrd) false PySem.W.keyToks
theorem dataLe_leS : PySem.W.dataLe false (fun d : D => d) = leS := rfl
theorem ins_at {x : D} : ∀ {l1 l2 : List D}, (∀ b ∈ l1, leS x b = false) → (∀ b ∈ l2, leS x b = true) → insD x (l1 ++ l2) = l1 ++ x :: l2
  | [], [], _, _ => rfl
  | [], y :: l2, _, h => by
    show (if leS x y then x :: y :: l2 else y :: insD x l2) = _
    rw [if_pos (h y List.mem_cons_self)] <;> rfl
  | y :: l1, l2, h, h2 => by
    show (if leS x y then x :: y :: (l1 ++ l2) else y :: insD x (l1 ++ l2)) = _
    rw [if_neg (by rw [h y List.mem_cons_self]; exact Bool.false_ne_true), ins_at (fun b hb => h b (List.mem_cons_of_mem _ hb)) h2] <;> rfl
theorem srt_merge : ∀ l : List D, l.mergeSort leS = srtD l
  | [] => List.mergeSort_nil
  | x :: l => by
    have tr : ∀ a b c, leS a b = true → leS b c = true → leS a c = true := leS_total.trans
    have to : ∀ a b, (leS a b || leS b a) = true := fun a b => Bool.or_eq_true_iff.mpr (leS_total.total a b)
    obtain ⟨l1, l2, h1, h2, h3⟩ := List.mergeSort_cons tr to x l
    have pw := List.pairwise_mergeSort tr to (x :: l)
    rw [h1] at pw
    have pw2 := (List.pairwise_append.mp pw).2.1
    have e : srtD l = l1 ++ l2 := by rw [← srt_merge l]; exact h2
    rw [h1]
    show _ = insD x (srtD l)
    rw [e]
    refine (ins_at (fun b hb => ?_) fun b hb => (List.pairwise_cons.mp pw2).1 b hb).symm
    have q := h3 b hb
    simpa using q
theorem srt_perm (l : List D) : (srtD l).Perm l := by rw [← srt_merge]; exact List.mergeSort_perm _ _
theorem srt_len (l : List D) : (srtD l).length = l.length := (srt_perm l).length_eq
/-- data that can be sorted -/
def alikeL (ds : List D) : Bool := ds.all fun d => ds.all fun e => PySem.W.alike d e
def headed : D → Bool
  | .tuple (_ :: _) => true
  | _ => false
def bare : D → Bool
  | .none => false
  | .tuple _ => false
  | _ => true
def okSort (ds : List D) : Bool := alikeL ds && (ds.all headed || ds.all bare) && ds.all fun d => d.depth ≤ 32
theorem alikeL_all {ds : List D} (h : alikeL ds = true) : PySem.W.AllAlike ds := fun d hd e he => List.all_eq_true.mp (List.all_eq_true.mp h d hd) e he
theorem sortable_of {ds : List D} (h : (ds.all headed || ds.all bare) = true) : PySem.W.Sortable ds := by
  rcases Bool.or_eq_true_iff.mp h with z | z
  · refine .inl fun d hd => ?_
    have q := List.all_eq_true.mp z d hd
    unfold headed at q
    split at q
    · exact ⟨_, _, rfl⟩
    · cases q
  · refine .inr fun d hd => ?_
    have q := List.all_eq_true.mp z d hd
    cases d <;> first
      | (cases q; done)
      | exact ⟨fun e => (nomatch e), fun xs e => (nomatch e)⟩
mutual
theorem alike_noDct : ∀ d : D, PySem.W.alike d d = true → noDct d = true
  | .none, _ => rfl
  | .bool _, _ => rfl
  | .int _, _ => rfl
  | .str _, _ => rfl
  | .list ds, h => by
    unfold noDct
    exact alikes_noDct ds (by simpa [PySem.W.alike] using h)
  | .tuple ds, h => by
    unfold noDct
    exact alikes_noDct ds (by simpa [PySem.W.alike] using h)
  | .dict _, h => by simp [PySem.W.alike] at h
theorem alikes_noDct : ∀ ds : List D, PySem.W.alikeAll ds ds = true → noDcts ds = true
  | [], _ => rfl
  | d :: ds, h => by
    have h' : PySem.W.alike d d = true ∧ PySem.W.alikeAll ds ds = true := by simpa [PySem.W.alikeAll] using h
    unfold noDcts
    rw [alike_noDct d h'.1, alikes_noDct ds h'.2]
    rfl
end
theorem okSort_noDct {ds : List D} (h : okSort ds = true) : noDcts ds = true := by
  unfold okSort at h
  rw [Bool.and_eq_true, Bool.and_eq_true] at h
  exact noDcts_mem fun d hd => alike_noDct d (alikeL_all h.1.1 d hd d hd)
theorem okSort_of {ds : List D} (h : okSort ds = true) : PySem.W.AllAlike ds ∧ PySem.W.Sortable ds ∧ ∀ d ∈ ds, d.depth ≤ 32 := by
  unfold okSort at h
  rw [Bool.and_eq_true, Bool.and_eq_true] at h
  exact ⟨alikeL_all h.1.1, sortable_of h.1.2, fun d hd => of_decide_eq_true (List.all_eq_true.mp h.2 d hd)⟩

/-! ### sorted(..) of whatever can be gathered -/
mutual
theorem reads_lt {h : Heap} : ∀ (d : D) (v : Value) (as : List Addr), Reads h v d as → ∀ a ∈ as, a < h.objs.size
  | .none, _, _, r => by cases r; intro a ha; cases ha
  | .bool _, _, _, r => by cases r; intro a ha; cases ha
  | .int _, _, _, r => by cases r; intro a ha; cases ha
  | .str _, _, _, r => by cases r; intro a ha; cases ha
  | .list xs, _, _, r => by
    cases r with
    | list h1 h2 h3 h4 =>
      intro a ha
      rcases List.mem_cons.mp ha with e | e
      · rw [e]; exact Heap.lt_size h1
      · exact reads_ltA xs _ _ h4 a e
  | .tuple xs, _, _, r => by
    cases r with
    | tuple h1 h2 h3 h4 => exact reads_ltA xs _ _ h4
  | .dict kvs, _, _, r => by
    cases r with
    | dict h1 h2 h3 h4 h5 =>
      intro a ha
      rcases List.mem_append.mp ha with e | e
      · rcases List.mem_cons.mp e with e | e
        · rw [e]; exact Heap.lt_size h1
        · exact reads_ltK kvs _ _ h4 a e
      · exact reads_ltV kvs _ _ h5 a e
theorem reads_ltA {h : Heap} : ∀ (ds : List D) (vs : List Value) (as : List Addr), ReadsAll h vs ds as → ∀ a ∈ as, a < h.objs.size
  | [], _, _, r => by cases r; intro a ha; cases ha
  | d :: ds, _, _, r => by
    cases r with
    | cons h1 h2 =>
      intro a ha
      rcases List.mem_append.mp ha with e | e
      · exact reads_lt d _ _ h1 a e
      · exact reads_ltA ds _ _ h2 a e
theorem reads_ltK {h : Heap} : ∀ (ds : List (D × D)) (vs : List Value) (as : List Addr), ReadsAll h vs (ds.map (·.1)) as → ∀ a ∈ as, a < h.objs.size
  | [], _, _, r => by cases r; intro a ha; cases ha
  | (d, d2) :: ds, _, _, r => by
    rw [List.map_cons] at r
    cases r with
    | cons h1 h2 =>
      intro a ha
      rcases List.mem_append.mp ha with e | e
      · exact reads_lt d _ _ h1 a e
      · exact reads_ltK ds _ _ h2 a e
theorem reads_ltV {h : Heap} : ∀ (ds : List (D × D)) (vs : List Value) (as : List Addr), ReadsAll h vs (ds.map (·.2)) as → ∀ a ∈ as, a < h.objs.size
  | [], _, _, r => by cases r; intro a ha; cases ha
  | (d, d2) :: ds, _, _, r => by
    rw [List.map_cons] at r
    cases r with
    | cons h1 h2 =>
      intro a ha
      rcases List.mem_append.mp ha with e | e
      · exact reads_lt d2 _ _ h1 a e
      · exact reads_ltV ds _ _ h2 a e
end
section
variable {P : Program} {w : World} {A : Around} {E : Value → Shared → Prop} {s : Shared}
/-- values, what they are for the walk, and the data for which they stand -/
abbrev Trip := V × D
def TripR (v : Value) (b : Trip) : Prop := RelV b.1 v
theorem sorted_of {v : Value} {K : List Value → Shared → Prop} {Q : Value → Shared → Prop} (hcol : ∀ R : List Value → Shared → Prop, (∀ vs s1, K vs s1 → R vs s1) → wpAny (model P w) A.in1 (collect v) R E s)
    (hK : ∀ vs s1, K vs s1 → ∃ bs : List Trip, PySem.W.EachIs TripR vs bs ∧ PySem.W.EachIs (fun v (b : Trip) => ∃ as, Reads s1.heap v b.2 as) vs bs ∧ okSort (bs.map (·.2)) = true ∧ bs.length ≤ sizeLine ∧
      ∀ (out : List Value) (bs' : List Trip) (h' : Heap) (c : Nat), PySem.W.EachIs TripR out bs' → bs'.Perm bs → bs'.map (·.2) = srtD (bs.map (·.2)) → (∀ b o, s1.heap.get? b = some o → h'.get? b = some o) → h'.get? s1.heap.objs.size = some (seqObj "list" out.toArray c) → Q (.ref s1.heap.objs.size) { s1 with heap := h' })
    (hu : A.units + 64 < cLine) : wpAny (model P w) A (call (.builtin "sorted") [v]) Q E s := by
  refine Calls.call_function_entry kind_sorted plain_sorted entry_sorted (args_sorted1 _) ?_
  unfold Builtin.«sorted»
  refine wpAny_bind (m := checkCount "sorted" 1 1 _) (wpAny_pure ?_)
  refine wpAny_bind (hcol _ fun vs s1 k => ?_)
  obtain ⟨bs, e1, e2, e3, e4, e5⟩ := hK vs s1 k
  obtain ⟨a1, a2, a3⟩ := okSort_of e3
  have hlen : vs.length = bs.length := e1.length
  refine wpAny_bind (wpAny_newList ?_ (by omega))
  have hoL : (s1.heap.push (seqObj "list" vs.toArray 0)).get? s1.heap.objs.size = some (seqObj "list" vs.toArray 0) := Heap.get?_push_size _ rfl
  have er : PySem.W.EachIs (fun v (b : Trip) => ∃ as, Reads (s1.heap.push (seqObj "list" vs.toArray 0)) v b.2 as ∧ s1.heap.objs.size ∉ as) vs bs := e2.mono fun u b ⟨as, r⟩ =>
    ⟨as, PyProof.Rows.Reads.keeps (fun _ _ e => Heap.get?_push_of_some _ e) r, fun m => Nat.lt_irrefl _ (reads_lt _ _ _ r _ m)⟩
  refine wpAny_bind (wpAny_holding (PySem.W.list_sort_data (s := { s1 with heap := s1.heap.push (seqObj "list" vs.toArray 0) }) (R := TripR) (enc := fun b : Trip => b.2) hoL e1 er a1 a2 e4 (fun b hb => ?_) fun out ho eo => ?_))
  · have q := a3 b.2 (List.mem_map.mpr ⟨b, hb, rfl⟩)
    have q' : (PyData.depth (Prod.snd b)) ≤ 32 := q
    show A.in1.units + 1 + b.2.depth < cLine
    have e : A.in1.units ≤ A.units + 1 := by simp [Around.units, Around.in1]
    omega
  · obtain ⟨c, hc⟩ := sortedHeap_at (out := out.toArray) hoL
    refine wpAny_pure ⟨_, rfl, e5 out (bs.mergeSort (PySem.W.dataLe false fun b : Trip => b.2)) _ c eo (List.mergeSort_perm _ _) ?_ (fun b o e => ?_) hc⟩
    · rw [← srt_merge]
      exact List.map_mergeSort fun a _ b _ => rfl
    · have hlt := Heap.lt_size e
      rw [sortedHeap_old (Nat.ne_of_lt hlt) (by rw [size_push']; exact Nat.lt_succ_of_lt hlt)]
      exact Heap.get?_push_of_some _ e
/-- a list's or a tuple's items, gathered -/
theorem collect_seq {l : Addr} {o : Obj} {vs : List Value} {n : Nat} {R : List Value → Shared → Prop} (ho : s.heap.get? l = some o) (hc : o.cls = .type "list" ∨ o.cls = .type "tuple") (hd : o.data = .seq vs.toArray n) (hz : vs.length ≤ sizeLine)
    (h : R vs { s with heap := (s.heap.push (seqObj "list" #[] 0)).update s.heap.objs.size (Obj.mapSeq (· ++ vs.toArray)) }) : wpAny (model P w) A (collect (.ref l)) R E s := by
  have ho' : (s.heap.push (seqObj "list" #[] 0)).get? l = some o := Heap.get?_push_of_some _ ho
  have ho2 : (s.heap.push (seqObj "list" #[] 0)).get? s.heap.objs.size = some (seqObj "list" #[] 0) := Heap.get?_push_size _ rfl
  unfold collect
  refine wpAny_bind (wpAny_runValue (codeAny_builtin entry_proto_collect' ?_))
  show wpAny _ _ (newList [] >>= fun x => again (.builtin "list.__iadd__" ⟨[x, .ref l], []⟩)) _ _ s
  refine wpAny_bind (wpAny_newList (wpAny_pure ⟨Code.quiet_builtin _ (by decide +kernel), codeAny_builtin entry_list_iadd' ?_⟩))
  show wpAny _ _ (Builtin.List.listExtendWith (.ref s.heap.objs.size) (.ref l) (.ref s.heap.objs.size)) _ _ { s with heap := s.heap.push (seqObj "list" #[] 0) }
  unfold Builtin.List.listExtendWith
  rcases hc with hc | hc
  · refine wpAny_bind (wpAny_typeOf (T := "list") ⟨o, ho', hc⟩ ?_)
    rw [if_pos (by simp [show (Value.type "list" == Value.type "list") = true from by decide])]
    refine wpAny_bind (listItems_at ho' hd ?_)
    refine wpAny_bind (listItems_at ho2 rfl ?_)
    rw [if_neg (by simp)]
    refine wpAny_bind (listUpdate_at ho2 rfl ?_ (Nat.zero_le _) (by simp only [Array.size_append, List.size_toArray, List.length_nil]; omega))
    refine wpAny_pure ?_
    refine wpAny_bind (wpAny_load (get?_update_seq ho2 _) ?_)
    refine wpAny_pure ?_
    simpa using h
  · refine wpAny_bind (wpAny_typeOf (T := "tuple") ⟨o, ho', hc⟩ ?_)
    rw [if_pos (by simp [show (Value.type "tuple" == Value.type "tuple") = true from by decide])]
    refine wpAny_bind (listItems_at ho' hd ?_)
    refine wpAny_bind (listItems_at ho2 rfl ?_)
    rw [if_neg (by simp)]
    refine wpAny_bind (listUpdate_at ho2 rfl ?_ (Nat.zero_le _) (by simp only [Array.size_append, List.size_toArray, List.length_nil]; omega))
    refine wpAny_pure ?_
    refine wpAny_bind (wpAny_load (get?_update_seq ho2 _) ?_)
    refine wpAny_pure ?_
    simpa using h
end

/-! ### the layer's words -/
theorem trips_vals : ∀ {out : List Value} {bs : List Trip}, PySem.W.EachIs TripR out bs → Vals (bs.map (·.1)) out
  | _, _, .nil => .nil
  | _, _, .cons h t => .cons h (trips_vals t)
theorem trips_of {K : PySem.W.Frag} {H : Hp} : ∀ {xs : List V} {us : List Value} {ds : List D}, Vals xs us → DpAll K H xs ds → PySem.W.EachIs TripR us (xs.zip ds)
  | [], _, _, .nil, h => by cases h; exact .nil
  | x :: xs, _, _, .cons r t, h => by
    cases h with
    | cons h1 h2 => exact .cons r (trips_of t h2)
theorem trips_reads {X : Cx} {pins : List (Addr × Obj)} {σ : L2.St} {H : Hp} {s : Shared} (I : Inv X pins σ H s) : ∀ {xs : List V} {us : List Value} {ds : List D}, Vals xs us → DpAll X.K H xs ds → PySem.W.EachIs (fun v (b : Trip) => ∃ as, Reads s.heap v b.2 as) us (xs.zip ds)
  | [], _, _, .nil, h => by cases h; exact .nil
  | x :: xs, _, _, .cons r t, h => by
    cases h with
    | cons h1 h2 => exact .cons (Dp.reads I _ _ _ h1 r) (trips_reads I t h2)
theorem dp_len {K : PySem.W.Frag} {H : Hp} : ∀ {xs : List V} {ds : List D}, DpAll K H xs ds → xs.length = ds.length
  | [], _, h => by cases h; rfl
  | _ :: _, _, h => by
    cases h with
    | cons h1 h2 => rw [List.length_cons, List.length_cons, dp_len h2]
theorem zip_snd {xs : List V} {ds : List D} (h : xs.length = ds.length) : (xs.zip ds).map (·.2) = ds := List.map_snd_zip (Nat.le_of_eq h.symm)
/-- sorted(xs), a list's or a tuple's data -/
def rSortD (K : PySem.W.Frag) : List V → Hp → VK → Prop := fun vs H Q => ∃ a xs ds, vs = [.ref a] ∧ (SqL K H a xs ∨ SqT K H a xs) ∧ DpAll K H xs ds ∧ okSort ds = true ∧
  ∀ (bs : List Trip) p, bs.Perm (xs.zip ds) → bs.map (·.2) = srtD ds → H p = none → Q (.ref p) (upd H p (.lst (bs.map (·.1))))
theorem cr_sortD {X : Cx} (hu : X.A.units + 64 < cLine) : CallR X (.builtin "sorted") (rSortD X.K) := by
  intro pins s σ H vs us Q I r h
  obtain ⟨a, xs, ds, rfl, hs, hd, hk, q⟩ := h
  rw [Vals.ref1 r]
  obtain ⟨its, rv, hz, o, n, ho, hc, hdt⟩ : ∃ its : List Value, Vals xs its ∧ xs.length ≤ sizeLine ∧ ∃ o n, s.heap.get? a = some o ∧ (o.cls = .type "list" ∨ o.cls = .type "tuple") ∧ o.data = .seq its.toArray n := by
    rcases hs with hs | hs
    · obtain ⟨its, rv, hl, hz⟩ := I.list hs
      obtain ⟨o, h1, h2, n, h3⟩ := hl.isList
      exact ⟨its, rv, hz, o, n, h1, .inl h2, h3⟩
    · obtain ⟨its, rv, ⟨o, h1, h2, n, h3⟩, hz⟩ := I.tuple hs
      exact ⟨its, rv, hz, o, n, h1, .inr h2, h3⟩
  refine sorted_of (K := fun vs s1 => vs = its ∧ s1 = { s with heap := (s.heap.push (seqObj "list" #[] 0)).update s.heap.objs.size (Obj.mapSeq (· ++ its.toArray)) }) (fun R hR => collect_seq ho hc hdt (by rw [← rv.length]; exact hz) (hR _ _ ⟨rfl, rfl⟩)) (fun vs s1 ⟨e1, e2⟩ => ?_) hu
  subst e1
  subst e2
  have keep : ∀ b u, s.heap.get? b = some u → ((s.heap.push (seqObj "list" #[] 0)).update s.heap.objs.size (Obj.mapSeq (· ++ vs.toArray))).get? b = some u := fun b u e => by
    rw [Heap.get?_update_ne _ _ _ _ (Nat.ne_of_lt (Heap.lt_size e))]
    exact Heap.get?_push_of_some _ e
  have hsz : ((s.heap.push (seqObj "list" #[] 0)).update s.heap.objs.size (Obj.mapSeq (· ++ vs.toArray))).objs.size = s.heap.objs.size + 1 := by rw [Heap.size_update, size_push']
  have hl := dp_len hd
  refine ⟨xs.zip ds, trips_of rv hd, (trips_reads I rv hd).mono fun v b ⟨as, r⟩ => ⟨as, PyProof.Rows.Reads.keeps keep r⟩, by rw [zip_snd hl]; exact hk, by rw [List.length_zip, ← hl, Nat.min_self]; exact hz, fun out bs' h' c e1 e2 e3 e4 e5 => ?_⟩
  rw [zip_snd hl] at e3
  have hp : s.heap.objs.size ≤ s.heap.objs.size + 1 := Nat.le_succ _
  have hn : H (s.heap.objs.size + 1) = none := I.hok.fresh hp
  dsimp only at e4 e5 ⊢
  rw [hsz] at e5 ⊢
  refine ⟨.ref (s.heap.objs.size + 1), upd H (s.heap.objs.size + 1) (.lst (bs'.map (·.1))), I.laid (t' := s.toks) (fun b u e => e4 b u (keep b u e)) hp ⟨?_, out, c, trips_vals e1, e5⟩, rfl, q bs' _ e2 e3 hn⟩
  rw [List.length_map, e2.length_eq, List.length_zip, ← hl, Nat.min_self]
  exact hz
theorem trips_dn {K : PySem.W.Frag} {H : Hp} {xs : List V} {ds : List D} (h : DnAll K H xs ds) : ∀ b ∈ xs.zip ds, Dn K H b.1 b.2 := by
  induction xs generalizing ds with
  | nil => intro b hb; cases hb
  | cons x xs ih =>
    cases h with
    | cons h1 h2 =>
      intro b hb
      rcases List.mem_cons.mp hb with e | e
      · rw [e]; exact h1
      · exact ih h2 b e
theorem dn_trips {K : PySem.W.Frag} {H : Hp} : ∀ (bs : List Trip), (∀ b ∈ bs, Dn K H b.1 b.2) → DnAll K H (bs.map (·.1)) (bs.map (·.2))
  | [], _ => .nil
  | b :: bs, h => .cons (h b List.mem_cons_self) (dn_trips bs fun c hc => h c (List.mem_cons_of_mem _ hc))
/-- sorted(x): a new list -/
def sortedD : D → T (List D)
  | .list ds => .need (okSort ds) (.ret (srtD ds))
  | .tuple ds => .need (okSort ds) (.ret (srtD ds))
  | _ => .fail
section
variable {X : Ctx} {q : Option Addr} {ρ : List Sl} {pos p : Pos} {e : Expr}
theorem df_sorted {t : T D} (hu : X.A.units + 64 < cLine) (hg : Gb X "sorted") (hm : X.mg "sorted" = none) (h : DX X q ρ e t) (he : ∀ env : Env, starEach [e] env = (false, eval e env) :: starEach [] env := by intro _; rfl)
    (hpl : ∀ env : Env, (backTo pos (starEach [] env)).any (·.1) = false := by intro _; rfl) : DF X q ρ (.Call (.Name "sorted" p) [e] [] pos) (t.bind sortedD) := fun σ Hb H g Q ok0 sl ht => by
  refine ⟨tCB (rSortD X.K) (tCons (wE X e) tNil), fun z => pe_callB (cr_sortD (X := X.at z) hu) (hg.gl z) hm (by decide +kernel) (pa_cons pe_w pa_nil (he _)) (by decide) (by decide) (he _) (hpl _), ?_⟩
  refine h.run ok0 sl (T.ok_bind.mp ht) fun d g1 v Hb1 H1 c1 s1 ok1 sl1 d1 => ?_
  have go : ∀ (a : Addr) (xs : List V) (ds : List D), v = .ref a → (SqL X.K H1 a xs ∨ SqT X.K H1 a xs) → DnAll X.K Hb1 xs ds → (T.need (okSort ds) (T.ret (srtD ds))).ok g1 (PF X.K q Hb H Q) → rSortD X.K [v] H1 Q := fun a xs ds e hs hd c => by
    obtain ⟨k, c⟩ := T.ok_need c
    refine ⟨a, xs, ds, by rw [e], hs, DnAll.dp _ _ (okSort_noDct k) (dnAll_mono ok1.sub _ _ hd), k, fun bs l hp hs2 hl => ?_⟩
    refine c l _ Hb1 _ (s1.trans ok1 (.own hl)) (ok1.own hl) (ok1.sub.free hl) (step_free ok0 s1 (free_nq ok1 hl) hl) upd_same ?_
    rw [← hs2]
    exact dn_trips bs fun b hb => trips_dn hd b (hp.mem_iff.mp hb)
  cases d1 with
  | lst e1 a1 => exact go _ _ _ rfl (.inl (SqL.of (ok1.sub _ _ e1))) a1 c1
  | tup e1 a1 => exact go _ _ _ rfl (.inr (sqT_mono ok1.sub e1)) a1 c1
  | _ => exact c1.elim
end
end DD
end T_DQ

section T_DK
set_option Elab.async false
set_option linter.all false
set_option maxRecDepth 100000
set_option maxHeartbeats 1000000
set_option autoImplicit false
namespace DD
open PySem PySem.Spec L2
open PyProof.Rows hiding St

/-! ### what a table asks of its keys -/
section
variable {P : Program} {w : World}
def OfCls (P : Program) (w : World) (n : Nat) (s : Shared) (v : Value) : Prop := ∀ (A : Around) (E : Value → Shared → Prop) (Q : Bool → Shared → Prop), Q false s → wpAny (model P w) A (ofAClassStatement n v) Q E s
def HByV (P : Program) (w : World) (n : Nat) (s : Shared) (v : Value) : Prop := ∀ (A : Around) (E : Value → Shared → Prop) (Q : Bool → Shared → Prop), (∀ b, Q b s) → wpAny (model P w) A (hashByValue n v) Q E s
theorem cls_leaf {n : Nat} {s : Shared} {v : Value} (h : ∀ m, ofAClassStatement m v = pure false) : OfCls P w n s v := fun A E Q q => by
  rw [h]
  exact wpAny_pure q
theorem hby_leaf {n : Nat} {s : Shared} {v : Value} (h : ∀ m, ∃ b, hashByValue m v = pure b) : HByV P w n s v := fun A E Q q => by
  obtain ⟨b, e⟩ := h n
  rw [e]
  exact wpAny_pure (q b)
theorem cls_tup {n : Nat} {s : Shared} {a : Addr} {o : Obj} {vs : Array Value} {m : Nat} (ho : s.heap.get? a = some o) (hc : o.cls = .type "tuple") (hd : o.data = .seq vs m) (hv : ∀ v ∈ vs.toList, OfCls P w n s v) : OfCls P w (n + 1) s (.ref a) := fun A E Q q => by
  unfold ofAClassStatement
  refine wpAny_bind (wpAny_typeOf (T := "tuple") ⟨o, ho, hc⟩ ?_)
  dsimp only
  rw [show (("tuple" : String) == "tuple") = true from by decide]
  try simp only [if_true]
  try refine wpAny_bind (wpAny_pure ?_)
  try simp only [Bool.not_true, Bool.false_eq_true, if_false]
  refine wpAny_bind (wpAny_seqItems ho hd ?_)
  dsimp only
  refine wpAny_bind ?_
  rw [← Array.forIn_toList]
  refine wpAny_forIn_list _ (fun rest r s' => r.1 = none ∧ s' = s ∧ ∀ v ∈ rest, OfCls P w n s v) _ ?_ ?_ _ _ ⟨rfl, rfl, hv⟩
  · intro v rest r s' ⟨h1, h2, h3⟩
    subst h2
    refine wpAny_bind (h3 v List.mem_cons_self _ _ _ ?_)
    simp only [Bool.false_eq_true, if_false]
    exact wpAny_pure ⟨rfl, rfl, fun u hu => h3 u (List.mem_cons_of_mem _ hu)⟩
  · intro ⟨r1, r2⟩ s' ⟨h1, h2, _⟩
    simp only at h1
    subst h1
    subst h2
    exact wpAny_pure q
theorem hby_tup {n : Nat} {s : Shared} {a : Addr} {o : Obj} {vs : Array Value} {m : Nat} (ho : s.heap.get? a = some o) (hc : o.cls = .type "tuple") (hd : o.data = .seq vs m) (hv : ∀ v ∈ vs.toList, HByV P w n s v) : HByV P w (n + 1) s (.ref a) := fun A E Q q => by
  unfold hashByValue
  refine wpAny_bind (wpAny_specialOf (T := "tuple") ⟨o, ho, hc⟩ PySem.F.slot_tuple_hash.lookup ?_)
  dsimp only
  refine wpAny_bind (wpAny_seqItems ho hd ?_)
  dsimp only [Option.getD]
  refine wpAny_bind ?_
  rw [← Array.forIn_toList]
  refine wpAny_forIn_list _ (fun rest r s' => s' = s ∧ ∀ v ∈ rest, HByV P w n s v) _ ?_ ?_ _ _ ⟨rfl, hv⟩
  · intro v rest r s' ⟨h2, h3⟩
    subst h2
    refine wpAny_bind (h3 v List.mem_cons_self _ _ _ fun b => ?_)
    cases b with
    | true =>
      simp only [Bool.not_true, Bool.false_eq_true, if_false]
      exact wpAny_pure ⟨rfl, fun u hu => h3 u (List.mem_cons_of_mem _ hu)⟩
    | false =>
      simp only [Bool.not_false, if_true]
      exact wpAny_pure (wpAny_pure (q _))
  · intro ⟨r1, r2⟩ s' ⟨h2, _⟩
    subst h2
    cases r1 with
    | none => exact wpAny_pure (q _)
    | some b => exact wpAny_pure (q _)
mutual
theorem key_cls : ∀ (k : NestedKey) (v : Value) (n : Nat) (s : Shared), NestedIs s.heap k v → k.depth ≤ n → OfCls P w n s v
  | .none, _, n, s, h, _ => by cases h; exact cls_leaf fun m => by cases m <;> rfl
  | .num i, _, n, s, h, _ => by
    cases h with
    | bool e => exact cls_leaf fun m => by cases m <;> rfl
    | int _ t => exact cls_leaf fun m => by cases m <;> rfl
  | .text x, _, n, s, h, _ => by cases h; exact cls_leaf fun m => by cases m <;> rfl
  | .tup ks, _, 0, s, h, hd => by simp [NestedKey.depth] at hd
  | .tup ks, _, n + 1, s, h, hd => by
    cases h with
    | tup h1 h2 h3 h4 => exact cls_tup h1 h2 h3 (keys_cls ks _ n s h4 (by simpa [NestedKey.depth] using hd))
theorem keys_cls : ∀ (ks : List NestedKey) (vs : List Value) (n : Nat) (s : Shared), NestedAll s.heap ks vs → NestedKey.depthAll ks ≤ n → ∀ v ∈ vs, OfCls P w n s v
  | [], _, n, s, h, _ => by cases h; intro v hv; cases hv
  | k :: ks, _, n, s, h, hd => by
    cases h with
    | cons h1 h2 =>
      simp only [NestedKey.depthAll] at hd
      intro v hv
      rcases List.mem_cons.mp hv with e | e
      · rw [e]; exact key_cls k _ n s h1 (by omega)
      · exact keys_cls ks _ n s h2 (by omega) v e
end
mutual
theorem key_hby : ∀ (k : NestedKey) (v : Value) (n : Nat) (s : Shared), NestedIs s.heap k v → k.depth ≤ n → HByV P w n s v
  | .none, _, n, s, h, _ => by cases h; exact hby_leaf fun m => by cases m <;> exact ⟨_, rfl⟩
  | .num i, _, n, s, h, _ => by
    cases h with
    | bool e => exact hby_leaf fun m => by cases m <;> exact ⟨_, rfl⟩
    | int _ t => exact hby_leaf fun m => by cases m <;> exact ⟨_, rfl⟩
  | .text x, _, n, s, h, _ => by cases h; exact hby_leaf fun m => by cases m <;> exact ⟨_, rfl⟩
  | .tup ks, _, 0, s, h, hd => by simp [NestedKey.depth] at hd
  | .tup ks, _, n + 1, s, h, hd => by
    cases h with
    | tup h1 h2 h3 h4 => exact hby_tup h1 h2 h3 (keys_hby ks _ n s h4 (by simpa [NestedKey.depth] using hd))
theorem keys_hby : ∀ (ks : List NestedKey) (vs : List Value) (n : Nat) (s : Shared), NestedAll s.heap ks vs → NestedKey.depthAll ks ≤ n → ∀ v ∈ vs, HByV P w n s v
  | [], _, n, s, h, _ => by cases h; intro v hv; cases hv
  | k :: ks, _, n, s, h, hd => by
    cases h with
    | cons h1 h2 =>
      simp only [NestedKey.depthAll] at hd
      intro v hv
      rcases List.mem_cons.mp hv with e | e
      · rw [e]; exact key_hby k _ n s h1 (by omega)
      · exact keys_hby ks _ n s h2 (by omega) v e
end
end

/-! ### a set and its members -/
abbrev Ent := Value × NestedKey
def hrows (w : World) (L : List Ent) : List (Int × Value) := L.map fun p => (p.2.hash w, p.1)
abbrev hss (w : World) (L : List Ent) : List Int := L.map fun p => p.2.hash w
/-- L: the members, in the table's order -/
structure SD (w : World) (h : Heap) (a : Addr) (L : List Ent) (es : Array (Int × Value)) (ep : Nat) (t : SetTable) : Prop where
  ob : ∃ o, h.get? a = some o ∧ o.ExactSet ∧ o.data = .set es ep t
  rows : es.toList = hrows w L
  ris : Ris t.place.toList
  fits : t.fits es.size = true
  led : w.params.followText "set-order" = true ∨ t.led = true
  nd : (L.map (·.2)).Nodup
  few : L.length < 64
/-- ints and texts -/
def nkK : Key → NestedKey
  | .inl i => .num i
  | .inr x => .text x
def ScE (p : Ent) : Prop := ∃ k : Key, p.2 = nkK k ∧ RelV (kV k) p.1
/-- tuples -/
def TbE (h : Heap) (p : Ent) : Prop := ∃ b ks, p.1 = .ref b ∧ p.2 = .tup ks ∧ NestedIs h p.2 p.1 ∧ p.2.depth ≤ 8
structure TbL (w : World) (h : Heap) (L : List Ent) (t : SetTable) : Prop where
  tab : TabOk t (hss w L)
  room : L.length * 5 < t.mask * 3
  each : ∀ p ∈ L, TbE h p
theorem hrows_size {w : World} {L : List Ent} {es : Array (Int × Value)} (h : es.toList = hrows w L) : es.size = L.length := by
  have q := congrArg List.length h
  unfold hrows at q
  rw [Array.length_toList, List.length_map] at q
  exact q
theorem hrows_at {w : World} {L : List Ent} {es : Array (Int × Value)} (h : es.toList = hrows w L) {i : Nat} {p : Ent} (e : L[i]? = some p) : es[i]? = some (p.2.hash w, p.1) := by
  rw [← Array.getElem?_toList, h]
  unfold hrows
  rw [List.getElem?_map, e] <;> rfl
/-- a rearrangement of pictures is the picture of a rearrangement -/
theorem perm_pic {α β : Type} {f : α → β} {m n : List β} (h : m.Perm n) : ∀ l : List α, n = l.map f → ∃ l' : List α, l'.Perm l ∧ m = l'.map f := by
  induction h with
  | nil =>
    intro l e
    cases l with
    | nil => exact ⟨[], .nil, rfl⟩
    | cons x l => cases e
  | cons x _ ih =>
    intro l e
    cases l with
    | nil => cases e
    | cons y l =>
      rw [List.map_cons] at e
      obtain ⟨e1, e2⟩ := List.cons.inj e
      obtain ⟨l', p, q⟩ := ih l e2
      exact ⟨y :: l', p.cons y, by rw [List.map_cons, q, e1]⟩
  | swap x y _ =>
    intro l e
    cases l with
    | nil => cases e
    | cons u l =>
      cases l with
      | nil => rw [List.map_cons] at e; cases (List.cons.inj e).2
      | cons v l =>
        rw [List.map_cons, List.map_cons] at e
        obtain ⟨e1, e2⟩ := List.cons.inj e
        obtain ⟨e2, e3⟩ := List.cons.inj e2
        exact ⟨v :: u :: l, .swap u v l, by rw [List.map_cons, List.map_cons, ← e1, ← e2, ← e3]⟩
  | trans _ _ ih1 ih2 =>
    intro l e
    obtain ⟨l1, p1, q1⟩ := ih2 l e
    obtain ⟨l2, p2, q2⟩ := ih1 l1 q1
    exact ⟨l2, p2.trans p1, q2⟩
/-- what adding does to the members -/
structure Added (L : List Ent) (x : Ent) (L' : List Ent) : Prop where
  old : x.2 ∈ L.map (·.2) → L' = L
  new : x.2 ∉ L.map (·.2) → L'.Perm (x :: L)
end DD
end T_DK

section T_DK2
set_option Elab.async false
set_option linter.all false
set_option maxRecDepth 100000
set_option maxHeartbeats 1000000
set_option autoImplicit false
namespace DD
open PySem PySem.Spec L2
open PyProof.Rows hiding St

section
variable {P : Program} {w : World} {A : Around} {E : Value → Shared → Prop} {s : Shared} {a : Addr} {L : List Ent} {es : Array (Int × Value)} {ep : Nat} {t : SetTable}
/-! ### ints and texts -/
theorem nk_hash (k : Key) : (mixKind P w).hash k = (nkK k).hash w := by
  cases k <;> rfl
theorem nk_inj {k j : Key} (h : nkK k = nkK j) : k = j := by
  cases k <;> cases j <;> simp [nkK] at h <;> rw [h]
theorem sc_elems (hr : es.toList = hrows w L) (hs : ∀ p ∈ L, ScE p) : ElemsOf (mixKind P w) es.toList := fun e he => by
  rw [hr] at he
  obtain ⟨p, hp, rfl⟩ := List.mem_map.mp he
  obtain ⟨k, e1, r⟩ := hs p hp
  exact ⟨⟨k, kV_is r, by rw [nk_hash, ← e1]⟩, key_scan r⟩
theorem sc_find (hr : es.toList = hrows w L) (hs : ∀ p ∈ L, ScE p) (k : Key) : (es.toList.findIdx? fun e => (mixKind P w).is k e.2).isSome = true ↔ nkK k ∈ L.map (·.2) := by
  rw [List.findIdx?_isSome, List.any_eq_true, hr]
  constructor
  · rintro ⟨e, he, q⟩
    obtain ⟨p, hp, rfl⟩ := List.mem_map.mp he
    obtain ⟨j, e1, r⟩ := hs p hp
    have ej : k = j := (mixKind P w).inj _ _ _ q (kV_is r)
    exact List.mem_map.mpr ⟨p, hp, by rw [e1, ej]⟩
  · intro h
    obtain ⟨p, hp, e⟩ := List.mem_map.mp h
    obtain ⟨j, e1, r⟩ := hs p hp
    have ej : k = j := nk_inj (e.symm.trans e1)
    exact ⟨_, List.mem_map.mpr ⟨p, hp, rfl⟩, by rw [ej]; exact kV_is r⟩
theorem scan_add (R : SD w s.heap a L es ep t) (hs : ∀ p ∈ L, ScE p) {k : Key} {v : Value} (r : RelV (kV k) v) (hfew : L.length + 1 < 64) {Q : Bool → Shared → Prop}
    (hQ : ∀ b h' L' es' ep' t', Heap.SameBut a s.heap h' → SD w h' a L' es' ep' t' → Added L (v, nkK k) L' → Q b { s with heap := h' }) : wpAny (model P w) A (setAddHashed a v ((nkK k).hash w)) Q E s := by
  obtain ⟨o, ho, hex, hd⟩ := R.ob
  have hf := R.fits
  have hsz := hrows_size R.rows
  have hel : ElemsOf (mixKind P w) es.toList := sc_elems R.rows hs
  have hsc := key_scan r
  have small : ∀ n : Nat, n < 64 → n < scanBound := fun n h => by unfold scanBound; omega
  have hb : es.size < scanBound := small _ (by have := R.few; omega)
  rw [← nk_hash (P := P)]
  unfold setAddHashed setAddHashedIn
  refine wpAny_holding (wpAny_bind (wpAny_setState_of ho hd hf ?_))
  dsimp only
  rw [byScan_of hsc hb hel]
  simp only [↓reduceIte]
  unfold setAddByScan
  refine wpAny_bind (wpAny_bind (wpAny_rule (wpAny_bind (wpAny_setScan_of (kV_is r) ho hd hf hel ?_))))
  have fi := sc_find (P := P) R.rows hs k
  cases hfi : List.findIdx? (fun e => (mixKind P w).is k e.2) es.toList with
  | some j =>
    rw [hfi] at fi
    have hm := fi.mp rfl
    dsimp only
    exact wpAny_pure (wpAny_pure (hQ false s.heap L es ep t (Heap.SameBut.refl a s.heap) R ⟨fun _ => rfl, fun z => absurd hm z⟩))
  | none =>
    rw [hfi] at fi
    have hm : nkK k ∉ L.map (·.2) := fun z => nomatch fi.mpr z
    dsimp only
    have pm := layNew_perm t es ((mixKind P w).hash k) v
    have hf1 := layNew_fits t es ((mixKind P w).hash k) v
    have hr1 := layNew_ris t es ((mixKind P w).hash k) v R.ris
    have hl1 := layNew_led t es ((mixKind P w).hash k) v
    generalize layNew t es ((mixKind P w).hash k) v = Z at pm hf1 hr1 hl1 ⊢
    obtain ⟨es1, t1, wasDummy, gave⟩ := Z
    dsimp only at pm hf1 hr1 hl1 ⊢
    rw [Array.toList_push, R.rows] at pm
    obtain ⟨L1, p1, q1⟩ := perm_pic (f := fun p : Ent => (p.2.hash w, p.1)) (pm.trans (List.perm_append_singleton _ _)) ((v, nkK k) :: L) (by rw [List.map_cons, nk_hash] <;> rfl)
    have hn1 : L1.length = L.length + 1 := p1.length_eq
    have nd1 : (L1.map (·.2)).Nodup := (p1.map (·.2)).nodup_iff.mpr (by rw [List.map_cons]; exact List.nodup_cons.mpr ⟨hm, R.nd⟩)
    have led1 : w.params.followText "set-order" = true ∨ t1.led = true := R.led.imp id fun z => by rw [hl1]; exact z
    have s1 : es1.size = L.length + 1 := by rw [hrows_size (w := w) q1, hn1]
    -- the table laid by, and laid anew where it is too full
    have tail : ∀ (t2 : SetTable), t2.fits es1.size = true → Ris t2.place.toList → (w.params.followText "set-order" = true ∨ t2.led = true) → ∀ (g : Bool → Sem Unit) (hg : ∀ (b : Bool) (s₁ : Shared) (Q' : Unit → Shared → Prop), Q' () s₁ → wpAny (model P w) A (g b) Q' E s₁) (R' : Option Bool → Shared → Prop),
        (∀ h', (∃ L' es' ep' t', Heap.SameBut a s.heap h' ∧ SD w h' a L' es' ep' t' ∧ L'.Perm ((v, nkK k) :: L)) → R' (some true) { s with heap := h' }) → wpAny (model P w) A (do
          storeSet a es1 t2
          if (!wasDummy && t2.tooFull) = true then do
              g (relayAll t2 es1 (SetTable.grown es1.size)).2.2
              storeSet a (relayAll t2 es1 (SetTable.grown es1.size)).1 (relayAll t2 es1 (SetTable.grown es1.size)).2.1
              pure (some true)
            else pure (some true)) R' E s := by
      intro t2 f2 r2 l2 g hg R' hR
      refine wpAny_bind (wpAny_storeSet_of ho hd ?_ (fits_of_scanBound (small _ (by omega))))
      have ho1 := store_at (es' := es1) (t' := t2) ho hd
      have sb1 := Heap.SameBut.update s.heap a (Obj.putSet es1 t2)
      split
      · have pm2 := relayAll_perm t2 es1 (SetTable.grown es1.size)
        have f3 := relayAll_fits t2 es1 (SetTable.grown es1.size)
        have r3 := relayAll_ris t2 es1 (SetTable.grown es1.size)
        have l3 := relayAll_led t2 es1 (SetTable.grown es1.size)
        generalize relayAll t2 es1 (SetTable.grown es1.size) = Z2 at pm2 f3 r3 l3 ⊢
        obtain ⟨es2, t3, gave2⟩ := Z2
        dsimp only at pm2 f3 r3 l3 ⊢
        rw [q1] at pm2
        obtain ⟨L2, p2, q2⟩ := perm_pic pm2 L1 rfl
        have s2 : es2.size = L.length + 1 := by rw [hrows_size (w := w) q2, p2.length_eq, hn1]
        refine wpAny_bind (hg _ _ _ ?_)
        refine wpAny_bind (wpAny_storeSet_of ho1 rfl ?_ (fits_of_scanBound (small _ (by omega))))
        have ho2 := store_at (es' := es2) (t' := t3) ho1 rfl
        refine wpAny_pure (hR _ ⟨L2, es2, _, t3, sb1.trans (Heap.SameBut.update _ a _), ⟨⟨_, ho2, hex, rfl⟩, q2, r3, f3, l2.imp id fun z => by rw [l3]; exact z, (p2.map (·.2)).nodup_iff.mpr nd1, by rw [p2.length_eq]; omega⟩, p2.trans p1⟩)
      · exact wpAny_pure (hR _ ⟨L1, es1, _, t2, sb1, ⟨⟨_, ho1, hex, rfl⟩, q1, r2, f2, l2, nd1, by omega⟩, p1⟩)
    have fin : ∀ h', (∃ L' es' ep' t', Heap.SameBut a s.heap h' ∧ SD w h' a L' es' ep' t' ∧ L'.Perm ((v, nkK k) :: L)) → Q true { s with heap := h' } := fun h' ⟨L', es', ep', t', sb, R', pl⟩ => hQ true h' L' es' ep' t' sb R' ⟨fun z => absurd z hm, fun _ => pl⟩
    have hgw : ∀ (b : Bool) {s₁ : Shared} {Q' : Unit → Shared → Prop}, Q' () s₁ → wpAny (model P w) A (match b with | true => rule "set.scan.the-table-gave-way" | false => pure ()) Q' E s₁ :=
      fun b s₁ Q' q => by cases b <;> first | exact wpAny_pure q | exact wpAny_rule q
    refine wpAny_bind (hgw _ ?_)
    split
    · refine wpAny_bind ?_
      rw [hashByValue_scannable 8 hsc]
      refine wpAny_pure ?_
      refine tail _ ?_ ?_ ?_ _ ?_ _ ?_
      · first | (split <;> first | exact hf1 | exact SetTable.fits_plain_off hf1) | exact hf1
      · first | (split <;> exact hr1) | exact hr1
      · first | (split <;> exact led1) | exact led1
      · intro b s₁ Q' q; cases b <;> first | exact wpAny_pure q | exact wpAny_rule q
      · intro h' z; dsimp only; exact wpAny_pure (fin h' z)
    · refine wpAny_bind (wpAny_pure ?_)
      simp only [↓reduceIte]
      refine tail _ hf1 hr1 led1 _ ?_ _ ?_
      · intro b s₁ Q' q; cases b <;> first | exact wpAny_pure q | exact wpAny_rule q
      · intro h' z; dsimp only; exact wpAny_pure (fin h' z)

/-! ### tuples: the search -/
theorem tb_fits {t : SetTable} {L : List Ent} {n : Nat} (T : TbL w s.heap L t) (hn : n = L.length) : t.fits n = true := by
  have h1 := T.tab.sz
  rw [List.length_map] at h1
  have h3 := T.room
  unfold SetTable.fits SetTable.fill
  rw [T.tab.dm, Bool.and_eq_true, beq_iff_eq, decide_eq_true_eq]
  show t.place.size = n ∧ t.place.size + 0 ≤ t.mask
  omega
theorem tb_seen {x : Ent} (hx : TbE s.heap x) {ys : List Value} (hy : ∀ y ∈ ys, ∃ p : Ent, y = p.1 ∧ TbE s.heap p) {Q : Bool → Shared → Prop} (h : Q false s) : wpAny (model P w) A (searchCouldBeSeen x.1 ys) Q E s := by
  obtain ⟨b, ks, e1, e2, h1, h2⟩ := hx
  unfold searchCouldBeSeen
  refine wpAny_bind ?_
  refine wpAny_forIn_list _ (fun rest r s' => r.1 = none ∧ s' = s ∧ ∀ y ∈ rest, ∃ p : Ent, y = p.1 ∧ TbE s.heap p) _ ?_ ?_ _ _ ⟨rfl, rfl, hy⟩
  · rintro v rest r s' ⟨hr, rfl, hall⟩
    obtain ⟨p, rfl, c, js, f1, f2, g1, g2⟩ := hall v List.mem_cons_self
    have rest' : ∀ y ∈ rest, ∃ p : Ent, y = p.1 ∧ TbE s'.heap p := fun u hu' => hall u (List.mem_cons_of_mem _ hu')
    rw [e1, f1]
    rw [e1] at h1
    rw [f1] at g1
    dsimp only
    by_cases hv : (b == c || (carriedByValue (.ref b) && carriedByValue (.ref c))) = true
    · refine wp_if_pos hv ?_
      exact wpAny_pure ⟨rfl, rfl, rest'⟩
    · refine wp_if_neg hv ?_
      refine wpAny_bind (quiet_key _ _ 8 _ h1 h2 _ _ _ ?_)
      simp only [Bool.not_true, Bool.false_eq_true, if_false]
      refine wpAny_bind (quiet_key _ _ 8 _ g1 g2 _ _ _ ?_)
      simp only [Bool.not_true, Bool.false_eq_true, if_false]
      refine wpAny_bind (key_cls _ _ 8 _ h1 h2 _ _ _ ?_)
      simp only [Bool.false_eq_true, if_false]
      refine wpAny_bind (key_cls _ _ 8 _ g1 g2 _ _ _ ?_)
      simp only [Bool.false_eq_true, if_false]
      exact wpAny_pure ⟨rfl, rfl, rest'⟩
  · rintro ⟨r1, r2⟩ s' ⟨hr, rfl, _⟩
    simp only at hr
    subst hr
    exact wpAny_pure h
end
end DD
end T_DK2

section T_DK3
set_option Elab.async false
set_option linter.all false
set_option maxRecDepth 100000
set_option maxHeartbeats 1000000
set_option autoImplicit false
namespace DD
open PySem PySem.Spec L2
open PyProof.Rows hiding St

section
variable {P : Program} {w : World} {A : Around} {E : Value → Shared → Prop} {s : Shared} {a : Addr} {L : List Ent} {es : Array (Int × Value)} {ep : Nat} {t : SetTable}
/-- the way of a hash, from its first state on -/
abbrev st0 (m : Nat) (h : Int) : SetTable.Probe := runAt m (SetTable.bits h % (m + 1)) (SetTable.bits h)
theorem st0_way (m : Nat) (h : Int) (c q : Nat) : (nth m (nth m (st0 m h) c) q).j = way m h (c + q) := congrArg SetTable.Probe.j (nth_add m c (st0 m h) q).symm
theorem nth_dummy (m : Nat) : ∀ (n : Nat) (p : SetTable.Probe), p.dummy = none → (nth m p n).dummy = none
  | 0, _, h => h
  | n + 1, p, h => nth_dummy m n (adv m p) (by unfold adv; split <;> exact h)
theorem tb_search (R : SD w s.heap a L es ep t) (T : TbL w s.heap L t) {x : Ent} (hx : TbE s.heap x) (hu : A.units + 8 < cLine) {K : Nat} (hKf : K < 10 * SetTable.turns t.mask) (hK : way t.mask (x.2.hash w) K ∉ t.place.toList)
    (hKb : ∀ c, c < K → way t.mask (x.2.hash w) c ∈ t.place.toList) {Q : SetFound → Shared → Prop} (hin : x.2 ∈ L.map (·.2) → Q (.there none) s) (hout : x.2 ∉ L.map (·.2) → Q (.free (way t.mask (x.2.hash w) K) false) s) :
    ∀ (f c : Nat) (stand : Option SetTable.Probe), stand.getD (t.probeStart (x.2.hash w)) = nth t.mask (st0 t.mask (x.2.hash w)) c → c ≤ K → K - c < f →
      (∀ (i : Nat) p, L[i]? = some p → p.2 = x.2 → ∃ c', c ≤ c' ∧ c' < K ∧ t.place.toList[i]? = some (way t.mask (x.2.hash w) c')) → wpAny (model P w) A (setSearchFrom a x.1 (x.2.hash w) true f stand) Q E s
  | 0, c, stand, _, _, hf, _ => absurd hf (Nat.not_lt_zero _)
  | f + 1, c, stand, hst, hc, hf, hre => by
    obtain ⟨o, ho, hex, hd⟩ := R.ob
    have gw : ¬ t.gaveWay = true := by
      unfold SetTable.gaveWay
      rw [mask_odd T.tab.mok]
      decide
    rw [setSearchFrom_succ]
    refine wpAny_bind (wpAny_setState_of ho hd R.fits ?_)
    dsimp only
    refine wp_if_neg gw ?_
    have e0 : c + (K - c) = K := by omega
    have spec := go_spec t R.ris T.tab.dm (fun i => (es[i]?.map (·.1)).getD 0) (x.2.hash w) (10 * SetTable.turns t.mask) (K - c) _ (nth_dummy t.mask c (st0 t.mask (x.2.hash w)) rfl) (by omega)
      (fun q hq => by rw [st0_way]; exact hKb (c + q) (by omega)) (by rw [st0_way, e0]; exact hK)
    have hashAt : ∀ (i : Nat) p, L[i]? = some p → (fun i => (es[i]?.map (·.1)).getD 0) i = p.2.hash w := fun i p hp => by
      show (es[i]?.map (·.1)).getD 0 = _
      rw [hrows_at R.rows hp] <;> rfl
    rcases spec with ⟨q, i, hq, hi, hh, hno, hpr⟩ | ⟨hno, hpr⟩
    · have hnx : nth t.mask (nth t.mask (st0 t.mask (x.2.hash w)) c) (q + 1) = nth t.mask (st0 t.mask (x.2.hash w)) (c + (q + 1)) := (nth_add t.mask c _ _).symm
      have hpr' : t.probe (fun i => (es[i]?.map (·.1)).getD 0) (x.2.hash w) (stand.getD (t.probeStart (x.2.hash w))) = some (.candidate (way t.mask (x.2.hash w) (c + q)) i (nth t.mask (st0 t.mask (x.2.hash w)) (c + (q + 1)))) := by
        rw [hst, ← st0_way, ← hnx]
        exact hpr
      rw [hpr']
      dsimp only
      rw [st0_way] at hi
      have hil : i < L.length := by
        have h1 : i < t.place.toList.length := (List.getElem?_eq_some_iff.mp hi).1
        have h2 := T.tab.sz
        rw [List.length_map] at h2
        rw [Array.length_toList] at h1
        omega
      have hp : L[i]? = some L[i] := List.getElem?_eq_getElem hil
      generalize L[i] = p at hp
      have hmem : p ∈ L := List.mem_of_getElem? hp
      have hpt := T.each p hmem
      have rest : wpAny (model P w) A (searchRest a x.1 (x.2.hash w) true f es t (way t.mask (x.2.hash w) (c + q)) i (nth t.mask (st0 t.mask (x.2.hash w)) (c + (q + 1)))) Q E s := by
        obtain ⟨bp, kp, p1, p2, p3, p4⟩ := hpt
        obtain ⟨bx, kx, x1, x2, x3, x4⟩ := id hx
        unfold searchRest
        rw [hrows_at R.rows hp]
        dsimp only
        rw [p1, x1]
        rw [p1] at p3
        rw [x1] at x3
        refine wpAny_bind (wpAny_holding ((nestedKind P w).eqBool (show A.units + 8 < cLine from hu) ⟨p3, p4⟩ ⟨x3, x4⟩ ?_))
        refine wpAny_bind (wpAny_setState_of ho hd R.fits ?_)
        dsimp only
        by_cases hkk : p.2 = x.2
        · refine wp_if_pos (by simp [hkk]) ?_
          exact wpAny_pure (hin (List.mem_map.mpr ⟨p, hmem, hkk⟩))
        · refine wp_if_neg (by simp [hkk]) ?_
          rw [sameMem]
          dsimp only
          have hsl : t.slot (way t.mask (x.2.hash w) (c + q)) = .live i := slot_live R.ris hi
          have hee := hrows_at R.rows hp
          rw [p1] at hee
          simp only [if_true, hsl, hee]
          refine wpAny_bind (wpAny_isSame_ref_self (wpAny_bind (wpAny_pure ?_)))
          simp only [if_true]
          refine wp_if_neg (by simp [hkk]) ?_
          rw [← x1]
          refine tb_search R T hx hu hKf hK hKb hin hout f (c + (q + 1)) _ rfl (by omega) (by omega) fun i0 p0 h0 hk0 => ?_
          obtain ⟨c', a1, a2, a3⟩ := hre i0 p0 h0 hk0
          refine ⟨c', ?_, a2, a3⟩
          rcases Nat.lt_trichotomy c' (c + q) with z | z | z
          · exact absurd ((hashAt i0 p0 h0).trans (by rw [hk0])) (hno (c' - c) i0 (by omega) (by rw [st0_way, show c + (c' - c) = c' by omega]; exact a3))
          · rw [z] at a3
            have s0 := slot_live R.ris a3
            rw [hsl] at s0
            injection s0 with s0
            rw [← s0, hp] at h0
            exact absurd ((congrArg Prod.snd (Option.some.inj h0)).trans hk0) hkk
          · omega
      by_cases hl : t.led = true
      · exact wp_if_neg (by simp [hl]) rest
      · refine wp_if_pos (by simp [hl]) ?_
        refine wpAny_bind (tb_seen hx (fun y hy => ?_) (wp_if_neg (by decide) rest))
        obtain ⟨e, he, ee⟩ := List.mem_map.mp hy
        have he2 : e ∈ es.toList := (by simpa using he : e ∈ es ∧ _).1 |> Array.mem_toList_iff.mpr
        rw [R.rows] at he2
        obtain ⟨p2, hp2, e2⟩ := List.mem_map.mp he2
        exact ⟨p2, by rw [← ee, ← e2], T.each p2 hp2⟩
    · have hpr' : t.probe (fun i => (es[i]?.map (·.1)).getD 0) (x.2.hash w) (stand.getD (t.probeStart (x.2.hash w))) = some (.empty (way t.mask (x.2.hash w) K) none) := by
        have e2 : way t.mask (x.2.hash w) K = (nth t.mask (nth t.mask (st0 t.mask (x.2.hash w)) c) (K - c)).j := by rw [st0_way, e0]
        rw [hst, e2]
        exact hpr
      rw [hpr']
      dsimp only
      refine wpAny_pure (hout fun hm => ?_)
      obtain ⟨p0, h0, hk0⟩ := List.mem_map.mp hm
      obtain ⟨i0, hi0, e0'⟩ := List.getElem_of_mem h0
      have h00 : L[i0]? = some p0 := by rw [List.getElem?_eq_getElem hi0, e0']
      obtain ⟨c', a1, a2, a3⟩ := hre i0 p0 h00 hk0
      exact hno (c' - c) i0 (by omega) (by rw [st0_way, show c + (c' - c) = c' by omega]; exact a3) ((hashAt i0 p0 h00).trans (by rw [hk0]))
theorem tb_searchAt (R : SD w s.heap a L es ep t) (T : TbL w s.heap L t) {x : Ent} (hx : TbE s.heap x) (hu : A.units + 8 < cLine) {Q : SetFound → Shared → Prop} (hin : x.2 ∈ L.map (·.2) → Q (.there none) s)
    (hout : ∀ K, x.2 ∉ L.map (·.2) → way t.mask (x.2.hash w) K ∉ t.place.toList → (∀ c, c < K → way t.mask (x.2.hash w) c ∈ t.place.toList) → Q (.free (way t.mask (x.2.hash w) K) false) s) :
    wpAny (model P w) A (setSearch a x.1 (x.2.hash w) true) Q E s := by
  have hroom := T.room
  obtain ⟨K, hKf, hK, hKb⟩ := T.tab.first (by rw [List.length_map]; omega) (x.2.hash w)
  have hbig : K < 100000 := by
    have : 10 * SetTable.turns t.mask ≤ 1420 := by
      unfold SetTable.turns
      rcases T.tab.mok with e | e | e <;> omega
    omega
  unfold setSearch
  refine tb_search R T hx hu hKf hK hKb hin (fun hn => hout K hn hK hKb) 100000 0 none rfl (Nat.zero_le _) (by omega) fun i p hp hk => ?_
  have hi : (hss w L)[i]? = some (x.2.hash w) := by rw [List.getElem?_map, hp, ← hk] <;> rfl
  have hil : i < t.place.toList.length := by
    have h1 : i < L.length := (List.getElem?_eq_some_iff.mp hp).1
    have h2 := T.tab.sz
    rw [List.length_map] at h2
    rw [Array.length_toList]
    omega
  have hj := List.getElem?_eq_getElem hil
  obtain ⟨c, hc, e⟩ := T.tab.before hK hi hj
  exact ⟨c, Nat.zero_le _, hc, by rw [hj, e]⟩
end
end DD
end T_DK3

section T_DK4
set_option Elab.async false
set_option linter.all false
set_option maxRecDepth 100000
set_option maxHeartbeats 1000000
set_option autoImplicit false
namespace DD
open PySem PySem.Spec L2
open PyProof.Rows hiding St

theorem tbE_at {h h' : Heap} {p : Ent} (e : TbE h p) (k : ∀ a o vs n, h.get? a = some o → o.data = .seq vs n → h'.get? a = some o) : TbE h' p := by
  obtain ⟨b, ks, e1, e2, e3, e4⟩ := e
  exact ⟨b, ks, e1, e2, NestedIs.at k _ _ e3, e4⟩
theorem tbE_but {h h' : Heap} {p : Ent} {a : Addr} {o : Obj} {es ep t} (e : TbE h p) (ho : h.get? a = some o) (hd : o.data = .set es ep t) (hs : Heap.SameBut a h h') : TbE h' p :=
  tbE_at e fun b ob vs n hb hc => (hs.2 b fun z => by
    subst z
    rw [ho] at hb
    cases hb
    rw [hd] at hc
    cases hc).trans hb
section
variable {P : Program} {w : World} {A : Around} {E : Value → Shared → Prop} {s : Shared} {a : Addr} {L : List Ent} {es : Array (Int × Value)} {ep : Nat} {t : SetTable}
/-- rows taken in another order -/
theorem rows_order (hr : es.toList = hrows w L) {order : Array Nat} (hp : order.toList.Perm (List.range L.length)) :
    ∃ L2, (order.filterMap (es[·]?)).toList = hrows w L2 ∧ L2.Perm L ∧ hss w L2 = order.toList.map fun i => (es.map (·.1)).getD i 0 := by
  have get : ∀ l : List Nat, (∀ i ∈ l, i < L.length) → ∃ L2 : List Ent, l.filterMap (fun i => es[i]?) = hrows w L2 ∧ L2 = l.filterMap (fun i => L[i]?) ∧ hss w L2 = l.map fun i => (es.map (·.1)).getD i 0 := by
    intro l
    induction l with
    | nil => intro _; exact ⟨[], rfl, rfl, rfl⟩
    | cons i l ih =>
      intro hl
      have hi := List.getElem?_eq_getElem (hl i List.mem_cons_self)
      obtain ⟨L2, e1, e2, e3⟩ := ih fun j hj => hl j (List.mem_cons_of_mem _ hj)
      generalize L[i]'(hl i List.mem_cons_self) = p at hi
      have he := hrows_at hr hi
      refine ⟨p :: L2, ?_, ?_, ?_⟩
      · rw [List.filterMap_cons_some he, e1] <;> rfl
      · rw [List.filterMap_cons_some hi, e2]
      · show p.2.hash w :: hss w L2 = _
        rw [List.map_cons, e3]
        have e4 : (es.map (·.1))[i]? = some (p.2.hash w) := by rw [Array.getElem?_map, he] <;> rfl
        rw [Array.getD_eq_getD_getElem?, e4] <;> rfl
  obtain ⟨L2, e1, e2, e3⟩ := get order.toList fun i hi => List.mem_range.mp (hp.mem_iff.mp hi)
  refine ⟨L2, by simpa using e1, ?_, e3⟩
  have whole : (List.range L.length).filterMap (fun i => L[i]?) = L := by
    have part : ∀ n, n ≤ L.length → (List.range n).filterMap (fun i => L[i]?) = L.take n := by
      intro n
      induction n with
      | zero => intro _; rfl
      | succ n ih =>
        intro hn
        have hi := List.getElem?_eq_getElem hn
        rw [List.range_succ, List.filterMap_append, ih (Nat.le_of_lt hn), List.take_succ, hi, List.filterMap_cons_some hi] <;> rfl
    rw [part L.length (Nat.le_refl _), List.take_length]
  have q := hp.filterMap (fun i => L[i]?)
  rw [← e2, whole] at q
  exact q
theorem tb_relay {o : Obj} (ho : s.heap.get? a = some o) (hex : o.ExactSet) (hd : o.data = .set es ep t) (hr : es.toList = hrows w L) (tab : TabOk t (hss w L)) (hfl : L.length ≤ t.mask) (nd : (L.map (·.2)).Nodup) (each : ∀ p ∈ L, TbE s.heap p)
    (ld : w.params.followText "set-order" = true ∨ t.led = true) (few : L.length < 64) {wanted M : Nat} (hw : SetTable.sizeAbove wanted - 1 = M) (hM : MaskOk M) (hw2 : SetTable.sizeAbove wanted ≤ 128) (hn : L.length * 5 < M * 3) {Q : Unit → Shared → Prop}
    (hQ : ∀ h' L' es' ep' t', Heap.SameBut a s.heap h' → SD w h' a L' es' ep' t' → TbL w h' L' t' → L'.Perm L → Q () { s with heap := h' }) : wpAny (model P w) A (setRelay a wanted) Q E s := by
  have hsl := hrows_size hr
  have hsz := tab.sz
  rw [List.length_map] at hsz
  have hfits : t.fits es.size = true := by
    unfold SetTable.fits SetTable.fill
    rw [tab.dm, Bool.and_eq_true, beq_iff_eq, decide_eq_true_eq]
    show t.place.size = es.size ∧ t.place.size + 0 ≤ t.mask
    omega
  obtain ⟨t', order, e, hp, T, em, el, ep', ed⟩ := relaid_ok t (hs := es.map (·.1)) (wanted := wanted) hw hM (by rw [Array.size_map]; omega)
  rw [Array.size_map, hsl] at hp
  obtain ⟨L2, r1, r2, r3⟩ := rows_order hr hp
  rw [← r3] at T
  have hs2 : (order.filterMap (es[·]?)).size = es.size := by rw [hrows_size r1, r2.length_eq, hsl]
  have n2 := r2.length_eq
  rw [setRelay_eq]
  refine wpAny_bind (wpAny_setState_of ho hd hfits ?_)
  dsimp only
  refine wp_if_neg (by rw [sizeLine_eq]; omega) ?_
  rw [e]
  dsimp only
  refine wpAny_bind ?_
  refine wp_if_neg (by rw [hs2]; simp) ?_
  refine wpAny_pure ?_
  dsimp only
  refine wpAny_storeSet_of ho hd ?_ (by rw [hs2, hsl, sizeLine_eq]; omega)
  have sb : Heap.SameBut a s.heap (s.heap.update a (Obj.putSet (order.filterMap (es[·]?)) t')) := Heap.SameBut.update ..
  have szt := T.sz
  rw [List.length_map] at szt
  refine hQ _ L2 (order.filterMap (es[·]?)) (ep + 1) t' sb ⟨⟨_, store_at ho hd, hex, rfl⟩, r1, T.ris, ?_, by rw [el]; exact ld, (r2.map (·.2)).nodup_iff.mpr nd, by omega⟩ ⟨T, by rw [n2, em]; exact hn, fun p hpm => tbE_but (each p (r2.mem_iff.mp hpm)) ho hd sb⟩ r2
  unfold SetTable.fits SetTable.fill
  rw [T.dm, Bool.and_eq_true, beq_iff_eq, decide_eq_true_eq]
  show t'.place.size = _ ∧ t'.place.size + 0 ≤ t'.mask
  omega
theorem tab_plain {t : SetTable} {hs : List Int} (T : TabOk t hs) : TabOk { t with plain := false } hs := ⟨T.ris, T.dm, T.sz, T.mok, T.bd, T.reach⟩
theorem tb_add (R : SD w s.heap a L es ep t) (T : TbL w s.heap L t) {x : Ent} (hx : TbE s.heap x) (hu : A.units + 8 < cLine) (hfew : L.length + 1 < 64) {Q : Bool → Shared → Prop}
    (hQ : ∀ b h' L' es' ep' t', Heap.SameBut a s.heap h' → SD w h' a L' es' ep' t' → TbL w h' L' t' → Added L x L' → Q b { s with heap := h' }) : wpAny (model P w) A (setAddHashed a x.1 (x.2.hash w)) Q E s := by
  obtain ⟨o, ho, hex, hd⟩ := R.ob
  have hsl := hrows_size R.rows
  have hroom := T.room
  have hbs : ¬ byScan x.1 es = true := by
    obtain ⟨b, ks, e1, _⟩ := id hx
    rw [e1]
    simp [byScan, Value.scannable]
  unfold setAddHashed
  refine wpAny_holding ?_
  rw [show (100000 : Nat) = 99999 + 1 from rfl, setAddHashedIn_succ]
  refine wpAny_bind (wpAny_setState_of ho hd R.fits ?_)
  dsimp only
  refine wp_if_neg hbs ?_
  refine wpAny_bind (tb_searchAt R T hx hu (fun hm => ?_) fun K hm hK hb => ?_)
  · dsimp only
    exact wpAny_pure (hQ false s.heap L es ep t (Heap.SameBut.refl a s.heap) R T ⟨fun _ => rfl, fun z => absurd hm z⟩)
  · dsimp only
    refine wpAny_bind (wpAny_setState_of ho hd R.fits ?_)
    dsimp only
    obtain ⟨q1, q2, q3, q4, q5, q6, q7, q8, q9⟩ := T.tab.put hK hb
    generalize hpt : t.put (way t.mask (x.2.hash w) K) = pt at q1 q3 q4 q5 q6 q7 q8 q9 ⊢
    obtain ⟨t1, p⟩ := pt
    dsimp only at q1 q3 q4 q5 q6 q7 q8 q9 ⊢
    subst q1
    have hin : (SetTable.insertAt es (SetTable.below t.place (way t.mask (x.2.hash w) K)) (x.2.hash w, x.1)).toList = hrows w (L.take (SetTable.below t.place (way t.mask (x.2.hash w) K)) ++ x :: L.drop (SetTable.below t.place (way t.mask (x.2.hash w) K))) := by
      unfold hrows
      rw [SetTable.toList_insertAt, R.rows, List.map_append, List.map_cons, List.map_take, List.map_drop] <;> rfl
    generalize SetTable.below t.place (way t.mask (x.2.hash w) K) = p at q2 q3 hin ⊢
    have pm := put_perm L p x
    have hlen := pm.length_eq
    rw [List.length_cons] at hlen
    have hhs : hss w (L.take p ++ x :: L.drop p) = (hss w L).take p ++ x.2.hash w :: (hss w L).drop p := by
      unfold hss
      rw [List.map_append, List.map_cons, List.map_take, List.map_drop]
    rw [← hhs] at q3
    have nd1 : ((L.take p ++ x :: L.drop p).map (·.2)).Nodup := (pm.map (·.2)).nodup_iff.mpr (by rw [List.map_cons]; exact List.nodup_cons.mpr ⟨hm, R.nd⟩)
    have hes := hrows_size hin
    rw [hlen] at hes
    generalize SetTable.insertAt es p (x.2.hash w, x.1) = es1 at hin hes ⊢
    generalize L.take p ++ x :: L.drop p = L1 at pm hlen q3 nd1 hin
    rw [List.length_map] at q9
    -- whatever the byte says of plainness
    have tail : ∀ (t2 : SetTable), TabOk t2 (hss w L1) → t2.mask = t.mask → t2.led = t.led → t2.fill = L.length + 1 → wpAny (model P w) A (do
        storeSet a es1 t2
        if (!false && t2.tooFull) = true then setRelay a (SetTable.grown (es.size + 1))
        return true) Q E s := by
      intro t2 T2 m2 l2 f2
      refine wpAny_bind (wpAny_storeSet_of ho hd ?_ (by rw [hes, sizeLine_eq]; omega))
      have sb : Heap.SameBut a s.heap (s.heap.update a (Obj.putSet es1 t2)) := Heap.SameBut.update ..
      have ho1 := store_at (es' := es1) (t' := t2) ho hd
      generalize s.heap.update a (Obj.putSet es1 t2) = h1 at sb ho1 ⊢
      have tup1 : ∀ p ∈ L1, TbE h1 p := fun p hp => by
        rcases List.mem_cons.mp (pm.mem_iff.mp hp) with e | hp
        · rw [e]; exact tbE_but hx ho hd sb
        · exact tbE_but (T.each p hp) ho hd sb
      have ld1 : w.params.followText "set-order" = true ∨ t2.led = true := by rw [l2]; exact R.led
      by_cases hf : t2.tooFull = true
      · have hfull : (L.length + 1) * 5 ≥ t2.mask * 3 := by
          have h := hf
          unfold SetTable.tooFull at h
          rw [decide_eq_true_eq, f2] at h
          exact h
        have cases2 : (t.mask = 7 ∧ L.length = 4) ∨ (t.mask = 31 ∧ L.length = 18) := by
          rw [m2] at hfull
          rcases T.tab.mok with e | e | e
          · left; rw [e] at hfull hroom; exact ⟨e, by omega⟩
          · right; rw [e] at hfull hroom; exact ⟨e, by omega⟩
          · exfalso; rw [e] at hfull; omega
        have go : ∀ M, SetTable.sizeAbove (SetTable.grown (L.length + 1)) - 1 = M → MaskOk M → SetTable.sizeAbove (SetTable.grown (L.length + 1)) ≤ 128 → (L.length + 1) * 5 < M * 3 →
            wpAny (model P w) A (setRelay a (SetTable.grown (es.size + 1))) (fun _ s' => wpAny (model P w) A (pure true) Q E s') E { s with heap := h1 } := fun M h1' h2' h3' h4' => by
          rw [hsl]
          refine tb_relay (s := { s with heap := h1 }) ho1 hex rfl hin T2 (by rw [hlen, m2]; rcases cases2 with ⟨e, e2⟩ | ⟨e, e2⟩ <;> omega) nd1 tup1 ld1 (by omega) h1' h2' h3' (by rw [hlen]; exact h4') ?_
          intro h2 L2 es2 ep2 t2' sb2 R2 T2' pm2
          exact wpAny_pure (hQ true h2 L2 es2 ep2 t2' (sb.trans sb2) R2 T2' ⟨fun z => absurd z hm, fun _ => pm2.trans pm⟩)
        dsimp only
        refine wp_if_pos (by rw [hf]; rfl) (wpAny_bind ?_)
        rcases cases2 with ⟨_, e2⟩ | ⟨_, e2⟩
        · exact go 31 (by rw [e2, size_20]) (.inr (.inl rfl)) (by rw [e2, size_20]; decide) (by omega)
        · exact go 127 (by rw [e2, size_76]) (.inr (.inr rfl)) (by rw [e2, size_76]; decide) (by omega)
      · have room1 : L1.length * 5 < t2.mask * 3 := by
          have h := hf
          unfold SetTable.tooFull at h
          rw [decide_eq_true_eq, f2] at h
          omega
        have R1 : SD w h1 a L1 es1 (ep + 1) t2 := by
          have T3 : TbL w h1 L1 t2 := ⟨T2, room1, tup1⟩
          exact ⟨⟨_, ho1, hex, rfl⟩, hin, T2.ris, tb_fits (s := { s with heap := h1 }) T3 (by omega), ld1, nd1, by omega⟩
        dsimp only
        refine wp_if_neg (by simpa using hf) ?_
        exact wpAny_pure (hQ true h1 L1 es1 (ep + 1) t2 sb R1 ⟨T2, room1, tup1⟩ ⟨fun z => absurd z hm, fun _ => pm⟩)
    by_cases hp1 : t1.plain = true
    · refine wp_if_pos hp1 (wpAny_bind ?_)
      obtain ⟨bx, kx, x1, x2, x3, x4⟩ := id hx
      refine key_hby _ _ 8 _ x3 x4 _ _ _ fun b => ?_
      cases b with
      | true => exact tail t1 q3 q4 q5 q9
      | false => exact tail { t1 with plain := false } (tab_plain q3) q4 q5 q9
    · refine wp_if_neg hp1 (wpAny_bind (wpAny_pure ?_))
      exact tail t1 q3 q4 q5 q9
end
end DD
end T_DK4

section T_DK5
set_option Elab.async false
set_option linter.all false
set_option maxRecDepth 100000
set_option maxHeartbeats 1000000
set_option autoImplicit false
namespace DD
open PySem PySem.Spec L2
open PyProof.Rows hiding St

/-- of which kind the members are: tuples, or ints and texts -/
def KdE (m : Bool) (h : Heap) (p : Ent) : Prop := if m then TbE h p else ScE p
structure SS (m : Bool) (w : World) (h : Heap) (a : Addr) (L : List Ent) : Prop where
  ex : ∃ es ep t, SD w h a L es ep t ∧ (m = true → TbL w h L t)
  each : ∀ p ∈ L, KdE m h p
theorem kdE_at {m : Bool} {h h' : Heap} {p : Ent} (e : KdE m h p) (k : ∀ a o vs n, h.get? a = some o → o.data = .seq vs n → h'.get? a = some o) : KdE m h' p := by
  cases m with
  | true => exact tbE_at e k
  | false => exact e
theorem kdE_any {m : Bool} {h h' : Heap} {p : Ent} (e : KdE m h p) (k : ∀ a o, h.get? a = some o → h'.get? a = some o) : KdE m h' p := kdE_at e fun a o _ _ z _ => k a o z
/-- what a set has got of the first i things -/
structure Gat (xs : List Ent) (i : Nat) (L : List Ent) : Prop where
  sub : ∀ p ∈ L, p ∈ xs.take i
  all : ∀ p ∈ xs.take i, p.2 ∈ L.map (·.2)
  len : L.length ≤ i
theorem Gat.zero (xs : List Ent) : Gat xs 0 [] := ⟨fun _ h => (nomatch h), fun _ h => (by simp at h), Nat.le_refl _⟩
theorem Gat.step {xs L L' : List Ent} {i : Nat} {x : Ent} (g : Gat xs i L) (e : xs[i]? = some x) (ad : Added L x L') : Gat xs (i + 1) L' := by
  have et : xs.take (i + 1) = xs.take i ++ [x] := by rw [List.take_succ, e] <;> rfl
  by_cases hm : x.2 ∈ L.map (·.2)
  · rw [ad.old hm]
    refine ⟨fun p hp => by rw [et]; exact List.mem_append_left _ (g.sub p hp), fun p hp => ?_, Nat.le_succ_of_le g.len⟩
    rw [et] at hp
    rcases List.mem_append.mp hp with z | z
    · exact g.all p z
    · rw [List.mem_singleton.mp z]; exact hm
  · have pm := ad.new hm
    refine ⟨fun p hp => ?_, fun p hp => ?_, by rw [pm.length_eq]; exact Nat.succ_le_succ g.len⟩
    · rw [et]
      rcases List.mem_cons.mp (pm.mem_iff.mp hp) with z | z
      · rw [z]; exact List.mem_append_right _ (List.mem_singleton.mpr rfl)
      · exact List.mem_append_left _ (g.sub p z)
    · rw [(pm.map (·.2)).mem_iff, List.map_cons]
      rw [et] at hp
      rcases List.mem_append.mp hp with z | z
      · exact List.mem_cons_of_mem _ (g.all p z)
      · rw [List.mem_singleton.mp z]; exact List.mem_cons_self
section
variable {P : Program} {w : World} {A : Around} {E : Value → Shared → Prop} {s : Shared} {a : Addr} {L : List Ent} {m : Bool}
theorem SS.keep {h h' : Heap} (S : SS m w h a L) (ha : ∀ o, h.get? a = some o → h'.get? a = some o) (he : ∀ p ∈ L, KdE m h' p) : SS m w h' a L := by
  obtain ⟨es, ep, t, R, T⟩ := S.ex
  obtain ⟨o, ho, r⟩ := R.ob
  exact ⟨⟨es, ep, t, ⟨⟨o, ha o ho, r⟩, R.rows, R.ris, R.fits, R.led, R.nd, R.few⟩, fun e => ⟨(T e).tab, (T e).room, fun p hp => by have := he p hp; rw [e] at this; exact this⟩⟩, he⟩
/-- s.add(x), within the model -/
theorem ss_add (S : SS m w s.heap a L) {x : Ent} (hx : KdE m s.heap x) (hu : A.units + 8 < cLine) (hfew : L.length + 1 < 64) {Q : Bool → Shared → Prop}
    (hQ : ∀ b h' tk L', s.toks ≤ tk → Heap.SameBut a s.heap h' → SS m w h' a L' → Added L x L' → Q b { s with heap := h', toks := tk }) : wpAny (model P w) A (setAdd a x.1) Q E s := by
  obtain ⟨es, ep, t, R, T⟩ := S.ex
  obtain ⟨o, ho, hex, hd⟩ := R.ob
  unfold setAdd
  refine wpAny_holding ?_
  cases m with
  | true =>
    obtain ⟨bx, kx, x1, x2, x3, x4⟩ := id (show TbE s.heap x from hx)
    refine wpAny_bind (pyHash_key x.2 x.1 A s _ x3 (by omega) ?_)
    refine tb_add (s := { s with toks := s.toks + x.2.draws }) R (T rfl) hx hu hfew fun b h' L' es' ep' t' sb R' T' ad => ?_
    exact hQ b h' _ L' (Nat.le_add_right _ _) sb ⟨⟨es', ep', t', R', fun _ => T'⟩, fun p hp => T'.each p hp⟩ ad
  | false =>
    obtain ⟨v, k0⟩ := x
    obtain ⟨k, x1, r⟩ := id (show ScE (v, k0) from hx)
    dsimp only at x1 r
    subst x1
    refine wpAny_bind ((mixKind P w).pyHash (kV_is r) ?_)
    rw [nk_hash]
    refine scan_add (s := { s with toks := s.toks + 1 }) R (fun p hp => S.each p hp) r hfew fun b h' L' es' ep' t' sb R' ad => ?_
    refine hQ b h' _ L' (Nat.le_add_right _ _) sb ⟨⟨es', ep', t', R', fun e => nomatch e⟩, fun p hp => ?_⟩ ad
    by_cases hm : nkK k ∈ L.map (·.2)
    · rw [ad.old hm] at hp
      exact S.each p hp
    · rcases List.mem_cons.mp ((ad.new hm).mem_iff.mp hp) with z | z
      · rw [z]; exact hx
      · exact S.each p z
/-- a new set -/
theorem ss_fresh {h : Heap} (ho : h.get? a = some { cls := .type "set", dict := none, data := .set #[] 0 (.fresh 0 0 (!w.params.followText "set-order")) }) : SS m w h a [] where
  ex := by
    refine ⟨#[], 0, _, ⟨⟨_, ho, ⟨rfl, rfl, rfl⟩, rfl⟩, rfl, List.Pairwise.nil, rfl, ?_, List.nodup_nil, by show 0 < 64; decide⟩, fun _ => ⟨⟨List.Pairwise.nil, rfl, rfl, .inl rfl, fun x hx => (nomatch hx), fun i h j hi => (by simp at hi)⟩, by show 0 * 5 < 7 * 3; decide, fun p hp => (nomatch hp)⟩⟩
    show _ ∨ (!w.params.followText "set-order") = true
    cases w.params.followText "set-order"
    · exact .inr rfl
    · exact .inl rfl
  each := fun p hp => nomatch hp
/-- set.update's loop -/
theorem ss_update {I : Addr} {fp wr : List Addr} {G : Array GenState → Array GenState → Prop} {n : Nat} {Pv : Nat → Value → Prop} {St : Nat → Shared → Prop} {R : Result → Shared → Prop} (W : WalksS P w A.in1 I fp wr G n Pv St) (S : Addr) (hSf : S ∉ fp)
    (xs : List Ent) (hn : n = xs.length) (hfew : xs.length < 64) (hval : ∀ i v, Pv i v → ∃ p, xs[i]? = some p ∧ v = p.1) (h0 : Heap) (hk : ∀ p ∈ xs, KdE m h0 p) (hS0 : h0.get? S = none) (hw0 : ∀ b ∈ wr, h0.get? b = none) (hu : A.in1.units + 8 < cLine) :
    ∀ (k i : Nat) (s : Shared), n - i = k → i ≤ n → St i s → (∀ b o, h0.get? b = some o → s.heap.get? b = some o) → (∃ L, SS m w s.heap S L ∧ Gat xs i L) →
      (∀ s' L, Moved (S :: wr) G s s' → SS m w s'.heap S L → Gat xs n L → (∀ b o, h0.get? b = some o → s'.heap.get? b = some o) → R (.ok (.ret .none)) s') →
      codeAny (model P w) A (.builtin "set.update.loop" ⟨[.ref S, .ref I], []⟩) R s := by
  have hSw : S ∉ wr := fun h => hSf (W.sub _ h)
  have hsub : ∀ b ∈ wr, b ∈ S :: wr := fun b hb => List.mem_cons_of_mem _ hb
  have keepM : ∀ {s s' : Shared}, Moved wr G s s' → (∀ b o, h0.get? b = some o → s.heap.get? b = some o) → ∀ b o, h0.get? b = some o → s'.heap.get? b = some o := fun hm hkp b o e =>
    hm.heap b o (fun hb => by rw [hw0 b hb] at e; cases e) (hkp b o e)
  have eachOf : ∀ {L : List Ent} {i : Nat} {h : Heap}, Gat xs i L → (∀ b o, h0.get? b = some o → h.get? b = some o) → ∀ p ∈ L, KdE m h p := fun g k p hp => kdE_any (hk p (List.mem_of_mem_take (g.sub p hp))) k
  intro k
  induction k with
  | zero =>
    intro i s hk' hi hst hkp ⟨L, hS, g⟩ hR
    have hin : i = n := by omega
    subst hin
    refine codeAny_builtin PyProof.Rows.F.entry_set_update_loop ?_
    rw [Around.under_plainId PyProof.Rows.F.plain_set_update_loop _]
    show wpAny _ A.in1 (pyNext (.ref I) >>= _) _ _ s
    refine wpAny_bind (W.done s _ _ hst fun s' hm => ?_)
    have hkp' := keepM hm hkp
    exact wpAny_pure (hR s' L (hm.mono hsub) (hS.keep (fun o e => hm.heap S o hSw e) (eachOf g hkp')) g hkp')
  | succ k ih =>
    intro i s hk' hi hst hkp ⟨L, hS, g⟩ hR
    have hlt : i < n := by omega
    refine codeAny_builtin PyProof.Rows.F.entry_set_update_loop ?_
    rw [Around.under_plainId PyProof.Rows.F.plain_set_update_loop _]
    show wpAny _ A.in1 (pyNext (.ref I) >>= _) _ _ s
    refine wpAny_bind (W.item i s _ _ hlt hst fun v s' hP hst' hm => ?_)
    obtain ⟨p, hp, rfl⟩ := hval i v hP
    have hkp' := keepM hm hkp
    have hS' : SS m w s'.heap S L := hS.keep (fun o e => hm.heap S o hSw e) (eachOf g hkp')
    show wpAny _ A.in1 (holding [p.1] (setAdd S p.1) >>= _) _ _ s'
    refine wpAny_bind (wpAny_holding (ss_add hS' (kdE_any (hk p (List.mem_of_getElem? hp)) hkp') hu (by have := g.len; omega) fun b h' tk L' htk hsb hS2 ad => ?_))
    have hkp2 : ∀ b o, h0.get? b = some o → h'.get? b = some o := fun b o e => (hsb.2 b (fun z => by rw [z, hS0] at e; cases e)).trans (hkp' b o e)
    refine wpAny_pure ⟨plainId_quiet PyProof.Rows.F.plain_set_update_loop _, ih (i + 1) _ (by omega) hlt (W.frame _ s' _ _ hst' htk fun b hb o e => ?_) hkp2 ⟨L', hS2, g.step hp ad⟩ fun s'' L2 hm'' hS'' g'' hkp'' => ?_⟩
    · rw [hsb.2 b (fun h : b = S => hSf (by rw [← h]; exact hb))]; exact e
    · refine hR s'' L2 (Moved.trans W.gtrans ((hm.mono hsub).then_heap htk fun b o hb e => ?_) hm'') hS'' g'' hkp''
      rw [hsb.2 b (fun h : b = S => hb (by rw [h]; exact List.mem_cons_self))]; exact e
end
end DD
end T_DK5

section T_DK6
set_option Elab.async false
set_option linter.all false
set_option maxRecDepth 100000
set_option maxHeartbeats 3200000
set_option autoImplicit false
namespace DD
open PySem PySem.Spec L2
open PyProof.Rows hiding St

abbrev newSetO (w : World) : Obj := { cls := .type "set", dict := none, data := .set #[] 0 (.fresh 0 0 (!w.params.followText "set-order")) }
section
variable {P : Program} {w : World} {A : Around} {E : Value → Shared → Prop} {s : Shared} {m : Bool}
/-- set(xs) of a list -/
theorem call_set_list {l : Addr} {items : Array Value} (xs : List Ent) {Q : Value → Shared → Prop} (hh : A.handled = none) (hl : s.heap.IsList l items) (hit : items.toList = xs.map (·.1)) (hk : ∀ p ∈ xs, KdE m s.heap p) (hfew : xs.length < 64) (hu : A.units + 16 < cLine)
    (h : ∀ (h' : Heap) (tk : Nat) L, SS m w h' s.heap.objs.size L → Gat xs xs.length L → (∀ b o, s.heap.get? b = some o → h'.get? b = some o) → Q (.ref s.heap.objs.size) { s with heap := h', toks := tk }) :
    wpAny (model P w) A (call (.type "set") [.ref l]) Q E s := by
  have hisz : items.size = xs.length := by
    have q := congrArg List.length hit
    rw [Array.length_toList, List.length_map] at q
    exact q
  obtain ⟨c, tl, hmro⟩ := PySem.F.called_set.mro
  have hmade := PySem.F.called_set.made
  have hsub := PySem.F.called_set.sub
  refine wpAny_call (codeAny_of_tree ?_)
  show wpAny _ _ (callAny (.type "set") _) _ _ _
  refine wpAny_pure ⟨Code.quiet_builtin _ (by decide +kernel), codeAny_builtin PySem.F.entry_type_call ?_⟩
  rw [Around.under_plain (weight_type_call_type "set" [.ref l] []) rfl]
  have h1 := PySem.F.called_set.notType
  have h2 := PySem.F.called_set.canCreate
  have hct := PySem.F.typeCall_set_1 (.ref l)
  repeat (any_goals (first | assumption | wp_step))
  refine codeAny_mono (code_set_led1 (.ref l) (E := E) (Q₁ := fun obj s₁ => obj = .ref s.heap.objs.size ∧ s₁ = { s with heap := s.heap.push (newSetO w) }) ⟨rfl, rfl⟩) fun r s₁ hr => ?_
  cases r with
  | error e => exact hr
  | ok fl =>
    cases fl with
    | ret obj =>
      obtain ⟨rfl, rfl⟩ := hr
      have hS : (s.heap.push (newSetO w)).get? s.heap.objs.size = some (newSetO w) := Heap.get?_push_size _ rfl
      have hT : Shared.TypeIs { s with heap := s.heap.push (newSetO w) } (.ref s.heap.objs.size) "set" := ⟨_, hS, rfl⟩
      have hli := PySem.F.called_set.init.lookup
      have hbi := PySem.F.called_set.init.bind (.ref s.heap.objs.size)
      repeat (any_goals (first | assumption | wp_step))
      refine codeAny_mono (codeAny_call_builtin (R := wants (fun r s₂ => r = .none ∧ ∃ h' tk L, s₂ = { s with heap := h', toks := tk } ∧ SS m w h' s.heap.objs.size L ∧ Gat xs xs.length L ∧ (∀ b o, s.heap.get? b = some o → h'.get? b = some o)) E)
        PySem.F.called_set.init.plain PySem.F.entry_set_init (check_set_init_1 hT ?_)) fun r₂ s₂ hr₂ => ?_
      · obtain ⟨ol, hol, hcl, nl, hdl⟩ := hl
        obtain ⟨ocls, odict, odata, oslots⟩ := ol
        simp only at hcl hdl
        subst hcl; subst hdl
        have hol' : (s.heap.push (newSetO w)).get? l = some { cls := .type "list", dict := odict, data := .seq items nl, slots := oslots } := Heap.get?_push_of_some _ hol
        have hsls := PySem.F.sub_list_set
        have hslf := PySem.F.sub_list_frozenset
        have hne : (Value.type "list" == Value.type "dict") = false := by decide
        have hl1 : (s.heap.push (newSetO w)).IsList l items := ⟨_, hol', rfl, nl, rfl⟩
        unfold Builtin.«set.__init__» noKeywords Builtin.Frozenset.updateFrom
        generalize hPI : pyIter = PI
        wp_walk
        subst hPI
        refine wpAny_pyIter_list hl1 ?_
        refine wpAny_bind (wpAny_runValue ?_)
        have hlS : l < s.heap.objs.size := Heap.lt_size hol
        have hh3 : A.in1.in1.in1.handled = none := by simp [hh]
        have hz1 : (s.heap.push (newSetO w)).objs.size = s.heap.objs.size + 1 := Heap.size_push ..
        have hneI : l ≠ (s.heap.push (newSetO w)).objs.size := by rw [hz1]; exact Nat.ne_of_lt (Nat.lt_succ_of_lt hlS)
        have hSf : s.heap.objs.size ∉ [(s.heap.push (newSetO w)).objs.size, l] := by
          rw [hz1]
          simp only [List.mem_cons, List.not_mem_nil, or_false, not_or]
          exact ⟨Nat.ne_of_lt (Nat.lt_succ_self _), Nat.ne_of_gt hlS⟩
        have hval : ∀ (i : Nat) (v : Value), items[i]? = some v → ∃ p, xs[i]? = some p ∧ v = p.1 := fun i v hv => by
          have q : items.toList[i]? = some v := by rw [Array.getElem?_toList]; exact hv
          rw [hit, List.getElem?_map] at q
          cases hq : xs[i]? with
          | none => rw [hq] at q; cases q
          | some p =>
            rw [hq] at q
            exact ⟨p, rfl, (Option.some.inj q).symm⟩
        have none_of : ∀ b, s.heap.objs.size ≤ b → s.heap.get? b = none := fun b hb => by
          cases q : s.heap.get? b with
          | none => rfl
          | some o => exact absurd (Nat.lt_of_lt_of_le (Heap.lt_size q) hb) (Nat.lt_irrefl _)
        refine ss_update (m := m) ((Walks.list hh3 _ l hneI items).toS) s.heap.objs.size hSf xs hisz hfew hval s.heap hk (none_of _ (Nat.le_refl _)) (fun b hb => none_of b (by rw [List.mem_singleton.mp hb, hz1]; exact Nat.le_succ _))
          (by show A.units + 3 + 8 < cLine; omega) (items.size - 0) 0 _ (by omega) (Nat.zero_le _)
          ⟨⟨_, Heap.get?_push_size _ rfl, rfl, rfl⟩, (hl1.push _)⟩ (fun b o e => Heap.get?_push_of_some _ (Heap.get?_push_of_some _ e)) ⟨[], ss_fresh (Heap.get?_push_of_some _ hS), Gat.zero xs⟩ ?hR
        case hR =>
          intro s' L hm hS' g' hkp
          obtain ⟨h', g2, d', tk', os'⟩ := s'
          have eg : g2 = s.gens := hm.gens
          have ed : d' = s.drawn := hm.drawn
          have eo : os' = s.os := hm.os
          subst eg; subst ed; subst eo
          rw [hisz] at g'
          exact wpAny_pure (wpAny_pure ⟨rfl, h', tk', L, rfl, hS', g', hkp⟩)
      · cases r₂ with
        | error e => exact hr₂
        | ok fl₂ =>
          cases fl₂ with
          | ret r =>
            obtain ⟨rfl, h', tk, L, rfl, hS', g', hk'⟩ := hr₂
            repeat (any_goals (first | assumption | wp_step))
            exact h _ _ _ hS' g' hk'
          | _ => exact hr₂.elim
    | _ => exact hr.elim
/-- set(xs) of a tuple -/
theorem call_set_tuple {l : Addr} {items : Array Value} (xs : List Ent) {Q : Value → Shared → Prop} (hh : A.handled = none) (hl : s.heap.IsTuple l items) (hit : items.toList = xs.map (·.1)) (hk : ∀ p ∈ xs, KdE m s.heap p) (hfew : xs.length < 64) (hu : A.units + 16 < cLine)
    (h : ∀ (h' : Heap) (tk : Nat) L, SS m w h' s.heap.objs.size L → Gat xs xs.length L → (∀ b o, s.heap.get? b = some o → h'.get? b = some o) → Q (.ref s.heap.objs.size) { s with heap := h', toks := tk }) :
    wpAny (model P w) A (call (.type "set") [.ref l]) Q E s := by
  have hisz : items.size = xs.length := by
    have q := congrArg List.length hit
    rw [Array.length_toList, List.length_map] at q
    exact q
  obtain ⟨c, tl, hmro⟩ := PySem.F.called_set.mro
  have hmade := PySem.F.called_set.made
  have hsub := PySem.F.called_set.sub
  refine wpAny_call (codeAny_of_tree ?_)
  show wpAny _ _ (callAny (.type "set") _) _ _ _
  refine wpAny_pure ⟨Code.quiet_builtin _ (by decide +kernel), codeAny_builtin PySem.F.entry_type_call ?_⟩
  rw [Around.under_plain (weight_type_call_type "set" [.ref l] []) rfl]
  have h1 := PySem.F.called_set.notType
  have h2 := PySem.F.called_set.canCreate
  have hct := PySem.F.typeCall_set_1 (.ref l)
  repeat (any_goals (first | assumption | wp_step))
  refine codeAny_mono (code_set_led1 (.ref l) (E := E) (Q₁ := fun obj s₁ => obj = .ref s.heap.objs.size ∧ s₁ = { s with heap := s.heap.push (newSetO w) }) ⟨rfl, rfl⟩) fun r s₁ hr => ?_
  cases r with
  | error e => exact hr
  | ok fl =>
    cases fl with
    | ret obj =>
      obtain ⟨rfl, rfl⟩ := hr
      have hS : (s.heap.push (newSetO w)).get? s.heap.objs.size = some (newSetO w) := Heap.get?_push_size _ rfl
      have hT : Shared.TypeIs { s with heap := s.heap.push (newSetO w) } (.ref s.heap.objs.size) "set" := ⟨_, hS, rfl⟩
      have hli := PySem.F.called_set.init.lookup
      have hbi := PySem.F.called_set.init.bind (.ref s.heap.objs.size)
      repeat (any_goals (first | assumption | wp_step))
      refine codeAny_mono (codeAny_call_builtin (R := wants (fun r s₂ => r = .none ∧ ∃ h' tk L, s₂ = { s with heap := h', toks := tk } ∧ SS m w h' s.heap.objs.size L ∧ Gat xs xs.length L ∧ (∀ b o, s.heap.get? b = some o → h'.get? b = some o)) E)
        PySem.F.called_set.init.plain PySem.F.entry_set_init (check_set_init_1 hT ?_)) fun r₂ s₂ hr₂ => ?_
      · obtain ⟨ol, hol, hcl, nl, hdl⟩ := hl
        obtain ⟨ocls, odict, odata, oslots⟩ := ol
        simp only at hcl hdl
        subst hcl; subst hdl
        have hol' : (s.heap.push (newSetO w)).get? l = some { cls := .type "tuple", dict := odict, data := .seq items nl, slots := oslots } := Heap.get?_push_of_some _ hol
        have hsls := PySem.F.sub_tuple_set
        have hslf := PySem.F.sub_tuple_frozenset
        have hne : (Value.type "tuple" == Value.type "dict") = false := by decide
        have hl1 : (s.heap.push (newSetO w)).IsTuple l items := ⟨_, hol', rfl, nl, rfl⟩
        unfold Builtin.«set.__init__» noKeywords Builtin.Frozenset.updateFrom
        generalize hPI : pyIter = PI
        wp_walk
        subst hPI
        refine wpAny_pyIter_tuple hl1 ?_
        refine wpAny_bind (wpAny_runValue ?_)
        have hlS : l < s.heap.objs.size := Heap.lt_size hol
        have hh3 : A.in1.in1.in1.handled = none := by simp [hh]
        have hz1 : (s.heap.push (newSetO w)).objs.size = s.heap.objs.size + 1 := Heap.size_push ..
        have hneI : l ≠ (s.heap.push (newSetO w)).objs.size := by rw [hz1]; exact Nat.ne_of_lt (Nat.lt_succ_of_lt hlS)
        have hSf : s.heap.objs.size ∉ [(s.heap.push (newSetO w)).objs.size, l] := by
          rw [hz1]
          simp only [List.mem_cons, List.not_mem_nil, or_false, not_or]
          exact ⟨Nat.ne_of_lt (Nat.lt_succ_self _), Nat.ne_of_gt hlS⟩
        have hval : ∀ (i : Nat) (v : Value), items[i]? = some v → ∃ p, xs[i]? = some p ∧ v = p.1 := fun i v hv => by
          have q : items.toList[i]? = some v := by rw [Array.getElem?_toList]; exact hv
          rw [hit, List.getElem?_map] at q
          cases hq : xs[i]? with
          | none => rw [hq] at q; cases q
          | some p =>
            rw [hq] at q
            exact ⟨p, rfl, (Option.some.inj q).symm⟩
        have none_of : ∀ b, s.heap.objs.size ≤ b → s.heap.get? b = none := fun b hb => by
          cases q : s.heap.get? b with
          | none => rfl
          | some o => exact absurd (Nat.lt_of_lt_of_le (Heap.lt_size q) hb) (Nat.lt_irrefl _)
        refine ss_update (m := m) ((Walks.tuple hh3 _ l hneI items).toS) s.heap.objs.size hSf xs hisz hfew hval s.heap hk (none_of _ (Nat.le_refl _)) (fun b hb => none_of b (by rw [List.mem_singleton.mp hb, hz1]; exact Nat.le_succ _))
          (by show A.units + 3 + 8 < cLine; omega) (items.size - 0) 0 _ (by omega) (Nat.zero_le _)
          ⟨⟨_, Heap.get?_push_size _ rfl, rfl, rfl⟩, (hl1.push _)⟩ (fun b o e => Heap.get?_push_of_some _ (Heap.get?_push_of_some _ e)) ⟨[], ss_fresh (Heap.get?_push_of_some _ hS), Gat.zero xs⟩ ?hR
        case hR =>
          intro s' L hm hS' g' hkp
          obtain ⟨h', g2, d', tk', os'⟩ := s'
          have eg : g2 = s.gens := hm.gens
          have ed : d' = s.drawn := hm.drawn
          have eo : os' = s.os := hm.os
          subst eg; subst ed; subst eo
          rw [hisz] at g'
          exact wpAny_pure (wpAny_pure ⟨rfl, h', tk', L, rfl, hS', g', hkp⟩)
      · cases r₂ with
        | error e => exact hr₂
        | ok fl₂ =>
          cases fl₂ with
          | ret r =>
            obtain ⟨rfl, h', tk, L, rfl, hS', g', hk'⟩ := hr₂
            repeat (any_goals (first | assumption | wp_step))
            exact h _ _ _ hS' g' hk'
          | _ => exact hr₂.elim
    | _ => exact hr.elim
end
end DD
end T_DK6

section T_DK7
set_option Elab.async false
set_option linter.all false
set_option maxRecDepth 100000
set_option maxHeartbeats 1000000
set_option autoImplicit false
namespace DD
open PySem PySem.Spec L2
open PyProof.Rows hiding St

/-! ### keys of data -/
mutual
/-- the key of a datum (a truth value has none here) -/
def nkD : D → Option NestedKey
  | .none => some .none
  | .bool _ => none
  | .int i => some (.num i)
  | .str x => some (.text x)
  | .list _ => none
  | .tuple ds => (nkAll ds).map .tup
  | .dict _ => none
def nkAll : List D → Option (List NestedKey)
  | [] => some []
  | d :: ds => match nkD d, nkAll ds with
    | some k, some ks => some (k :: ks)
    | _, _ => none
end
mutual
theorem nkD_noDct : ∀ (d : D) (k : NestedKey), nkD d = some k → noDct d = true
  | .none, _, _ => rfl
  | .bool _, _, _ => rfl
  | .int _, _, _ => rfl
  | .str _, _, _ => rfl
  | .list _, _, h => by simp [nkD] at h
  | .tuple ds, k, h => by
    simp only [nkD] at h
    cases e : nkAll ds with
    | none => rw [e] at h; cases h
    | some ks => unfold noDct; exact nkAll_noDct ds ks e
  | .dict _, _, h => by simp [nkD] at h
theorem nkAll_noDct : ∀ (ds : List D) (ks : List NestedKey), nkAll ds = some ks → noDcts ds = true
  | [], _, _ => rfl
  | d :: ds, ks, h => by
    simp only [nkAll] at h
    cases e1 : nkD d with
    | none => rw [e1] at h; cases h
    | some k =>
      cases e2 : nkAll ds with
      | none => rw [e1, e2] at h; cases h
      | some ks' =>
        unfold noDcts
        rw [nkD_noDct d k e1, nkAll_noDct ds ks' e2]
        rfl
end
mutual
theorem nkD_data : ∀ (d : D) (k : NestedKey), nkD d = some k → k.data = d
  | .none, k, h => by simp only [nkD, Option.some.injEq] at h; subst h; rfl
  | .bool _, k, h => by simp [nkD] at h
  | .int i, k, h => by simp only [nkD, Option.some.injEq] at h; subst h; rfl
  | .str x, k, h => by simp only [nkD, Option.some.injEq] at h; subst h; rfl
  | .list _, k, h => by simp [nkD] at h
  | .tuple ds, k, h => by
    simp only [nkD] at h
    cases e : nkAll ds with
    | none => rw [e] at h; cases h
    | some ks =>
      rw [e] at h
      simp only [Option.map_some, Option.some.injEq] at h
      subst h
      simp only [NestedKey.data]
      rw [nkAll_data ds ks e]
  | .dict _, k, h => by simp [nkD] at h
theorem nkAll_data : ∀ (ds : List D) (ks : List NestedKey), nkAll ds = some ks → NestedKey.datas ks = ds
  | [], ks, h => by simp only [nkAll, Option.some.injEq] at h; subst h; rfl
  | d :: ds, ks, h => by
    simp only [nkAll] at h
    cases e1 : nkD d with
    | none => rw [e1] at h; cases h
    | some k =>
      cases e2 : nkAll ds with
      | none => rw [e1, e2] at h; cases h
      | some kl =>
        rw [e1, e2] at h
        simp only [Option.some.injEq] at h
        subst h
        simp only [NestedKey.datas]
        rw [nkD_data d k e1, nkAll_data ds kl e2]
end
theorem datas_map : ∀ ks : List NestedKey, NestedKey.datas ks = ks.map NestedKey.data
  | [] => rfl
  | k :: ks => by rw [NestedKey.datas, datas_map ks] <;> rfl
mutual
theorem reads_key {h : Heap} : ∀ (d : D) (k : NestedKey) (v : Value) (as : List Addr), nkD d = some k → Reads h v d as → NestedIs h k v
  | .none, k, v, as, e, r => by simp only [nkD, Option.some.injEq] at e; subst e; cases r; exact .none
  | .bool _, k, v, as, e, r => by simp [nkD] at e
  | .int i, k, v, as, e, r => by simp only [nkD, Option.some.injEq] at e; subst e; cases r; exact .int _ _
  | .str x, k, v, as, e, r => by simp only [nkD, Option.some.injEq] at e; subst e; cases r; exact .text _ _
  | .list _, k, v, as, e, r => by simp [nkD] at e
  | .tuple ds, k, v, as, e, r => by
    simp only [nkD] at e
    cases e1 : nkAll ds with
    | none => rw [e1] at e; cases e
    | some ks =>
      rw [e1] at e
      simp only [Option.map_some, Option.some.injEq] at e
      subst e
      cases r with
      | tuple h1 h2 h3 h4 => exact .tup h1 h2 h3 (reads_keys ds ks _ _ e1 h4)
  | .dict _, k, v, as, e, r => by simp [nkD] at e
theorem reads_keys {h : Heap} : ∀ (ds : List D) (ks : List NestedKey) (vs : List Value) (as : List Addr), nkAll ds = some ks → ReadsAll h vs ds as → NestedAll h ks vs
  | [], ks, vs, as, e, r => by simp only [nkAll, Option.some.injEq] at e; subst e; cases r; exact .nil
  | d :: ds, ks, vs, as, e, r => by
    simp only [nkAll] at e
    cases e1 : nkD d with
    | none => rw [e1] at e; cases e
    | some k =>
      cases e2 : nkAll ds with
      | none => rw [e1, e2] at e; cases e
      | some kl =>
        rw [e1, e2] at e
        simp only [Option.some.injEq] at e
        subst e
        cases r with
        | cons h1 h2 => exact .cons (reads_key d k _ _ e1 h1) (reads_keys ds kl _ _ e2 h2)
end
/-- each once -/
def ddK : List NestedKey → List NestedKey
  | [] => []
  | k :: l => if k ∈ l then ddK l else k :: ddK l
theorem ddK_mem : ∀ (l : List NestedKey) (k : NestedKey), k ∈ ddK l ↔ k ∈ l
  | [], k => Iff.rfl
  | x :: l, k => by
    unfold ddK
    split
    · rename_i h
      rw [ddK_mem l k, List.mem_cons]
      exact ⟨.inr, fun z => z.elim (fun e => e ▸ h) id⟩
    · rw [List.mem_cons, List.mem_cons, ddK_mem l k]
theorem ddK_nodup : ∀ l : List NestedKey, (ddK l).Nodup
  | [] => List.nodup_nil
  | x :: l => by
    unfold ddK
    split
    · exact ddK_nodup l
    · rename_i h
      exact List.nodup_cons.mpr ⟨fun z => h ((ddK_mem l x).mp z), ddK_nodup l⟩
def leafK : NestedKey → Bool
  | .num _ => true
  | .text _ => true
  | _ => false
def tupK : NestedKey → Bool
  | .tup ks => (NestedKey.tup ks).depth ≤ 8
  | _ => false
/-- fit for a set -/
def okSet (ks : List NestedKey) : Bool := (ks.all leafK || ks.all tupK) && decide (ks.length < 64)
/-- the set's members -/
def setD (ds : List D) : T (List NestedKey) := match nkAll ds with
  | some ks => .need (okSet ks) (.ret (ddK ks))
  | none => .fail

/-! ### the things for a set, of a walk's values -/
theorem ents_of {X : Cx} {pins : List (Addr × Obj)} {σ : L2.St} {H : Hp} {s : Shared} (I : Inv X pins σ H s) : ∀ {xs : List V} {us : List Value} {ds : List D} {ks : List NestedKey} (m : Bool), Vals xs us → DpAll X.K H xs ds → nkAll ds = some ks → (∀ k ∈ ks, (if m then tupK k else leafK k) = true) →
    ∀ p ∈ us.zip ks, KdE m s.heap p ∧ ∃ b ∈ xs.zip ds, RelV b.1 p.1 ∧ b.2 = p.2.data
  | [], _, _, _, m, .nil, h, e, hk => fun p hp => nomatch hp
  | x :: xs, u :: us, _, ks, m, .cons r t, h, e, hk => by
    cases h with
    | @cons _ _ d ds h1 h2 =>
      simp only [nkAll] at e
      cases e1 : nkD d with
      | none => rw [e1] at e; cases e
      | some k =>
        cases e2 : nkAll ds with
        | none => rw [e1, e2] at e; cases e
        | some kl =>
          rw [e1, e2] at e
          simp only [Option.some.injEq] at e
          subst e
          intro p hp
          rcases List.mem_cons.mp hp with z | z
          · subst z
            obtain ⟨as, rd⟩ := Dp.reads I d x u h1 r
            have ni := reads_key d k u as e1 rd
            have kk := hk k List.mem_cons_self
            refine ⟨?_, (x, d), List.mem_cons_self, r, (nkD_data d k e1).symm⟩
            cases m with
            | true =>
              cases k with
              | tup ks' =>
                have kk' : decide ((NestedKey.tup ks').depth ≤ 8) = true := kk
                cases ni with
                | tup a1 a2 a3 a4 => exact ⟨_, _, rfl, rfl, .tup a1 a2 a3 a4, of_decide_eq_true kk'⟩
              | _ => cases kk
            | false =>
              have dd := nkD_data d k e1
              cases k with
              | num i =>
                rw [← dd] at h1
                cases h1
                exact ⟨.inl i, rfl, r⟩
              | text y =>
                rw [← dd] at h1
                cases h1
                exact ⟨.inr y, rfl, r⟩
              | _ => cases kk
          · obtain ⟨q1, b, hb, q2, q3⟩ := ents_of I m t h2 e2 (fun k hk' => hk k (List.mem_cons_of_mem _ hk')) p z
            exact ⟨q1, b, List.mem_cons_of_mem _ hb, q2, q3⟩
theorem nk_len : ∀ {ds : List D} {ks : List NestedKey}, nkAll ds = some ks → ks.length = ds.length := fun {ds ks} e => by
  have := congrArg List.length (nkAll_data ds ks e)
  rw [datas_map, List.length_map] at this
  exact this
/-- a sequence's values in the heap -/
theorem seq_at {X : Cx} {pins : List (Addr × Obj)} {σ : L2.St} {H : Hp} {s : Shared} (I : Inv X pins σ H s) {a : Addr} {xs : List V} (hs : SqL X.K H a xs ∨ SqT X.K H a xs) :
    ∃ its : List Value, Vals xs its ∧ xs.length ≤ sizeLine ∧ (s.heap.IsList a its.toArray ∨ s.heap.IsTuple a its.toArray) := by
  rcases hs with hs | hs
  · obtain ⟨its, rv, hl, hz⟩ := I.list hs
    exact ⟨its, rv, hz, .inl hl.isList⟩
  · obtain ⟨its, rv, ⟨o, h1, h2, n, h3⟩, hz⟩ := I.tuple hs
    exact ⟨its, rv, hz, .inr ⟨o, h1, h2, n, h3⟩⟩
/-- set(xs): what is there behind it -/
theorem set_made {X : Cx} (hc : X.calm = true) (hu : X.A.units + 64 < cLine) {pins : List (Addr × Obj)} {σ : L2.St} {H : Hp} {s : Shared} (I : Inv X pins σ H s) {a : Addr} {xs : List V} {ds : List D} {ks : List NestedKey} (hs : SqL X.K H a xs ∨ SqT X.K H a xs) (hd : DpAll X.K H xs ds) (he : nkAll ds = some ks) (hk : okSet ks = true) {Q : Value → Shared → Prop}
    (h : ∀ (h' : Heap) (tk : Nat) (L : List Ent) (es : Array (Int × Value)) (ep : Nat) (t : SetTable), SD X.w h' s.heap.objs.size L es ep t → (L.map (·.2)).Perm (ddK ks) → (∀ p ∈ L, ∃ b ∈ xs.zip ds, RelV b.1 p.1 ∧ b.2 = p.2.data) → (∀ b o, s.heap.get? b = some o → h'.get? b = some o) → Q (.ref s.heap.objs.size) { s with heap := h', toks := tk }) :
    wpAny (model X.prog X.w) X.A (call (.type "set") [.ref a]) Q X.xe s := by
  obtain ⟨its, rv, hz, hq⟩ := seq_at I hs
  unfold okSet at hk
  rw [Bool.and_eq_true, Bool.or_eq_true, decide_eq_true_eq] at hk
  obtain ⟨m, hm⟩ : ∃ m : Bool, ∀ k ∈ ks, (if m then tupK k else leafK k) = true := by
    rcases hk.1 with z | z
    · exact ⟨false, fun k hk => List.all_eq_true.mp z k hk⟩
    · exact ⟨true, fun k hk => List.all_eq_true.mp z k hk⟩
  have ents := ents_of I m rv hd he hm
  have ln : its.length = ks.length := by rw [nk_len he, ← rv.length, dp_len hd]
  have e1 : (its.zip ks).map (·.1) = its := List.map_fst_zip (Nat.le_of_eq ln)
  have e2 : (its.zip ks).map (·.2) = ks := List.map_snd_zip (Nat.le_of_eq ln.symm)
  have lz : (its.zip ks).length = ks.length := by rw [List.length_zip, ln, Nat.min_self]
  have fin : ∀ (h' : Heap) (tk : Nat) L, SS m X.w h' s.heap.objs.size L → Gat (its.zip ks) (its.zip ks).length L → (∀ b o, s.heap.get? b = some o → h'.get? b = some o) → Q (.ref s.heap.objs.size) { s with heap := h', toks := tk } := fun h' tk L S g kp => by
    obtain ⟨es, ep, t, R, _⟩ := S.ex
    refine h h' tk L es ep t R ?_ (fun p hp => (ents p (List.mem_of_mem_take (g.sub p hp))).2) kp
    refine (List.perm_ext_iff_of_nodup R.nd (ddK_nodup ks)).mpr fun k => ?_
    rw [ddK_mem]
    constructor
    · intro hk'
      obtain ⟨p, hp, rfl⟩ := List.mem_map.mp hk'
      rw [← e2]
      exact List.mem_map.mpr ⟨p, List.mem_of_mem_take (g.sub p hp), rfl⟩
    · intro hk'
      rw [← e2] at hk'
      obtain ⟨p, hp, rfl⟩ := List.mem_map.mp hk'
      exact g.all p (by rw [List.take_length]; exact hp)
  rcases hq with hq | hq
  · exact call_set_list (its.zip ks) (I.ok.hd hc) hq (by simpa using e1.symm) (fun p hp => (ents p hp).1) (by rw [lz]; exact hk.2) (by omega) fin
  · exact call_set_tuple (its.zip ks) (I.ok.hd hc) hq (by simpa using e1.symm) (fun p hp => (ents p hp).1) (by rw [lz]; exact hk.2) (by omega) fin
end DD
end T_DK7

section T_DK8
set_option Elab.async false
set_option linter.all false
set_option maxRecDepth 100000
set_option maxHeartbeats 1000000
set_option autoImplicit false
namespace DD
open PySem PySem.Spec L2
open PyProof.Rows hiding St

/-! ### sorting forgets the order -/
mutual
theorem alike_eq : ∀ (d e : D), PySem.W.alike d e = true → PyData.eqv d e = true → d = e
  | .none, e, h, q => by cases e <;> first | rfl | simp [PySem.W.alike] at h
  | .bool a, e, h, q => by
    cases e <;> first
      | (simp [PySem.W.alike] at h; done)
      | (simp only [PyData.eqv, beq_iff_eq] at q; rw [q])
  | .int a, e, h, q => by
    cases e <;> first
      | (simp [PySem.W.alike] at h; done)
      | (simp only [PyData.eqv, beq_iff_eq] at q; rw [q])
  | .str a, e, h, q => by
    cases e <;> first
      | (simp [PySem.W.alike] at h; done)
      | (simp only [PyData.eqv, beq_iff_eq] at q; rw [q])
  | .list xs, e, h, q => by
    cases e <;> first
      | (simp [PySem.W.alike] at h; done)
      | (simp only [PyData.eqv] at q; simp only [PySem.W.alike] at h; rw [alikes_eq xs _ h q])
  | .tuple xs, e, h, q => by
    cases e <;> first
      | (simp [PySem.W.alike] at h; done)
      | (simp only [PyData.eqv] at q; simp only [PySem.W.alike] at h; rw [alikes_eq xs _ h q])
  | .dict _, e, h, q => by cases e <;> simp [PySem.W.alike] at h
theorem alikes_eq : ∀ (ds es : List D), PySem.W.alikeAll ds es = true → PyData.eqvAll ds es = true → ds = es
  | [], es, h, q => by
    cases es with
    | nil => rfl
    | cons e es => simp [PyData.eqvAll] at q
  | d :: ds, es, h, q => by
    cases es with
    | nil => simp [PyData.eqvAll] at q
    | cons e es =>
      obtain ⟨h1, h2⟩ := PySem.W.alike_all_cons h
      rw [PySem.W.eqv_all_cons, Bool.and_eq_true] at q
      rw [alike_eq d e h1 q.1, alikes_eq ds es h2 q.2]
end
theorem leS_anti {d e : D} (h : PySem.W.alike d e = true) (h1 : leS d e = true) (h2 : leS e d = true) : d = e := by
  have t : PySem.W.keyToks d = PySem.W.keyToks e := (PyProof.Rows.listOrd PyProof.Rows.itemOrd).total _ _ (show PySem.W.dataLt d e = false by unfold leS at h2; simpa using h2) (show PySem.W.dataLt e d = false by unfold leS at h1; simpa using h1)
  refine alike_eq d e h ?_
  cases q : PyData.eqv d e with
  | true => rfl
  | false =>
    have z := (PySem.W.toks_eqv d e h).2 q [] [.inl 0]
    rw [t, PySem.W.lex_pre] at z
    have z2 := (PySem.W.toks_eqv d e h).2 q [] []
    rw [t, PySem.W.lex_pre] at z2
    rw [← z2] at z
    exact absurd z (by decide)
theorem srt_pw (l : List D) : (srtD l).Pairwise fun a b => leS a b = true := by
  rw [← srt_merge]
  exact PySem.W.sort_pairwise leS_total l
theorem sorted_one : ∀ {l m : List D}, l.Perm m → (∀ x ∈ l, ∀ y ∈ l, leS x y = true → leS y x = true → x = y) → l.Pairwise (fun a b => leS a b = true) → m.Pairwise (fun a b => leS a b = true) → l = m
  | [], m, p, _, _, _ => (List.Perm.eq_nil p.symm).symm
  | x :: l, [], p, _, _, _ => absurd p.length_eq (by simp)
  | x :: l, y :: m, p, an, hl, hm => by
    have hx : x ∈ y :: m := p.mem_iff.mp List.mem_cons_self
    have hy : y ∈ x :: l := p.mem_iff.mpr List.mem_cons_self
    have a : leS x y = true := by
      rcases List.mem_cons.mp hy with e | e
      · rw [e]; exact leS_total.refl x
      · exact (List.pairwise_cons.mp hl).1 y e
    have b : leS y x = true := by
      rcases List.mem_cons.mp hx with e | e
      · rw [e]; exact leS_total.refl y
      · exact (List.pairwise_cons.mp hm).1 x e
    have e := an x List.mem_cons_self y hy a b
    subst e
    rw [sorted_one p.cons_inv (fun u hu v hv => an u (List.mem_cons_of_mem _ hu) v (List.mem_cons_of_mem _ hv)) (List.pairwise_cons.mp hl).2 (List.pairwise_cons.mp hm).2]
theorem srt_any {l m : List D} (p : l.Perm m) (h : alikeL l = true) : srtD l = srtD m := by
  refine sorted_one (((srt_perm l).trans p).trans (srt_perm m).symm) (fun x hx y hy => ?_) (srt_pw l) (srt_pw m)
  exact leS_anti (alikeL_all h x ((srt_perm l).mem_iff.mp hx) y ((srt_perm l).mem_iff.mp hy))
theorem all_perm {l m : List D} (p : l.Perm m) (f : D → Bool) : l.all f = m.all f := by
  rw [Bool.eq_iff_iff, List.all_eq_true, List.all_eq_true]
  exact ⟨fun h x hx => h x (p.mem_iff.mpr hx), fun h x hx => h x (p.mem_iff.mp hx)⟩
theorem okSort_perm {l m : List D} (p : l.Perm m) : okSort l = okSort m := by
  unfold okSort alikeL
  rw [all_perm p headed, all_perm p bare, all_perm p fun d => decide (d.depth ≤ 32), all_perm p fun d => l.all fun e => PySem.W.alike d e]
  have e : (fun d => l.all fun e => PySem.W.alike d e) = fun d => m.all fun e => PySem.W.alike d e := funext fun d => all_perm p _
  rw [e]
theorem okSort_alike {l : List D} (h : okSort l = true) : alikeL l = true := by
  unfold okSort at h
  rw [Bool.and_eq_true, Bool.and_eq_true] at h
  exact h.1.1

/-! ### len(set(e)), sorted(set(e)) -/
def tLenSetD (K : PySem.W.Frag) (ta : TE) : TE := fun σ H Q => ta σ H fun x H1 => ∃ a xs ds ks, x = .ref a ∧ (SqL K H1 a xs ∨ SqT K H1 a xs) ∧ DpAll K H1 xs ds ∧ nkAll ds = some ks ∧ okSet ks = true ∧ Q (.int (ddK ks).length) H1
def tSrtSetD (K : PySem.W.Frag) (ta : TE) : TE := fun σ H Q => ta σ H fun x H1 => ∃ a xs ds ks, x = .ref a ∧ (SqL K H1 a xs ∨ SqT K H1 a xs) ∧ DpAll K H1 xs ds ∧ nkAll ds = some ks ∧ okSet ks = true ∧ okSort ((ddK ks).map NestedKey.data) = true ∧
  ∀ (bs : List Trip) p, (∀ b ∈ bs, b ∈ xs.zip ds) → bs.map (·.2) = srtD ((ddK ks).map NestedKey.data) → H1 p = none → Q (.ref p) (upd H1 p (.lst (bs.map (·.1))))
theorem ddK_few {ks : List NestedKey} (h : okSet ks = true) : (ddK ks).length < 64 := by
  unfold okSet at h
  rw [Bool.and_eq_true, decide_eq_true_eq] at h
  exact Nat.lt_of_le_of_lt (List.Nodup.length_le_of_subset (ddK_nodup ks) fun k hk => (ddK_mem ks k).mp hk) h.2
section
variable {X : Cx} {a : Expr} {ta : TE} {p p2 q pos : Pos}
theorem pe_lenSetD (hc : X.calm = true) (hu : X.A.units + 64 < cLine) (hg : Gl X "len") (hm : X.mg "len" = none) (hg2 : Gl X "set") (hm2 : X.mg "set" = none) (ha : PE X a ta) (na : starEach [a] X.env = (false, eval a X.env) :: starEach [] X.env := by rfl) :
    PE X (.Call (.Name "len" p) [.Call (.Name "set" p2) [a] [] q] [] pos) (tLenSetD X.K ta) := by
  refine ⟨fun pins s σ H Q I h => ?_⟩
  refine Call_ (ld_blt I hg hm PySem.boot_len ?_)
  refine PyProof.Rows.callWith_builtin1 (PyProof.Rows.args_cons ?_ rfl) rfl rfl
  refine Call_ (ld_blt I hg2 hm2 PyProof.Rows.boot_set ?_)
  refine PyProof.Rows.callWith_type1 (PyProof.Rows.args_cons (thn (ha.run pins s σ H _ I h) fun v s1 ⟨x, H1, I1, r1, q1⟩ => PyProof.Rows.args_nil ?_) na) na rfl
  obtain ⟨l, xs, ds, ks, rfl, hs, hd, he, hk, q1⟩ := q1
  cases r1
  refine set_made hc hu I1 hs hd he hk fun h' tk L es ep t R pm _ kp => ?_
  refine PyProof.Rows.args_nil ?_
  obtain ⟨o, ho, hex, hdt⟩ := R.ob
  have e : es.size = (ddK ks).length := by rw [hrows_size R.rows, ← pm.length_eq, List.length_map]
  have few := ddK_few hk
  have I2 : Inv X pins σ H1 { s1 with heap := h', toks := tk } := I1.kept kp
  refine call_len_set ho hex hdt R.fits (by omega) ⟨.int (ddK ks).length, H1, I2.tok _, ⟨_, by rw [e]⟩, q1⟩
theorem trips_pick {bs : List Trip} {L : List Ent} (h : ∀ p ∈ L, ∃ b ∈ bs, RelV b.1 p.1 ∧ b.2 = p.2.data) : ∃ cs : List Trip, PySem.W.EachIs TripR (L.map (·.1)) cs ∧ (∀ c ∈ cs, c ∈ bs) ∧ cs.map (·.2) = (L.map (·.2)).map NestedKey.data := by
  induction L with
  | nil => exact ⟨[], .nil, fun c hc => (nomatch hc), rfl⟩
  | cons p L ih =>
    obtain ⟨b, hb, r, e⟩ := h p List.mem_cons_self
    obtain ⟨cs, h1, h2, h3⟩ := ih fun q hq => h q (List.mem_cons_of_mem _ hq)
    refine ⟨b :: cs, .cons r h1, fun c hc => ?_, by rw [List.map_cons, h3, e] <;> rfl⟩
    rcases List.mem_cons.mp hc with z | z
    · rw [z]; exact hb
    · exact h2 c z
theorem each_perm {us vs : List Value} (p : vs.Perm us) : ∀ {bs : List Trip}, PySem.W.EachIs TripR us bs → ∃ cs, cs.Perm bs ∧ PySem.W.EachIs TripR vs cs := by
  induction p with
  | nil => intro bs h; cases h; exact ⟨[], .nil, .nil⟩
  | cons x _ ih =>
    intro bs h
    cases h with
    | cons h1 t =>
      obtain ⟨cs, p, q⟩ := ih t
      exact ⟨_ :: cs, p.cons _, .cons h1 q⟩
  | swap x y _ =>
    intro bs h
    cases h with
    | cons h1 t =>
      cases t with
      | cons h2 t => exact ⟨_, .swap _ _ _, .cons h2 (.cons h1 t)⟩
  | trans _ _ ih1 ih2 =>
    intro bs h
    obtain ⟨c1, p1, q1⟩ := ih2 h
    obtain ⟨c2, p2, q2⟩ := ih1 q1
    exact ⟨c2, p2.trans p1, q2⟩
theorem pe_srtSetD (hc : X.calm = true) (hu : X.A.units + 64 < cLine) (hg : Gl X "sorted") (hm : X.mg "sorted" = none) (hg2 : Gl X "set") (hm2 : X.mg "set" = none) (ha : PE X a ta) (na : starEach [a] X.env = (false, eval a X.env) :: starEach [] X.env := by rfl) :
    PE X (.Call (.Name "sorted" p) [.Call (.Name "set" p2) [a] [] q] [] pos) (tSrtSetD X.K ta) := by
  refine ⟨fun pins s σ H Q I h => ?_⟩
  refine Call_ (ld_blt I hg hm PyProof.Rows.boot_sorted ?_)
  refine PyProof.Rows.callWith_builtin1 (PyProof.Rows.args_cons ?_ rfl) rfl rfl
  refine Call_ (ld_blt I hg2 hm2 PyProof.Rows.boot_set ?_)
  refine PyProof.Rows.callWith_type1 (PyProof.Rows.args_cons (thn (ha.run pins s σ H _ I h) fun v s1 ⟨x, H1, I1, r1, q1⟩ => PyProof.Rows.args_nil ?_) na) na rfl
  obtain ⟨l, xs, ds, ks, rfl, hs, hd, he, hk, hso, q1⟩ := q1
  cases r1
  refine set_made hc hu I1 hs hd he hk fun h' tk L es ep t R pm hL kp => ?_
  refine PyProof.Rows.args_nil ?_
  obtain ⟨o, ho, hex, hdt⟩ := R.ob
  obtain ⟨cs, c1, c2, c3⟩ := trips_pick hL
  have few := R.few
  have I2 : Inv X pins σ H1 { s1 with heap := h', toks := tk } := I1.kept kp
  have pd : (cs.map (·.2)).Perm ((ddK ks).map NestedKey.data) := by rw [c3]; exact pm.map _
  have okc : okSort (cs.map (·.2)) = true := by rw [okSort_perm pd]; exact hso
  have hes : es.toList.map (·.2) = L.map (·.1) := by
    rw [R.rows]
    unfold hrows
    rw [List.map_map] <;> rfl
  have lc : cs.length = L.length := by
    have := congrArg List.length c3
    simpa using this
  have reads : ∀ {s2 : Shared}, (∀ b u, s1.heap.get? b = some u → s2.heap.get? b = some u) → ∀ {vs : List Value} {bs : List Trip}, PySem.W.EachIs TripR vs bs → (∀ b ∈ bs, b ∈ cs) → PySem.W.EachIs (fun v (b : Trip) => ∃ as, Reads s2.heap v b.2 as) vs bs := fun {s2} kp2 {vs bs} e => by
    induction e with
    | nil => intro _; exact .nil
    | @cons v b vs bs h1 t ih =>
      intro hb
      have hz : ∀ {xs : List V} {ds : List D}, DpAll X.K H1 xs ds → ∀ b ∈ xs.zip ds, Dp X.K H1 b.1 b.2 := by
        intro xs
        induction xs with
        | nil => intro ds _ b hb; cases hb
        | cons x xs ih =>
          intro ds hd b hb
          cases hd with
          | cons g1 g2 =>
            rcases List.mem_cons.mp hb with e | e
            · rw [e]; exact g1
            · exact ih g2 b e
      obtain ⟨as, r⟩ := Dp.reads I1 b.2 b.1 v (hz hd b (c2 b (hb b List.mem_cons_self))) h1
      exact .cons ⟨as, PyProof.Rows.Reads.keeps kp2 r⟩ (ih fun c hc => hb c (List.mem_cons_of_mem _ hc))
  refine sorted_of (K := fun vs s2 => (∀ b u, h'.get? b = some u → s2.heap.get? b = some u) ∧ h'.objs.size ≤ s2.heap.objs.size ∧ s2.gens = s1.gens ∧ s2.os = s1.os ∧ vs.Perm (L.map (·.1))) (fun F hF => ?_) (fun vs s2 ⟨k1, k2, k3, k4, k5⟩ => ?_) hu
  · refine collect_set (by rw [show X.A.in1.handled = X.A.handled from rfl]; exact I2.ok.hd hc) ⟨o, ho, hex.1, hdt⟩ R.fits (by rw [hrows_size R.rows]; unfold scanBound; omega) R.ris R.led fun s2 vs k1 k2 k3 k4 k5 => hF vs s2 ⟨k1, k2, k3, k4, ?_⟩
    rw [hes] at k5
    exact k5
  · obtain ⟨bs, b1, b2⟩ := each_perm k5 c1
    have bo : (bs.map (·.2)).Perm ((ddK ks).map NestedKey.data) := (b1.map (·.2)).trans pd
    have okb : okSort (bs.map (·.2)) = true := by rw [okSort_perm bo]; exact hso
    have kall : ∀ b u, s1.heap.get? b = some u → s2.heap.get? b = some u := fun b u e => k1 b u (kp b u e)
    refine ⟨bs, b2, reads kall b2 fun b hb => b1.mem_iff.mp hb, okb, by rw [b1.length_eq, lc, sizeLine_eq]; omega, fun out bs' h2 c e1 e2 e3 e4 e5 => ?_⟩
    have hp : s1.heap.objs.size ≤ s2.heap.objs.size := Nat.le_trans (by
      have := R.ob
      exact Nat.le_of_lt (Heap.lt_size ho)) k2
    have hn : H1 s2.heap.objs.size = none := I1.hok.fresh hp
    have J : Inv X pins σ (upd H1 s2.heap.objs.size (.lst (bs'.map (·.1)))) { s2 with heap := h2 } := by
      refine I1.call' (ch := []) k4 (Un.laid (fun b u e => e4 b u (kall b u e)) hp hn) (I1.hok.laid (fun b u e => e4 b u (kall b u e)) hp ⟨?_, out, c, trips_vals e1, e5⟩) (by rw [show ({ s2 with heap := h2 } : Shared).gens = s2.gens from rfl, k3]; exact I1.bare) (fun _ z => nomatch z)
      rw [List.length_map, e2.length_eq, b1.length_eq, lc, sizeLine_eq]
      omega
    refine ⟨.ref s2.heap.objs.size, _, J, rfl, q1 bs' _ (fun b hb => c2 b (b1.mem_iff.mp (e2.mem_iff.mp hb))) ?_ hn⟩
    rw [e3]
    exact srt_any bo (okSort_alike okb)
end
end DD
end T_DK8

section T_DK9
set_option Elab.async false
set_option linter.all false
set_option maxRecDepth 100000
set_option maxHeartbeats 1000000
set_option autoImplicit false
namespace DD
open PySem PySem.Spec L2
open PyProof.Rows hiding St

/-! ### dict(pairs): how many keys -/
def pairsD : List D → Option (List (D × D))
  | [] => some []
  | .tuple [k, v] :: ds => (pairsD ds).map ((k, v) :: ·)
  | _ :: _ => none
theorem pairsD_data : ∀ {ds : List D} {ps : List (D × D)}, pairsD ds = some ps → ds = ps.map fun p => .tuple [p.1, p.2]
  | [], ps, h => by simp only [pairsD, Option.some.injEq] at h; subst h; rfl
  | d :: ds, ps, h => by
    unfold pairsD at h
    split at h
    · cases ‹_ :: _ = []›
    · rename_i k v ds' e
      obtain ⟨e1, e2⟩ := List.cons.inj e
      subst e1
      subst e2
      cases q : pairsD ds with
      | none => rw [q] at h; cases h
      | some ps' =>
        rw [q] at h
        simp only [Option.map_some, Option.some.injEq] at h
        subst h
        rw [List.map_cons, ← pairsD_data q]
    · cases h
section
variable {K : Type} [DecidableEq K]
theorem stored_keys (kvs : List (K × Value)) (k : K) (v : Value) (j : K) : j ∈ (stored kvs k v).map (·.1) ↔ j ∈ kvs.map (·.1) ∨ j = k := by
  unfold stored
  split
  · rename_i h
    have e : (kvs.map fun kv => if kv.1 = k then (kv.1, v) else kv).map (·.1) = kvs.map (·.1) := by
      rw [List.map_map]
      refine List.map_congr_left fun x _ => ?_
      show (if x.1 = k then (x.1, v) else x).1 = x.1
      split <;> rfl
    rw [e]
    obtain ⟨x, hx, hk⟩ := List.any_eq_true.mp h
    have hk' : x.1 = k := of_decide_eq_true hk
    exact ⟨.inl, fun z => z.elim id fun e => by rw [e, ← hk']; exact List.mem_map.mpr ⟨x, hx, rfl⟩⟩
  · rw [List.map_append, List.mem_append]
    simp
theorem merged_keys : ∀ (more kvs : List (K × Value)) (j : K), j ∈ (merged kvs more).map (·.1) ↔ j ∈ kvs.map (·.1) ∨ j ∈ more.map (·.1)
  | [], kvs, j => by simp [merged]
  | x :: more, kvs, j => by
    show j ∈ (merged (stored kvs x.1 x.2) more).map (·.1) ↔ _
    rw [merged_keys more, stored_keys, List.map_cons, List.mem_cons]
    exact ⟨fun z => z.elim (fun z => z.elim .inl fun e => .inr (.inl e)) fun z => .inr (.inr z), fun z => z.elim (fun z => .inl (.inl z)) fun z => z.elim (fun e => .inl (.inr e)) .inr⟩
theorem storedH_keys (xs : List (K × Addr × Value)) (k : K) (a : Addr) (v : Value) (j : K) : j ∈ (storedH xs k a v).map (·.1) ↔ j ∈ xs.map (·.1) ∨ j = k := by
  cases h : atKey xs k with
  | some p =>
    rw [storedH_old h, keys_map_putAt]
    refine ⟨.inl, fun z => z.elim id fun e => ?_⟩
    unfold atKey at h
    obtain ⟨x, hx, _⟩ := Option.map_eq_some_iff.mp h
    have h1 := List.find?_some hx
    have h2 := List.mem_of_find?_eq_some hx
    rw [e]
    exact List.mem_map.mpr ⟨x, h2, of_decide_eq_true h1⟩
  | none =>
    rw [storedH_new h, List.map_append, List.mem_append]
    simp
theorem storedAllH_keys : ∀ (ps xs : List (K × Addr × Value)) (j : K), j ∈ (storedAllH xs ps).map (·.1) ↔ j ∈ xs.map (·.1) ∨ j ∈ ps.map (·.1)
  | [], xs, j => by simp [storedAllH]
  | x :: ps, xs, j => by
    show j ∈ (storedAllH (storedH xs x.1 x.2.1 x.2.2) ps).map (·.1) ↔ _
    rw [storedAllH_keys ps, storedH_keys, List.map_cons, List.mem_cons]
    exact ⟨fun z => z.elim (fun z => z.elim .inl fun e => .inr (.inl e)) fun z => .inr (.inr z), fun z => z.elim (fun z => .inl (.inl z)) fun z => z.elim (fun e => .inl (.inr e)) .inr⟩
end
/-- the keys of a dict of pairs -/
def dictKeysD (ds : List D) : T (List NestedKey) := match pairsD ds with
  | some ps => setD (ps.map (·.1))
  | none => .fail
/-- what a list of pairs is, in the heap -/
structure PairsAt (H : Hp) (s : Shared) (K : PySem.W.Frag) (ps : List (D × D)) (its : List Value) where
  Ts : Nat → Addr
  kv : List (Value × Value)
  len : kv.length = ps.length
  items : PairItems s.heap its.toArray Ts kv
  key : ∀ (i : Nat) (k v : Value), kv[i]? = some (k, v) → ∃ p : D × D, ps[i]? = some p ∧ ∃ x, Dp K H x p.1 ∧ RelV x k
theorem pairs_at {X : Cx} {pins : List (Addr × Obj)} {σ : L2.St} {H : Hp} {s : Shared} (I : Inv X pins σ H s) : ∀ {ps : List (D × D)} {xs : List V} {its : List Value}, Vals xs its → DpAll X.K H xs (ps.map fun p => .tuple [p.1, p.2]) → Nonempty (PairsAt H s X.K ps its)
  | [], _, _, r, h => by
    cases h
    cases r
    exact ⟨⟨fun _ => 0, [], rfl, ⟨rfl, fun j k v e => by simp at e⟩, fun i k v e => by simp at e⟩⟩
  | p :: ps, _, _, r, h => by
    rw [List.map_cons] at h
    cases h with
    | @cons v vs d ds h1 h2 =>
      cases r with
      | @cons _ u _ us r1 r2 =>
        obtain ⟨T⟩ := pairs_at I r2 h2
        cases h1 with
        | @tup a ys _ e1 e2 =>
          obtain ⟨its, rv, ht, _⟩ := I.tuple e1
          cases e2 with
          | @cons y1 _ _ _ g1 g2 =>
            cases g2 with
            | @cons y2 _ _ _ g2 g3 =>
              cases g3
              obtain ⟨u1, u2, rfl, ru1, ru2⟩ := vals2 rv
              have eu : u = .ref a := r1
              subst eu
              refine ⟨⟨fun i => match i with | 0 => a | i + 1 => T.Ts i, (u1, u2) :: T.kv, by rw [List.length_cons, List.length_cons, T.len], ⟨?_, fun j k v e => ?_⟩, fun i k v e => ?_⟩⟩
              · have := T.items.1
                simp only [List.size_toArray, List.length_cons] at this ⊢
                omega
              · cases j with
                | zero =>
                  simp only [List.getElem?_cons_zero, Option.some.injEq, Prod.mk.injEq] at e
                  obtain ⟨rfl, rfl⟩ := e
                  exact ⟨rfl, .inl ht⟩
                | succ j =>
                  simp only [List.getElem?_cons_succ] at e
                  obtain ⟨q1, q2⟩ := T.items.2 j k v e
                  refine ⟨?_, q2⟩
                  simpa using q1
              · cases i with
                | zero =>
                  simp only [List.getElem?_cons_zero, Option.some.injEq, Prod.mk.injEq] at e
                  obtain ⟨rfl, rfl⟩ := e
                  exact ⟨p, rfl, y1, g1, ru1⟩
                | succ i =>
                  simp only [List.getElem?_cons_succ] at e
                  exact T.key i k v e
theorem nkAll_get : ∀ {ds : List D} {ks : List NestedKey} {i : Nat} {d : D}, nkAll ds = some ks → ds[i]? = some d → ∃ k, ks[i]? = some k ∧ nkD d = some k
  | [], _, i, d, _, e => by simp at e
  | x :: ds, ks, i, d, h, e => by
    simp only [nkAll] at h
    cases e1 : nkD x with
    | none => rw [e1] at h; cases h
    | some k =>
      cases e2 : nkAll ds with
      | none => rw [e1, e2] at h; cases h
      | some kl =>
        rw [e1, e2] at h
        simp only [Option.some.injEq] at h
        subst h
        cases i with
        | zero =>
          simp only [List.getElem?_cons_zero, Option.some.injEq] at e
          subst e
          exact ⟨k, rfl, e1⟩
        | succ i =>
          simp only [List.getElem?_cons_succ] at e
          obtain ⟨k', g1, g2⟩ := nkAll_get e2 e
          exact ⟨k', by simpa using g1, g2⟩
def keyN : NestedKey → Key
  | .num i => .inl i
  | .text x => .inr x
  | _ => .inl 0
theorem nkK_keyN {k : NestedKey} (h : leafK k = true) : nkK (keyN k) = k := by
  cases k <;> first | rfl | cases h
theorem ddK_count {ks : List NestedKey} {K : Type} [DecidableEq K] {l : List K} {f : K → NestedKey} (hn : l.Nodup) (hf : ∀ x ∈ l, ∀ y ∈ l, f x = f y → x = y) (hm : ∀ k, k ∈ l.map f ↔ k ∈ ks) : l.length = (ddK ks).length := by
  have nd : (l.map f).Nodup := List.pairwise_map.mpr (List.Pairwise.imp_of_mem (fun {a b} ha hb hne e => hne (hf a ha b hb e)) hn)
  have p : (l.map f).Perm (ddK ks) := (List.perm_ext_iff_of_nodup nd (ddK_nodup ks)).mpr fun k => by rw [hm, ddK_mem]
  have := p.length_eq
  rw [List.length_map] at this
  exact this
/-- len(dict(e)) -/
def tLenDictD (K : PySem.W.Frag) (ta : TE) : TE := fun σ H Q => ta σ H fun x H1 => ∃ (a : Addr) (xs : List V) (ps : List (D × D)) (ks : List NestedKey), x = .ref a ∧ SqL K H1 a xs ∧ DpAll K H1 xs (ps.map fun p => .tuple [p.1, p.2]) ∧ nkAll (ps.map (·.1)) = some ks ∧ okSet ks = true ∧ Q (.int (ddK ks).length) H1
section
variable {X : Cx} {a : Expr} {ta : TE} {p p2 q pos : Pos}
theorem pe_lenDictD (hc : X.calm = true) (hu : X.A.units + 64 < cLine) (hg : Gl X "len") (hm : X.mg "len" = none) (hg2 : Gl X "dict") (hm2 : X.mg "dict" = none) (ha : PE X a ta) (na : starEach [a] X.env = (false, eval a X.env) :: starEach [] X.env := by rfl) :
    PE X (.Call (.Name "len" p) [.Call (.Name "dict" p2) [a] [] q] [] pos) (tLenDictD X.K ta) := by
  refine ⟨fun pins s σ H Q I h => ?_⟩
  refine Call_ (ld_blt I hg hm PySem.boot_len ?_)
  refine PyProof.Rows.callWith_builtin1 (PyProof.Rows.args_cons ?_ rfl) rfl rfl
  refine Call_ (ld_blt I hg2 hm2 PyProof.Rows.boot_dict ?_)
  refine PyProof.Rows.callWith_type1 (PyProof.Rows.args_cons (thn (ha.run pins s σ H _ I h) fun v s1 ⟨x, H1, I1, r1, q1⟩ => PyProof.Rows.args_nil ?_) na) na rfl
  obtain ⟨l, xs, ps, ks, rfl, hs, hd, he, hk, q1⟩ := q1
  cases r1
  obtain ⟨its, rv, ⟨o, n, ho, hcl, hdc, hdt⟩, hz⟩ := I1.list hs
  obtain ⟨T⟩ := pairs_at I1 rv hd
  have hk0 := hk
  unfold okSet at hk
  rw [Bool.and_eq_true, Bool.or_eq_true, decide_eq_true_eq] at hk
  have lk : ks.length = ps.length := by rw [nk_len he, List.length_map]
  have few := hk.2
  have fdd := ddK_few hk0
  have hn : (s1.heap.objs.size == sysModules) = false := beq_eq_false_iff_ne.mpr (Nat.ne_of_gt I1.big)
  have hh : X.A.handled = none := I1.ok.hd hc
  have OKl : PlainSeq "list" s1.heap l its.toArray ∧ PairItems s1.heap its.toArray T.Ts T.kv := ⟨⟨o, n, ho, hcl, hdc, hdt⟩, T.items⟩
  -- the key of the i-th pair
  have key : ∀ i k v, T.kv[i]? = some (k, v) → ∃ kn x d, ks[i]? = some kn ∧ nkD d = some kn ∧ Dp X.K H1 x d ∧ RelV x k := fun i k v e => by
    obtain ⟨p, hp, x, hx, r⟩ := T.key i k v e
    obtain ⟨kn, h1, h2⟩ := nkAll_get he (i := i) (d := p.1) (by rw [List.getElem?_map, hp] <;> rfl)
    exact ⟨kn, x, p.1, h1, h2, hx, r⟩
  rcases hk.1 with z | z
  · -- ints and texts
    have hkl : ∀ k ∈ ks, leafK k = true := fun k hk => List.all_eq_true.mp z k hk
    refine call_dict_pairs (knd := mixKind X.prog X.w) (kvs := (List.range T.kv.length).map fun i => (keyN (ks.getD i .none), (T.kv.getD i (.none, .none)).2)) (PairArg.list l its.toArray T.Ts T.kv) hh OKl ⟨by simp, fun i k v e => ?_⟩ (by rw [T.len, ← lk, sizeLine_eq]; omega) fun h' tk dd kp => ?_
    · have e' : T.kv[i]? = some (k, v) := e
      have hi : i < T.kv.length := (List.getElem?_eq_some_iff.mp e').1
      obtain ⟨kn, x, d, h1, h2, h3, h4⟩ := key i k v e'
      have hl := hkl kn (List.mem_of_getElem? h1)
      have eg : ks.getD i .none = kn := by rw [List.getD_eq_getElem?_getD, h1] <;> rfl
      have ev : (T.kv.getD i (.none, .none)).2 = v := by rw [List.getD_eq_getElem?_getD, e'] <;> rfl
      refine ⟨keyN kn, ?_, ?_⟩
      · rw [List.getElem?_map, List.getElem?_range hi]
        show some (keyN (ks.getD i .none), (T.kv.getD i (Value.none, Value.none)).2) = _
        rw [eg, ev]
      · have dk := nkD_data d kn h2
        rw [← dk] at h3
        cases kn with
        | num j => cases h3; exact kV_is (k := .inl j) h4
        | text y => cases h3; exact kV_is (k := .inr y) h4
        | _ => cases hl
    · refine PyProof.Rows.args_nil ?_
      have nd := (Heap.dictOf_iff.mp dd)
      have I2 : Inv X pins σ H1 { s1 with heap := h', toks := tk } := I1.kept fun b o e => kp b o (fun z => nomatch z) e
      have cnt : (merged [] ((List.range T.kv.length).map fun i => (keyN (ks.getD i .none), (T.kv.getD i (.none, .none)).2))).length = (ddK ks).length := by
        obtain ⟨o', es, ep, _, _, _, _, _, nd⟩ := dd
        have c := ddK_count (ks := ks) (f := nkK) nd (fun x _ y _ e => nk_inj e) fun k => ?_
        · rw [List.length_map] at c
          exact c
        · rw [List.mem_map]
          constructor
          · rintro ⟨j, hj, rfl⟩
            rw [merged_keys] at hj
            rcases hj with hj | hj
            · cases hj
            · rw [List.map_map] at hj
              obtain ⟨i, hi, e⟩ := List.mem_map.mp hj
              have hi' : i < ks.length := by rw [lk, ← T.len]; exact List.mem_range.mp hi
              have e' : keyN (ks.getD i .none) = j := e
              have eg : ks.getD i .none = ks[i] := by rw [List.getD_eq_getElem?_getD, List.getElem?_eq_getElem hi'] <;> rfl
              rw [← e', eg, nkK_keyN (hkl _ (List.getElem_mem hi'))]
              exact List.getElem_mem hi'
          · intro hk'
            obtain ⟨i, hi, e⟩ := List.getElem_of_mem hk'
            refine ⟨keyN k, ?_, nkK_keyN (hkl k hk')⟩
            rw [merged_keys, List.map_map]
            refine .inr (List.mem_map.mpr ⟨i, List.mem_range.mpr (by rw [T.len, ← lk]; exact hi), ?_⟩)
            show keyN (ks.getD i .none) = keyN k
            rw [List.getD_eq_getElem?_getD, List.getElem?_eq_getElem hi, ← e] <;> rfl
      refine call_len_dict hn dd (by rw [cnt]; omega) ⟨.int (ddK ks).length, H1, I2.tok _, ⟨_, by rw [cnt]⟩, q1⟩
  · -- tuples
    have hkt : ∀ k ∈ ks, tupK k = true := fun k hk => List.all_eq_true.mp z k hk
    have adr : ∀ i k v, T.kv[i]? = some (k, v) → ∃ kn b, ks[i]? = some kn ∧ k = Value.ref b ∧ (nestedKind X.prog X.w).is s1.heap kn b := fun i k v e => by
      obtain ⟨kn, x, d, h1, h2, h3, h4⟩ := key i k v e
      obtain ⟨as, rd⟩ := Dp.reads I1 d x k h3 h4
      have ni := reads_key d kn k as h2 rd
      have ht := hkt kn (List.mem_of_getElem? h1)
      cases kn with
      | tup kk =>
        have ht' : decide ((NestedKey.tup kk).depth ≤ 8) = true := ht
        cases ni with
        | tup a1 a2 a3 a4 => exact ⟨_, _, h1, rfl, .tup a1 a2 a3 a4, of_decide_eq_true ht'⟩
      | _ => cases ht
    let bOf : Value → Addr := fun v => match v with | .ref b => b | _ => 0
    let psH : List (NestedKey × Addr × Value) := (List.range T.kv.length).map fun i => (ks.getD i .none, bOf (T.kv.getD i (.none, .none)).1, (T.kv.getD i (.none, .none)).2)
    have psAt : ∀ i k v, T.kv[i]? = some (k, v) → ∃ kn b, psH[i]? = some (kn, b, v) ∧ k = Value.ref b ∧ (nestedKind X.prog X.w).is s1.heap kn b := fun i k v e => by
      obtain ⟨kn, b, h1, h2, h3⟩ := adr i k v e
      have hi : i < T.kv.length := (List.getElem?_eq_some_iff.mp e).1
      refine ⟨kn, b, ?_, h2, h3⟩
      have eg : ks.getD i .none = kn := by rw [List.getD_eq_getElem?_getD, h1] <;> rfl
      have ev : T.kv.getD i (.none, .none) = (k, v) := by rw [List.getD_eq_getElem?_getD, e] <;> rfl
      show ((List.range T.kv.length).map _)[i]? = _
      rw [List.getElem?_map, List.getElem?_range hi]
      show some (ks.getD i .none, bOf (T.kv.getD i (.none, .none)).1, (T.kv.getD i (.none, .none)).2) = _
      rw [eg, ev, h2]
    have psL : psH.length = T.kv.length := by
      show ((List.range T.kv.length).map _).length = _
      rw [List.length_map, List.length_range]
    refine call_dict_pairsH (knd := nestedKind X.prog X.w) (ps := psH) (PairArg.list l its.toArray T.Ts T.kv) hh (show X.A.units + 2 + 8 < cLine by omega) OKl ⟨psL, fun i k v e => ?_⟩ (fun h' kp x hx => ?_) (by rw [T.len, ← lk, sizeLine_eq]; omega) fun h' tk dd kp => ?_
    · obtain ⟨kn, b, h1, h2, _⟩ := psAt i k v e
      exact ⟨kn, b, h1, h2⟩
    · obtain ⟨i, hi, e⟩ := List.getElem_of_mem hx
      have hi' : i < T.kv.length := by rw [← psL]; exact hi
      obtain ⟨kn, b, h1, h2, h3, h4⟩ := psAt i _ _ (List.getElem?_eq_getElem hi')
      have ex : x = (kn, b, T.kv[i].2) := by
        rw [List.getElem?_eq_getElem hi, Option.some.injEq, e] at h1
        exact h1
      subst ex
      exact ⟨NestedIs.at (fun b' ob vs n hb _ => kp b' ob (Nat.ne_of_lt (Heap.lt_size hb)) (fun z => nomatch z) hb) _ _ h3, h4⟩
    · refine PyProof.Rows.args_nil ?_
      have I2 : Inv X pins σ H1 { s1 with heap := h', toks := tk } := I1.kept fun b o e => kp b o (fun z => nomatch z) e
      have cnt : (storedAllH [] psH).length = (ddK ks).length := by
        obtain ⟨o', es, ep, _, _, _, _, _, nd⟩ := dd
        have c := ddK_count (ks := ks) (f := id) nd (fun x _ y _ e => e) fun k => ?_
        · rw [List.length_map] at c
          exact c
        · rw [List.map_id, storedAllH_keys]
          constructor
          · rintro (hj | hj)
            · cases hj
            · obtain ⟨x, hx, rfl⟩ := List.mem_map.mp hj
              obtain ⟨i, hi, rfl⟩ := List.mem_map.mp hx
              have hi' : i < ks.length := by rw [lk, ← T.len]; exact List.mem_range.mp hi
              show ks.getD i .none ∈ ks
              rw [List.getD_eq_getElem?_getD, List.getElem?_eq_getElem hi']
              exact List.getElem_mem hi'
          · intro hk'
            obtain ⟨i, hi, e⟩ := List.getElem_of_mem hk'
            refine .inr (List.mem_map.mpr ⟨_, List.mem_map.mpr ⟨i, List.mem_range.mpr (by rw [T.len, ← lk]; exact hi), rfl⟩, ?_⟩)
            show ks.getD i .none = k
            rw [List.getD_eq_getElem?_getD, List.getElem?_eq_getElem hi, ← e] <;> rfl
      refine call_len_dictH hn dd (by rw [cnt]; omega) ⟨.int (ddK ks).length, H1, I2.tok _, ⟨_, by rw [cnt]⟩, q1⟩
end
end DD
end T_DK9

section T_DR
set_option Elab.async false
set_option linter.all false
set_option maxRecDepth 100000
set_option maxHeartbeats 1000000
set_option autoImplicit false
namespace DD
open PySem PySem.Spec L2
open PyProof.Rows hiding St

/-! ### t[::-1] of a tuple -/
theorem adj_rev (n : Nat) : Builtin.Slice.sliceAdjust none none (-1) (n : Int) = ((n : Int) - 1, -1) := by
  unfold Builtin.Slice.sliceAdjust
  simp
theorem places_rev (n : Nat) : Builtin.Slice.slicePlaces ((n : Int) - 1) (-1) (-1) = n := by
  unfold Builtin.Slice.slicePlaces
  simp
  omega
theorem pick_rev (xs : Array Value) : ((List.range xs.size).filterMap fun (k : Nat) => xs[((xs.size : Int) - 1 + (k : Int) * (-1)).toNat]?).toArray = xs.toList.reverse.toArray := by
  have e : ((List.range xs.size).filterMap fun (k : Nat) => xs[((xs.size : Int) - 1 + (k : Int) * (-1)).toNat]?) = ((List.range xs.size).map fun k => xs.size - 1 - k).filterMap (xs[·]?) := by
    rw [List.filterMap_map]
    have key : ∀ l : List Nat, (∀ k ∈ l, k < xs.size) → l.filterMap (fun (k : Nat) => xs[((xs.size : Int) - 1 + (k : Int) * (-1)).toNat]?) = l.filterMap ((xs[·]?) ∘ fun k => xs.size - 1 - k) := by
      intro l
      induction l with
      | nil => intro _; rfl
      | cons k l ih =>
        intro h
        have hk := h k List.mem_cons_self
        have : ((xs.size : Int) - 1 + (k : Int) * (-1)).toNat = xs.size - 1 - k := by omega
        rw [List.filterMap_cons, List.filterMap_cons, ih fun j hj => h j (List.mem_cons_of_mem _ hj)]
        rw [this] <;> rfl
    exact key _ fun k hk => List.mem_range.mp hk
  rw [e, PySem.W.krv_range, List.filterMap_reverse, PySem.W.krv_all]
section
variable {P : Program} {w : World} {A : Around} {E : Value → Shared → Prop} {s : Shared}
theorem getItem_tuple_rev {t sl : Addr} {items : Array Value} {vs : Value} {Q : Value → Shared → Prop} (ht : IsTup s.heap t items) (hs : s.heap.IsSliceOf sl .none .none vs) (ps : IsPart vs (some (-1)))
    (h : Q (.ref s.heap.objs.size) { s with heap := s.heap.push { cls := .type "tuple", data := .seq items.toList.reverse.toArray } }) (hsz : items.size ≤ sizeLine) : wpAny (model P w) A (getItem (.ref t) (.ref sl)) Q E s := by
  obtain ⟨os, hos, hcs, hds⟩ := id hs
  have hTs : s.TypeIs (.ref sl) "slice" := ⟨os, hos, hcs⟩
  have hz : sizeOk (.seq items.toList.reverse.toArray) := by
    show items.toList.reverse.toArray.size ≤ sizeLine
    rw [List.size_toArray, List.length_reverse, Array.length_toList]
    exact hsz
  unfold getItem
  try with_reducible refine wpAny_holding ?_
  refine wpAny_bind (wpAny_sequenceKey ht.typeIs (by decide) ?_)
  refine wpAny_bind (wpAny_callSpecial?_slot (name := Str.ofString "__getitem__") ht.typeIs PyProof.Rows.slot_tuple_getitem (wpAny_call_entry PyProof.Rows.slot_tuple_getitem ht.typeIs entry_tuple_getitem ?_ (args_tuple_getitem _ _)))
  show wpAny _ _ (Builtin.Tuple.tupleItemsOf (.ref t) >>= _) _ _ s
  refine wpAny_bind (tupleItemsOf_ ht ?_)
  refine wpAny_bind (wpAny_typeOf hTs ?_)
  rw [if_pos (by decide)]
  unfold Builtin.Slice.sliceApplied Builtin.Slice.sliceFields
  refine wpAny_bind (wpAny_bind (wpAny_bind (wpAny_field hos hds (x := .none) rfl (wpAny_bind (wpAny_field hos hds (x := .none) rfl (wpAny_bind (wpAny_field hos hds (x := vs) rfl (wpAny_pure ?_))))))))
  refine wpAny_bind (HT.slicePart_ ps ?_)
  show wpAny _ _ (if ((-1 : Int) == 0) = true then _ else _) _ _ s
  rw [if_neg (by decide)]
  refine wpAny_bind (HT.slicePart_ .none (wpAny_bind (HT.slicePart_ .none (wpAny_bind (wpAny_pure ?_)))))
  show wpAny _ _ (match Builtin.Slice.sliceAdjust none none (-1) (items.size : Int) with | (lo, hi) => pure (lo, (-1 : Int), Builtin.Slice.slicePlaces lo hi (-1))) _ _ s
  rw [adj_rev]
  show wpAny _ _ (pure (((items.size : Int) - 1), (-1 : Int), Builtin.Slice.slicePlaces ((items.size : Int) - 1) (-1) (-1))) _ _ s
  rw [places_rev]
  refine wpAny_pure ?_
  show wpAny _ _ (if (((items.size : Int) - 1) == 0 && (-1 : Int) == 1 && items.size == items.size) = true then _ else _) _ _ s
  rw [if_neg (by rw [show ((-1 : Int) == 1) = false from by decide, Bool.and_false, Bool.false_and]; exact Bool.false_ne_true), pick_rev]
  first
    | exact wpAny_bind (m := Builtin.Tuple.tupleExact _) (wpAny_newObj_type (wpAny_pure ⟨_, rfl, wpAny_pure h⟩) hz)
    | exact wpAny_bind (m := Builtin.Tuple.tupleExact _) (wpAny_newObj_type (wpAny_bind (wpAny_pure (wpAny_pure ⟨_, rfl, wpAny_pure h⟩))) hz)
    | exact wpAny_bind (wpAny_bind (m := Builtin.Tuple.tupleExact _) (wpAny_newObj_type (wpAny_pure (wpAny_pure ⟨_, rfl, wpAny_pure h⟩)) hz))
    | exact wpAny_bind (wpAny_bind (m := Builtin.Tuple.tupleExact _) (wpAny_newObj_type (wpAny_pure ⟨_, rfl, wpAny_pure h⟩) hz))
end
def tRevT (K : PySem.W.Frag) (te : TE) : TE := fun σ H Q => te σ H fun x H1 => ∃ a xs, x = .ref a ∧ SqT K H1 a xs ∧ ∀ p, H1 p = none → Q (.ref p) (upd H1 p (.tup xs.reverse))
theorem pe_revT {X : Cx} {e : Expr} {te : TE} {k : Nat} {p1 p2 p3 pos : Pos} (he : PE X e te) : PE X (.Subscript e (.Slice none none (some (.UnaryOp .USub (.Constant (.int 1) k p1) p2)) p3) pos) (tRevT X.K te) := by
  refine ⟨fun pins s σ H Q I h => ?_⟩
  refine Subscript_ (thn (he.run pins s σ H _ I h) fun v s1 ⟨x, H1, I1, r1, q1⟩ => ?_)
  obtain ⟨a, xs, rfl, hx, q⟩ := q1
  cases r1
  have hst : PO X (some (.UnaryOp .USub (.Constant (.int 1) k p1) p2)) (tPart (tUn (rU fun i => .int (-i)) (tC (.int 1)))) := po_some (pe_un un_neg pe_int)
  refine wpAny_Slice (thn (po_none.run pins s1 σ H1 (fun o H2 => o = none ∧ H2 = H1) I1 ⟨rfl, rfl⟩) fun vl s2 ⟨l, H2, I2, pl, el, e2⟩ => ?_)
  subst el e2
  refine thn (po_none.run pins s2 σ H2 (fun o H3 => o = none ∧ H3 = H2) I2 ⟨rfl, rfl⟩) fun vu s3 ⟨u, H3, I3, pu, eu, e3⟩ => ?_
  subst eu e3
  refine thn (hst.run pins s3 σ H3 (fun o H4 => o = some (-1) ∧ H4 = H3) I3 ⟨1, rfl, -1, rfl, rfl, rfl⟩) fun vs s4 ⟨o, H4, I4, ps, eo, e4⟩ => ?_
  subst eo e4
  cases pl
  cases pu
  have I5 : Inv X pins σ H4 { s4 with heap := s4.heap.push { cls := .type "slice", data := .fields #[.none, .none, vs] } } := I4.kept (t' := s4.toks) fun b ob q => Heap.get?_push_of_some _ q
  obtain ⟨its, r, ht, hz⟩ := I5.tuple hx
  have hlen := r.length
  show wpAny (model X.prog X.w) X.A (subscriptTail e (.Slice none none (some (.UnaryOp .USub (.Constant (.int 1) k p1) p2)) p3) (.ref a) (.ref s4.heap.objs.size)) (EP X pins σ Q) X.xe { s4 with heap := s4.heap.push { cls := .type "slice", data := .fields #[.none, .none, vs] } }
  refine tail_any (ops := [.ref a, .ref s4.heap.objs.size]) ht.typeIs (PyProof.Rows.slot_tuple_getitem.lookup) ?_ (by with_unfolding_all rfl)
  refine getItem_tuple_rev ht (Heap.IsSliceOf.new _ .none .none vs) ps ?_ (by rw [List.size_toArray]; omega)
  refine ⟨.ref _, _, I5.laid (t' := s4.toks) (o := .tup xs.reverse) (fun b ob q => Heap.get?_push_of_some _ q) (Nat.le_refl _) ?_, rfl, q _ (I5.hok.fresh (Nat.le_refl _))⟩
  refine ⟨by rw [List.length_reverse]; exact hz, its.reverse, r.reverse, ?_⟩
  have z := IsTup.new (s4.heap.push { cls := .type "slice", data := .fields #[.none, .none, vs] }) its.reverse.toArray
  simpa using z

/-! ### the rules -/
section
variable {X : Ctx} {q : Option Addr} {ρ : List Sl} {pos p p2 p3 p4 : Pos} {e : Expr} {k : Nat} {t : T D}
def seqD : D → Option (List D)
  | .list ds => some ds
  | .tuple ds => some ds
  | _ => none
def revD : D → T D
  | .tuple ds => .ret (.tuple ds.reverse)
  | _ => .fail
theorem dx_revT (h : DX X q ρ e t) : DX X q ρ (.Subscript e (.Slice none none (some (.UnaryOp .USub (.Constant (.int 1) k p) p2)) p3) pos) (t.bind revD) := fun σ Hb H g Q ok0 sl ht => by
  refine ⟨tRevT X.K (wE X e), fun z => pe_revT pe_w, ?_⟩
  refine h.run ok0 sl (T.ok_bind.mp ht) fun d g1 v Hb1 H1 c1 s1 ok1 sl1 d1 => ?_
  cases d1 with
  | tup e1 a1 => exact ⟨_, _, rfl, sqT_mono ok1.sub e1, fun p hp => c1 _ _ _ (s1.trans ok1 (.new ok1 hp)) (ok1.new hp) (.tup (SqT.of upd_same) (dnAll_mono (same_upd (ok1.sub.free hp)) _ _ (DnAll.rev a1)))⟩
  | _ => exact c1.elim
def lenSetD (d : D) : T D := match seqD d with
  | some ds => (setD ds).bind fun ks => .ret (.int ks.length)
  | none => .fail
theorem seqD_at {X : Ctx} {Hb H : Hp} {g : Nat} {v : V} {d : D} {ds : List D} (ok : Ok X.K q Hb H g) (h : Dn X.K Hb v d) (e : seqD d = some ds) : ∃ a xs, v = .ref a ∧ (SqL X.K H a xs ∨ SqT X.K H a xs) ∧ DnAll X.K Hb xs ds := by
  cases h <;> simp only [seqD] at e <;> first
    | (cases e; done)
    | skip
  · rename_i a xs ds' e1 a1
    cases e
    exact ⟨_, _, rfl, .inl (SqL.of (ok.sub _ _ e1)), a1⟩
  · rename_i a xs ds' e1 a1
    cases e
    exact ⟨_, _, rfl, .inr (sqT_mono ok.sub e1), a1⟩
theorem setD_ok {ds : List D} {g : Nat} {C : List NestedKey → Nat → Prop} (h : (setD ds).ok g C) : ∃ ks, nkAll ds = some ks ∧ okSet ks = true ∧ C (ddK ks) g := by
  unfold setD at h
  cases e : nkAll ds with
  | none => rw [e] at h; exact h.elim
  | some ks =>
    rw [e] at h
    obtain ⟨h1, h2⟩ := T.ok_need h
    exact ⟨ks, rfl, h1, h2⟩
theorem dx_lenSet (hu : X.A.units + 64 < cLine) (hg : Gb X "len") (hm : X.mg "len" = none) (hg2 : Gb X "set") (hm2 : X.mg "set" = none) (h : DX X q ρ e t) (na : ∀ env : Env, starEach [e] env = (false, eval e env) :: starEach [] env := by intro _; rfl) :
    DX X q ρ (.Call (.Name "len" p) [.Call (.Name "set" p2) [e] [] p3] [] pos) (t.bind lenSetD) := fun σ Hb H g Q ok0 sl ht => by
  refine ⟨tLenSetD X.K (wE X e), fun z => pe_lenSetD (X := X.at z) rfl hu (hg.gl z) hm (hg2.gl z) hm2 pe_w (na _), ?_⟩
  refine h.run ok0 sl (T.ok_bind.mp ht) fun d g1 v Hb1 H1 c1 s1 ok1 sl1 d1 => ?_
  unfold lenSetD at c1
  cases e1 : seqD d with
  | none => rw [e1] at c1; exact c1.elim
  | some ds =>
    rw [e1] at c1
    obtain ⟨ks, h1, h2, h3⟩ := setD_ok (T.ok_bind.mp c1)
    obtain ⟨a, xs, rfl, hs, hd⟩ := seqD_at ok1 d1 e1
    exact ⟨a, xs, ds, ks, rfl, hs, DnAll.dp _ _ (nkAll_noDct _ _ h1) (dnAll_mono ok1.sub _ _ hd), h1, h2, h3 _ _ _ s1 ok1 (.int _)⟩
def srtSetD (d : D) : T (List D) := match seqD d with
  | some ds => (setD ds).bind fun ks => .need (okSort (ks.map NestedKey.data)) (.ret (srtD (ks.map NestedKey.data)))
  | none => .fail
theorem df_srtSet (hu : X.A.units + 64 < cLine) (hg : Gb X "sorted") (hm : X.mg "sorted" = none) (hg2 : Gb X "set") (hm2 : X.mg "set" = none) (h : DX X q ρ e t) (na : ∀ env : Env, starEach [e] env = (false, eval e env) :: starEach [] env := by intro _; rfl) :
    DF X q ρ (.Call (.Name "sorted" p) [.Call (.Name "set" p2) [e] [] p3] [] pos) (t.bind srtSetD) := fun σ Hb H g Q ok0 sl ht => by
  refine ⟨tSrtSetD X.K (wE X e), fun z => pe_srtSetD (X := X.at z) rfl hu (hg.gl z) hm (hg2.gl z) hm2 pe_w (na _), ?_⟩
  refine h.run ok0 sl (T.ok_bind.mp ht) fun d g1 v Hb1 H1 c1 s1 ok1 sl1 d1 => ?_
  unfold srtSetD at c1
  cases e1 : seqD d with
  | none => rw [e1] at c1; exact c1.elim
  | some ds =>
    rw [e1] at c1
    obtain ⟨ks, h1, h2, h3⟩ := setD_ok (T.ok_bind.mp c1)
    obtain ⟨h4, h5⟩ := T.ok_need h3
    obtain ⟨a, xs, rfl, hs, hd⟩ := seqD_at ok1 d1 e1
    refine ⟨a, xs, ds, ks, rfl, hs, DnAll.dp _ _ (nkAll_noDct _ _ h1) (dnAll_mono ok1.sub _ _ hd), h1, h2, h4, fun bs l hb hb2 hl => ?_⟩
    refine h5 l _ Hb1 _ (s1.trans ok1 (.own hl)) (ok1.own hl) (ok1.sub.free hl) (step_free ok0 s1 (free_nq ok1 hl) hl) upd_same ?_
    rw [← hb2]
    exact dn_trips bs fun b hb' => trips_dn hd b (hb b hb')
def lenDictD : D → T D
  | .list ds => .need (noDcts ds) ((dictKeysD ds).bind fun ks => .ret (.int ks.length))
  | _ => .fail
theorem dx_lenDict (hu : X.A.units + 64 < cLine) (hg : Gb X "len") (hm : X.mg "len" = none) (hg2 : Gb X "dict") (hm2 : X.mg "dict" = none) (h : DX X q ρ e t) (na : ∀ env : Env, starEach [e] env = (false, eval e env) :: starEach [] env := by intro _; rfl) :
    DX X q ρ (.Call (.Name "len" p) [.Call (.Name "dict" p2) [e] [] p3] [] pos) (t.bind lenDictD) := fun σ Hb H g Q ok0 sl ht => by
  refine ⟨tLenDictD X.K (wE X e), fun z => pe_lenDictD (X := X.at z) rfl hu (hg.gl z) hm (hg2.gl z) hm2 pe_w (na _), ?_⟩
  refine h.run ok0 sl (T.ok_bind.mp ht) fun d g1 v Hb1 H1 c1 s1 ok1 sl1 d1 => ?_
  cases d1 with
  | lst e1 a1 =>
    rename_i ds
    obtain ⟨nd, c1⟩ := T.ok_need (show (T.need (noDcts ds) ((dictKeysD ds).bind fun ks => T.ret (PyData.int (ks.length : Nat)))).ok g1 _ from c1)
    have c2 := T.ok_bind.mp c1
    unfold dictKeysD at c2
    cases e2 : pairsD ds with
    | none => rw [e2] at c2; exact c2.elim
    | some ps =>
      rw [e2] at c2
      obtain ⟨ks, h1, h2, h3⟩ := setD_ok c2
      refine ⟨_, _, ps, ks, rfl, SqL.of (ok1.sub _ _ e1), ?_, h1, h2, h3 _ _ _ s1 ok1 (.int _)⟩
      rw [← pairsD_data e2]
      exact DnAll.dp _ _ nd (dnAll_mono ok1.sub _ _ a1)
  | _ => exact c1.elim
theorem dx_cmpB {a b : Expr} {ta tb : T D} {op : CmpOp} {m : D → D → T Bool} (ho : DOB X q (compareOp op) m) (ha : DX X q ρ a ta) (hb : DX X q ρ b tb) (hm : behindInMarks op b = false) :
    DX X q ρ (.Compare a [op] [b] pos) (bo (ta.bind fun x => tb.bind fun y => m x y)) := by
  have h := dx_cmp (pos := pos) ho ha hb hm
  unfold bo
  simp only [T.bind_assoc]
  exact h
/-- len(x) of a list that this def grows -/
theorem dx_lenOw (i : Nat) {ds : List D} {x : Str} (hg : Gb X "len") (hm : X.mg "len" = none) (er : ρ[i]? = some (Sl.ow ds)) (hN : X.N[i]? = some x) (hv : Vis X.sc x) (hd : (x == ("__debug__" : Str)) = false := by decide) (hcd : (x == ("__classdict__" : Str)) = false := by decide)
    (he : ∀ env : Env, starEach [.Name x p2] env = (false, eval (.Name x p2) env) :: starEach [] env := by intro _; rfl) (hpl : ∀ env : Env, (backTo pos (starEach [] env)).any (·.1) = false := by intro _; rfl) :
    DX X q ρ (.Call (.Name "len" p) [.Name x p2] [] pos) (.ret (.int ds.length)) := fun σ Hb H g Q ok0 sl ht => by
  refine ⟨tCB (fun xs H Q => ∃ x n, xs = [x] ∧ LenV X.K x H n ∧ Q (.int n) H) (tCons (tVar i) tNil), fun z => pe_callB call_len (hg.gl z) hm PySem.boot_len (pa_cons (pe_var hN (by rw [z.hsc]; exact hv) hd hcd) pa_nil (he _)) (by decide) (by decide) (he _) (hpl _), ?_⟩
  obtain ⟨s, e1, pp, vs, e2, h1, h2, h3, h4⟩ := sl.rel i _ er
  subst e2
  refine ⟨_, e1, ?_⟩
  refine ⟨_, _, rfl, .inl ⟨_, SqL.of h1, rfl⟩, ?_⟩
  rw [DnAll.len h3]
  exact ht _ Hb H .refl ok0 (.int _)
end

/-! ### loops and branches, more -/
section
variable {X : Ctx} {q : Option Addr} {ρ : List Sl} {R S π : Type} {ε : R → En} {rest body : List Stmt} {pos : Pos} {tg iter : Expr} {η : S → List Sl} {s0 : S} {ts : T (List D)} {ix : List Nat} {dec : D → Option π} {env : S → π → List Sl}
/-- what falls through, or a result -/
def enS (ε : R → En) : R ⊕ D → En
  | .inl r => ε r
  | .inr d => .rt d
theorem ds_in {sts : List Stmt} {t : T R} (h : DS X q ρ sts (t.bind fun r => .ret (.inl r)) (enS ε)) : DS X q ρ sts t ε := fun σ Hb H g C ok0 sl ht =>
  h σ Hb H g C ok0 sl (T.ok_bind.mpr (T.ok_mono ht fun _ _ z => z))
theorem ds_out {sts : List Stmt} {t : T R} (h : DS X q ρ sts t ε) : DS X q ρ sts (t.bind fun r => .ret (.inl r)) (enS ε) := fun σ Hb H g C ok0 sl ht =>
  h σ Hb H g C ok0 sl (T.ok_mono (T.ok_bind.mp ht) fun _ _ z => z)
/-- a loop whose turns all fall through -/
theorem ds_forN {tb : S → π → T S} {k : S → T R} (di : DI X q ρ tg iter ts) (h0 : leR (η s0) ρ) (dg : ∀ s, DG X q (η s) ix tg dec (env s)) (hb : ∀ s b, DS X q (env s b) body (tb s b) fun s' => .nx (η s')) (hr : ∀ s, DS X q (η s) rest (k s) ε)
    (hs : ∀ (env : Env) (x : Value), foldedSetIterable iter env x = pure x := by intro _ _; rfl) :
    DS X q ρ (.For tg iter body [] pos :: rest) (ts.bind fun ds => (T.foldM (fun d s => (T.opt (dec d)).bind (tb s)) ds s0).bind k) ε := by
  refine ds_in ?_
  have h := ds_for (pos := pos) (k := fun s => (k s).bind fun r => .ret (.inl r)) di h0 dg hb (fun s => ds_out (hr s)) Sum.inr (fun _ => rfl) hs
  simp only [T.bind_assoc] at h ⊢
  exact h
/-- behind a loop out of which nothing is returned -/
def endF (k : S → T R) : O S → T R
  | .nx s => k s
  | .ct s => k s
  | .bk s => k s
  | .rt _ => .fail
/-- .. with continue and break alone -/
theorem ds_forB {tb : S → π → T (O S)} {k : S → T R} (di : DI X q ρ tg iter ts) (h0 : leR (η s0) ρ) (dg : ∀ s, DG X q (η s) ix tg dec (env s)) (hb : ∀ s b, DS X q (env s b) body (tb s b) (enO η)) (hr : ∀ s, DS X q (η s) rest (k s) ε)
    (hs : ∀ (env : Env) (x : Value), foldedSetIterable iter env x = pure x := by intro _ _; rfl) :
    DS X q ρ (.For tg iter body [] pos :: rest) (ts.bind fun ds => (T.loopM (fun d s => (T.opt (dec d)).bind (tb s)) ds s0).bind (endF k)) ε := by
  refine ds_in ?_
  have h := ds_forO (pos := pos) (k := fun s => (k s).bind fun r => .ret (.inl r)) (inj := Sum.inr) (ε := enS ε) di h0 dg hb (fun s => ds_out (hr s)) (fun _ => rfl) hs
  intro σ Hb H g C ok0 sl ht
  refine h σ Hb H g C ok0 sl ?_
  rw [T.ok_bind, T.ok_bind] at ht
  rw [T.ok_bind]
  refine T.ok_mono ht fun ds g1 c => ?_
  rw [T.ok_bind] at c ⊢
  refine T.ok_mono c fun o g2 c => ?_
  cases o with
  | rt d => exact c.elim
  | nx s => exact T.ok_bind.mpr c
  | ct s => exact T.ok_bind.mpr c
  | bk s => exact T.ok_bind.mpr c
/-- a branch that leaves -/
inductive Xx (S : Type) where
  | ct (s : S) | bk (s : S) | rt (d : D)
def Xx.o : Xx S → O S
  | .ct s => .ct s
  | .bk s => .bk s
  | .rt d => .rt d
def enX (η : S → List Sl) : Xx S → En
  | .ct s => .ct (η s)
  | .bk s => .bk (η s)
  | .rt d => .rt d
theorem enX_no (r : Xx S) (ρ' : List Sl) : enX η r ≠ .nx ρ' := by
  cases r <;> intro e <;> cases e
theorem enX_o (r : Xx S) : enO η r.o = enX η r := by cases r <;> rfl
/-- an expression alone -/
theorem ds_expr {e : Expr} {t : T D} {k : D → T R} (h : DX X q ρ e t) (hk : ∀ d, DS X q ρ rest (k d) ε) (hs : ∀ env : Env, swapsWith e none pos.line env = pure false := by intro _; rfl) : DS X q ρ (.Expr e pos :: rest) (t.bind k) ε := fun σ Hb H g C ok0 sl ht => by
  refine ⟨tSeq (tDrop (wE X e)) (wSs X rest), fun z => pss_cons (ps_expr pe_w (hs _)) pss_w, ?_⟩
  refine h.run ok0 sl (T.ok_bind.mp ht) fun d g1 v Hb1 H1 c1 s1 ok1 sl1 d1 => ?_
  exact hk d σ Hb1 H1 g1 C ok1 sl1 (T.ok_mono c1 fun r g' c => enP_after ok1 ⟨g, ok0⟩ (.of s1) (fun p hp => .inl hp) c)
end
abbrev T.b2 {α : Type} (m : D → D → T α) (a b : T D) : T α := a.bind fun x => b.bind fun y => m x y
theorem r64 {k : Nat} {A : Around} (hr : Room k A) : A.units + 64 < cLine := by have := hr.un; omega
theorem r65 {k : Nat} {A : Around} (hr : Room k A) : A.units + 65 < cLine := by have := hr.un; omega
theorem g_rel {x : Str} (t : Tok) : RelV (.str x) (.str x t) := ⟨t, rfl⟩
theorem g_relI {i : Int} (t : Tok) : RelV (.int i) (.int i t) := ⟨t, rfl⟩
/-- a draw, a step of the pool -/
def drawD : D → T D
  | .int n => .need (decide (0 < n) && decide (n < 1073741824)) (.draw n.toNat fun v => .ret (.int (v : Nat)))
  | _ => .fail
def nextD : T D := .next (.ret .none)
theorem sw_cell {elt : Expr} {gs : List Comprehension} {scope : Scope} {pos py : Pos} {y : Str} {l : Nat} {env : Env} (hy : env.scope.names.lookup y = some .cell) : swapsWith (.ListComp elt gs scope pos) (some (.Name y py)) l env = pure false := by
  have ky : env.kindOf y = some .cell := hy
  unfold swapsWith
  simp only [ky]
  rw [show ((some NameKind.cell : Option NameKind) == some NameKind.local) = false from rfl, Bool.and_false, Bool.false_and, Bool.false_and]
/-- y = e where what the place says of y is asked -/
theorem dfa_s {X : Ctx} {q : Option Addr} {ρ : List Sl} {i : Nat} {x : Str} {e : Expr} {pos pos' : Pos} {tf : T (List D)} (hN : X.N.Nodup) (hi : X.N[i]? = some x) (hx : Loc X.sc x) (h : DF X q ρ e tf) (hs : ∀ env : Env, env.scope = X.sc → swapsWith e (some (.Name x pos')) pos.line env = pure false)
    (hf : X.fn x = true ∨ X.sc.names.lookup x = some .local := by first | exact .inl rfl | exact .inr rfl | assumption) : DFA X q ρ i (.Assign [.Name x pos'] e pos) tf := fun σ Hb H g Q ok0 sl ht =>
  ⟨wE X e, fun z => ps_set hN hi (by rw [z.hsc]; exact hx) pe_w (hs _ z.hsc) (by rw [z.hsc]; exact hf), h σ Hb H g Q ok0 sl ht⟩
end DD
end T_DR

section T_DK10
set_option Elab.async false
set_option linter.all false
set_option maxRecDepth 100000
set_option maxHeartbeats 1000000
set_option autoImplicit false
namespace DD
open PySem PySem.Spec L2
open PyProof.Rows hiding St

/-! ### sorted(dict(e)), keys of ints and texts -/
def tSrtDictD (K : PySem.W.Frag) (ta : TE) : TE := fun σ H Q => ta σ H fun x H1 => ∃ (a : Addr) (xs : List V) (ps : List (D × D)) (ks : List NestedKey), x = .ref a ∧ SqL K H1 a xs ∧ DpAll K H1 xs (ps.map fun p => .tuple [p.1, p.2]) ∧ nkAll (ps.map (·.1)) = some ks ∧ ks.all leafK = true ∧ ks.length < 64 ∧
  okSort ((ddK ks).map NestedKey.data) = true ∧ ∀ (bs : List Trip) p, (∀ b ∈ bs, ∃ k : Key, b = (kV k, (nkK k).data)) → bs.map (·.2) = srtD ((ddK ks).map NestedKey.data) → H1 p = none → Q (.ref p) (upd H1 p (.lst (bs.map (·.1))))
theorem each_keysN {h : Heap} : ∀ {vs : List Value} {l : List Key}, PySem.W.EachIs (fun v k => RelV (kV k) v) vs l → PySem.W.EachIs TripR vs (l.map fun k => (kV k, (nkK k).data)) ∧ PySem.W.EachIs (fun v (b : Trip) => ∃ as, Reads h v b.2 as) vs (l.map fun k => (kV k, (nkK k).data))
  | _, _, .nil => ⟨.nil, .nil⟩
  | _, k :: _, .cons r t => by
    obtain ⟨h1, h2⟩ := each_keysN (h := h) t
    refine ⟨.cons r h1, .cons ?_ h2⟩
    cases k with
    | inl i =>
      obtain ⟨tk, rfl⟩ := r
      exact ⟨_, .int _ _⟩
    | inr x =>
      obtain ⟨tk, rfl⟩ := r
      exact ⟨_, .str _ _⟩
section
variable {X : Cx} {a : Expr} {ta : TE} {p p2 q pos : Pos}
theorem pe_srtDictD (hc : X.calm = true) (hu : X.A.units + 64 < cLine) (hg : Gl X "sorted") (hm : X.mg "sorted" = none) (hg2 : Gl X "dict") (hm2 : X.mg "dict" = none) (ha : PE X a ta) (na : starEach [a] X.env = (false, eval a X.env) :: starEach [] X.env := by rfl) :
    PE X (.Call (.Name "sorted" p) [.Call (.Name "dict" p2) [a] [] q] [] pos) (tSrtDictD X.K ta) := by
  refine ⟨fun pins s σ H Q I h => ?_⟩
  refine Call_ (ld_blt I hg hm PyProof.Rows.boot_sorted ?_)
  refine PyProof.Rows.callWith_builtin1 (PyProof.Rows.args_cons ?_ rfl) rfl rfl
  refine Call_ (ld_blt I hg2 hm2 PyProof.Rows.boot_dict ?_)
  refine PyProof.Rows.callWith_type1 (PyProof.Rows.args_cons (thn (ha.run pins s σ H _ I h) fun v s1 ⟨x, H1, I1, r1, q1⟩ => PyProof.Rows.args_nil ?_) na) na rfl
  obtain ⟨l, xs, ps, ks, rfl, hs, hd, he, z, few, hso, q1⟩ := q1
  cases r1
  obtain ⟨its, rv, ⟨o, n, ho, hcl, hdc, hdt⟩, hz⟩ := I1.list hs
  obtain ⟨T⟩ := pairs_at I1 rv hd
  have lk : ks.length = ps.length := by rw [nk_len he, List.length_map]
  have hn : (s1.heap.objs.size == sysModules) = false := beq_eq_false_iff_ne.mpr (Nat.ne_of_gt I1.big)
  have hh : X.A.handled = none := I1.ok.hd hc
  have OKl : PlainSeq "list" s1.heap l its.toArray ∧ PairItems s1.heap its.toArray T.Ts T.kv := ⟨⟨o, n, ho, hcl, hdc, hdt⟩, T.items⟩
  have hkl : ∀ k ∈ ks, leafK k = true := fun k hk => List.all_eq_true.mp z k hk
  refine call_dict_pairs (knd := mixKind X.prog X.w) (kvs := (List.range T.kv.length).map fun i => (keyN (ks.getD i .none), (T.kv.getD i (.none, .none)).2)) (PairArg.list l its.toArray T.Ts T.kv) hh OKl ⟨by simp, fun i k v e => ?_⟩ (by rw [T.len, ← lk, sizeLine_eq]; omega) fun h' tk dd kp => ?_
  · have e' : T.kv[i]? = some (k, v) := e
    have hi : i < T.kv.length := (List.getElem?_eq_some_iff.mp e').1
    obtain ⟨p, hp, x, hx, r⟩ := T.key i k v e'
    obtain ⟨kn, h1, h2⟩ := nkAll_get he (i := i) (d := p.1) (by rw [List.getElem?_map, hp] <;> rfl)
    have hl := hkl kn (List.mem_of_getElem? h1)
    have eg : ks.getD i .none = kn := by rw [List.getD_eq_getElem?_getD, h1] <;> rfl
    have ev : (T.kv.getD i (.none, .none)).2 = v := by rw [List.getD_eq_getElem?_getD, e'] <;> rfl
    refine ⟨keyN kn, ?_, ?_⟩
    · rw [List.getElem?_map, List.getElem?_range hi]
      show some (keyN (ks.getD i .none), (T.kv.getD i (Value.none, Value.none)).2) = _
      rw [eg, ev]
    · have dk := nkD_data p.1 kn h2
      rw [← dk] at hx
      cases kn with
      | num j => cases hx; exact kV_is (k := .inl j) r
      | text y => cases hx; exact kV_is (k := .inr y) r
      | _ => cases hl
  · refine PyProof.Rows.args_nil ?_
    have I2 : Inv X pins σ H1 { s1 with heap := h', toks := tk } := I1.kept fun b o e => kp b o (fun z => nomatch z) e
    generalize hmg : merged [] ((List.range T.kv.length).map fun i => (keyN (ks.getD i .none), (T.kv.getD i (.none, .none)).2)) = M at dd
    have nd : (M.map (·.1)).Nodup := by
      obtain ⟨o', es, ep, _, _, _, _, _, nd⟩ := dd
      exact nd
    have mem : ∀ k, k ∈ (M.map (·.1)).map nkK ↔ k ∈ ks := fun k => by
      rw [List.mem_map, ← hmg]
      constructor
      · rintro ⟨j, hj, rfl⟩
        rw [merged_keys] at hj
        rcases hj with hj | hj
        · cases hj
        · rw [List.map_map] at hj
          obtain ⟨i, hi, e⟩ := List.mem_map.mp hj
          have hi' : i < ks.length := by rw [lk, ← T.len]; exact List.mem_range.mp hi
          have e' : keyN (ks.getD i .none) = j := e
          have eg : ks.getD i .none = ks[i] := by rw [List.getD_eq_getElem?_getD, List.getElem?_eq_getElem hi'] <;> rfl
          rw [← e', eg, nkK_keyN (hkl _ (List.getElem_mem hi'))]
          exact List.getElem_mem hi'
      · intro hk'
        obtain ⟨i, hi, e⟩ := List.getElem_of_mem hk'
        refine ⟨keyN k, ?_, nkK_keyN (hkl k hk')⟩
        rw [merged_keys, List.map_map]
        refine .inr (List.mem_map.mpr ⟨i, List.mem_range.mpr (by rw [T.len, ← lk]; exact hi), ?_⟩)
        show keyN (ks.getD i .none) = keyN k
        rw [List.getD_eq_getElem?_getD, List.getElem?_eq_getElem hi, ← e] <;> rfl
    have pm : ((M.map (·.1)).map nkK).Perm (ddK ks) := (List.perm_ext_iff_of_nodup (List.pairwise_map.mpr (List.Pairwise.imp (fun {a b} ne e => ne (nk_inj e)) nd)) (ddK_nodup ks)).mpr fun k => by rw [mem, ddK_mem]
    have hML : M.length ≤ 64 := by
      have h1 := pm.length_eq
      rw [List.length_map, List.length_map] at h1
      have h2 : (ddK ks).length < 64 := ddK_few (by unfold okSet; rw [z, Bool.true_or, Bool.true_and, decide_eq_true_eq]; exact few)
      omega
    obtain ⟨ep, hat⟩ := dd.dictAt
    have bd : ((M.map (·.1)).map fun k => ((kV k, (nkK k).data) : Trip)).map (·.2) = ((M.map (·.1)).map nkK).map NestedKey.data := by
      simp only [List.map_map]
      rfl
    have bp : (((M.map (·.1)).map fun k => ((kV k, (nkK k).data) : Trip)).map (·.2)).Perm ((ddK ks).map NestedKey.data) := by rw [bd]; exact pm.map _
    refine sorted_of (K := fun vs s2 => (∃ h2 tk2, s2 = { s1 with heap := h2, toks := tk2 } ∧ ∀ b o, h'.get? b = some o → h2.get? b = some o) ∧ PySem.W.EachIs (fun v k => RelV (kV k) v) vs (M.map (·.1))) (fun F hF => ?_) (fun vs s2 ⟨⟨h2, tk2, es2, k2⟩, ei⟩ => ?_) hu
    · refine PySem.W.kdu_collect (PySem.W.kdl_dict (knd := mixKind X.prog X.w) (kvs := M) (ep := ep) hn) (by rw [show X.A.in1.handled = X.A.handled from rfl]; exact hh) hat (by rw [sizeLine_eq]; omega) fun h2 tk2 acc k2 hacc => hF _ _ ⟨⟨h2, tk2, rfl, k2⟩, ?_⟩
      -- the keys, one by one
      have each : ∀ (us : List Value) (l : List Key), us.length = l.length → (∀ (i : Nat) (u : Value), us[i]? = some u → ∃ k : Key, l[i]? = some k ∧ RelV (kV k) u) → PySem.W.EachIs (fun v k => RelV (kV k) v) us l := by
        intro us
        induction us with
        | nil => intro l hl _; cases l with | nil => exact .nil | cons _ _ => cases hl
        | cons u us ih =>
          intro l hl h
          cases l with
          | nil => cases hl
          | cons k l =>
            obtain ⟨k', e1, r⟩ := h 0 u rfl
            cases e1
            exact .cons r (ih l (by simpa using hl) fun i w e => h (i + 1) w e)
      refine each _ _ (by rw [Array.length_toList, hacc.1, List.length_map]) fun i u e => ?_
      obtain ⟨k, y, e1, e2⟩ := hacc.2 i u (by rw [← Array.getElem?_toList]; exact e)
      exact ⟨k, by rw [List.getElem?_map, e1] <;> rfl, keyIs_rel e2⟩
    · subst es2
      obtain ⟨t1, t2⟩ := each_keysN (h := h2) ei
      refine ⟨_, t1, t2, by rw [okSort_perm bp]; exact hso, by rw [List.length_map, List.length_map, sizeLine_eq]; omega, fun out bs' h3 c e1 e2 e3 e4 e5 => ?_⟩
      have kall : ∀ b u, s1.heap.get? b = some u → h2.get? b = some u := fun b u e => k2 b u (kp b u (fun z => nomatch z) e)
      have I3 : Inv X pins σ H1 { s1 with heap := h2, toks := tk2 } := I1.kept kall
      have hnew : H1 h2.objs.size = none := I3.hok.fresh (Nat.le_refl _)
      dsimp only at e4 e5 ⊢
      have J : Inv X pins σ (upd H1 h2.objs.size (.lst (bs'.map (·.1)))) { s1 with heap := h3, toks := tk2 } := I3.laid (t' := tk2) e4 (Nat.le_refl _) ⟨by rw [List.length_map, e2.length_eq, List.length_map, List.length_map, sizeLine_eq]; omega, out, c, trips_vals e1, e5⟩
      refine ⟨.ref h2.objs.size, _, J, rfl, q1 bs' _ (fun b hb => ?_) ?_ hnew⟩
      · obtain ⟨k, _, e⟩ := List.mem_map.mp (e2.mem_iff.mp hb)
        exact ⟨k, e.symm⟩
      · rw [e3]
        exact srt_any bp (okSort_alike (by rw [okSort_perm bp]; exact hso))
end
section
variable {X : Ctx} {q : Option Addr} {ρ : List Sl} {pos p p2 p3 : Pos} {e : Expr} {t : T D}
def srtDictD : D → T (List D)
  | .list ds => match pairsD ds with
    | some ps => match nkAll (ps.map (·.1)) with
      | some ks => .need (ks.all leafK && decide (ks.length < 64) && okSort ((ddK ks).map NestedKey.data) && noDcts ds) (.ret (srtD ((ddK ks).map NestedKey.data)))
      | none => .fail
    | none => .fail
  | _ => .fail
theorem df_srtDict (hu : X.A.units + 64 < cLine) (hg : Gb X "sorted") (hm : X.mg "sorted" = none) (hg2 : Gb X "dict") (hm2 : X.mg "dict" = none) (h : DX X q ρ e t) (na : ∀ env : Env, starEach [e] env = (false, eval e env) :: starEach [] env := by intro _; rfl) :
    DF X q ρ (.Call (.Name "sorted" p) [.Call (.Name "dict" p2) [e] [] p3] [] pos) (t.bind srtDictD) := fun σ Hb H g Q ok0 sl ht => by
  refine ⟨tSrtDictD X.K (wE X e), fun z => pe_srtDictD (X := X.at z) rfl hu (hg.gl z) hm (hg2.gl z) hm2 pe_w (na _), ?_⟩
  refine h.run ok0 sl (T.ok_bind.mp ht) fun d g1 v Hb1 H1 c1 s1 ok1 sl1 d1 => ?_
  cases d1 with
  | lst e1 a1 =>
    simp only [srtDictD] at c1
    split at c1
    · rename_i ps e2
      split at c1
      · rename_i ks e3
        obtain ⟨h1, c1⟩ := T.ok_need c1
        rw [Bool.and_eq_true, Bool.and_eq_true, Bool.and_eq_true, decide_eq_true_eq] at h1
        refine ⟨_, _, ps, ks, rfl, SqL.of (ok1.sub _ _ e1), ?_, e3, h1.1.1.1, h1.1.1.2, h1.1.2, fun bs l hb hb2 hl => ?_⟩
        · rw [← pairsD_data e2]
          exact DnAll.dp _ _ h1.2 (dnAll_mono ok1.sub _ _ a1)
        · refine c1 l _ Hb1 _ (s1.trans ok1 (.own hl)) (ok1.own hl) (ok1.sub.free hl) (step_free ok0 s1 (free_nq ok1 hl) hl) upd_same ?_
          rw [← hb2]
          refine dn_trips bs fun b hb' => ?_
          obtain ⟨k, rfl⟩ := hb b hb'
          cases k with
          | inl i => exact .int i
          | inr x => exact .str x
      · exact c1.elim
    · exact c1.elim
  | _ => exact c1.elim
/-! ### a value that is a Bool -/
def boolD : D → T Bool
  | .bool b => .ret b
  | _ => .fail
theorem dx_boolD (h : DX X q ρ e t) : DX X q ρ e (bo (t.bind boolD)) := fun σ Hb H g Q ok0 sl ht => by
  refine h σ Hb H g Q ok0 sl ?_
  unfold bo at ht
  rw [T.bind_assoc, T.ok_bind] at ht
  refine T.ok_mono ht fun d g' c => ?_
  cases d <;> first
    | exact c
    | exact c.elim
end
end DD
end T_DK10

section T_DK11
set_option Elab.async false
set_option linter.all false
set_option maxRecDepth 100000
set_option maxHeartbeats 1000000
set_option autoImplicit false
namespace DD
open PySem PySem.Spec L2
open PyProof.Rows hiding St
/-- x, y = a, b of two plain names of a def -/
theorem par_sw {sc : Scope} {env : Env} {x y : Str} {px py pt pt2 : Pos} {a b : Expr} {kt k2 : Nat} (he : env.scope = sc) (hk : sc.kind = .function) (hx : sc.names.lookup x = some .local) (hy : sc.names.lookup y = some .local) (hl : (py.line == px.line) = true) (hne : ([x, y].eraseDups.length != 2) = false)
    (ha : (match a with | .Starred .. => true | _ => false) = false) (hb : (match b with | .Starred .. => true | _ => false) = false) (hf : [a, b].all (foldedForSure 8) = false) (hc : [a, b].all (constantsAlone 8) = false) :
    swappedStores [.Tuple [.Name x px, .Name y py] kt pt] (.Tuple [a, b] k2 pt2) env = pure (some [x, y]) := by
  have k1 : (env.kindOf x == some .local) = true := by
    have : env.kindOf x = some .local := by unfold Env.kindOf; rw [he]; exact hx
    rw [this] <;> rfl
  have k2 : (env.kindOf y == some .local) = true := by
    have : env.kindOf y = some .local := by unfold Env.kindOf; rw [he]; exact hy
    rw [this] <;> rfl
  have kb : (env.blockKind != .function) = false := by
    unfold Env.blockKind
    rw [he, hk] <;> rfl
  have hl2 : (px.line == px.line) = true := beq_self_eq_true _
  unfold swappedStores
  simp only [List.length_cons, List.length_nil, Nat.zero_add, Nat.reduceAdd, beq_self_eq_true, Bool.true_or, Bool.not_true, bne_self_eq_false, Bool.false_or, kb, Bool.false_eq_true, if_false, List.any_cons, List.any_nil, Bool.or_false, List.head?_cons, Option.map_some, Option.getD_some, List.filterMap_cons, List.filterMap_nil, Expr.pos, k1, k2, hl, hl2, Bool.and_self, if_true]
  simp only [hf, hc]
  split
  · exact absurd ha (by simp)
  · split
    · exact absurd hb (by simp)
    · rw [if_neg (by simp), if_neg (by rw [hne]; exact Bool.false_ne_true), if_neg Bool.false_ne_true, if_neg Bool.false_ne_true]
/-- the slots, written out -/
theorem ds_at {X : Ctx} {q : Option Addr} {ρ : List Sl} {R : Type} {ε : R → En} {sts : List Stmt} {t : T R} {ρ' : List Sl} (e : ρ = ρ') (h : DS X q ρ' sts t ε) : DS X q ρ sts t ε := by
  rw [e]
  exact h
end DD
end T_DK11

section T_DP
set_option Elab.async false
set_option linter.all false
set_option maxRecDepth 100000
set_option maxHeartbeats 1000000
set_option autoImplicit false
namespace DD
open PySem PySem.Spec L2
open PyProof.Rows hiding St

/-! ### a list of ints that is only read -/
def ixF (ns : List Int) : D → T D
  | .int i => match atI ns i with
    | some n => .ret (.int n)
    | none => .fail
  | _ => .fail
section
variable {X : Ctx} {q : Option Addr} {ρ : List Sl} {pos p p2 : Pos} {e : Expr} {x : Str}
theorem dx_lenFz (i : Nat) {ns : List Int} (hg : Gb X "len") (hm : X.mg "len" = none) (er : ρ[i]? = some (Sl.fz ns)) (hN : X.N[i]? = some x) (hv : Vis X.sc x) (hd : (x == ("__debug__" : Str)) = false := by decide) (hcd : (x == ("__classdict__" : Str)) = false := by decide)
    (he : ∀ env : Env, starEach [.Name x p2] env = (false, eval (.Name x p2) env) :: starEach [] env := by intro _; rfl) (hpl : ∀ env : Env, (backTo pos (starEach [] env)).any (·.1) = false := by intro _; rfl) :
    DX X q ρ (.Call (.Name "len" p) [.Name x p2] [] pos) (.ret (.int ns.length)) := fun σ Hb H g Q ok0 sl ht => by
  refine ⟨tCB (fun xs H Q => ∃ x n, xs = [x] ∧ LenV X.K x H n ∧ Q (.int n) H) (tCons (tVar i) tNil), fun z => pe_callB call_len (hg.gl z) hm PySem.boot_len (pa_cons (pe_var hN (by rw [z.hsc]; exact hv) hd hcd) pa_nil (he _)) (by decide) (by decide) (he _) (hpl _), ?_⟩
  obtain ⟨s, e1, a, e2, h1⟩ := sl.rel i _ er
  subst e2
  refine ⟨_, e1, ?_⟩
  refine ⟨_, _, rfl, .inl ⟨_, ok0.sub.seq h1, rfl⟩, ?_⟩
  rw [List.length_map]
  exact ht _ Hb H .refl ok0 (.int _)
theorem dx_ixFz (i : Nat) {ns : List Int} {t : T D} (er : ρ[i]? = some (Sl.fz ns)) (hN : X.N[i]? = some x) (hv : Vis X.sc x) (h : DX X q ρ e t) (hd : (x == ("__debug__" : Str)) = false := by decide) (hcd : (x == ("__classdict__" : Str)) = false := by decide)
    (hs : PlainIx e := by exact fun _ _ => rfl) : DX X q ρ (.Subscript (.Name x p) e pos) (t.bind fun y => ixF ns y) := fun σ Hb H g Q ok0 sl ht => by
  refine ⟨tOp (rIxL X.K) (tVar i) (wE X e), fun z => pe_ix ix_list (pe_var hN (by rw [z.hsc]; exact hv) hd hcd) pe_w hs, ?_⟩
  obtain ⟨s, e1, a, e2, h1⟩ := sl.rel i _ er
  subst e2
  refine ⟨_, e1, ?_⟩
  refine h.run ok0 sl (T.ok_bind.mp ht) fun d g1 v Hb1 H1 c1 s1 ok1 sl1 d1 => ?_
  cases d1 with
  | int j =>
    unfold ixF at c1
    cases z : atI ns j with
    | none => simp only [z] at c1; exact c1.elim
    | some n =>
      simp only [z] at c1
      refine ⟨a, ns.map V.int, j, V.int n, rfl, rfl, (s1.ext.trans ok1.sub).seq h1, ?_, c1 _ Hb1 H1 s1 ok1 (.int _)⟩
      unfold atI at z ⊢
      rw [List.length_map]
      cases y : ixN ns.length j with
      | none => rw [y] at z; cases z
      | some k =>
        rw [y] at z
        show (ns.map V.int)[k]? = _
        rw [List.getElem?_map, show ns[k]? = some n from z] <;> rfl
  | _ => exact c1.elim
end
/-! ### what the pool draws from -/
def m_law_mixed (a_number : D) (a_place : D) : T D := ((T.b2 modD ((T.b2 addD (T.b2 addD (T.b2 mulD (T.ret a_number) (T.ret (.int 410338673998125441398711))) (T.b2 mulD (T.ret a_place) (T.ret (.int 736418259301774563982039)))) (T.ret (.int 295075153872261839517363))).bind intD) (T.ret (.int 618970019642690137449562111))).bind fun first1 => ((T.b2 modD ((T.b2 addD (T.b2 addD (T.b2 mulD (T.ret first1) (T.ret first1)) (T.b2 mulD (T.ret (.int 7)) (T.ret first1))) (T.ret a_place)).bind intD) (T.ret (.int 162259276829213363391578010288127))).bind fun second2 => ((T.b2 modD ((T.b2 addD (T.b2 mulD (T.ret second2) (T.ret second2)) (T.ret first1)).bind intD) (T.ret (.int 618970019642690137449562111))).bind fun third3 => (T.b2 addD (T.b2 mulD (T.ret second2) (T.ret (.int 618970019642690137449562111))) (T.ret third3)))))
def m_law_rest (ns : List Int) (a_place a_fills : D) : T D := ((T.ret (.int 0)).bind fun number1 => ((((T.b2 gtD (T.ret (.int (List.length (α := Int) ns))) (T.ret (.int 0))).bind fun k => if k then ((((T.b2 modD ((T.ret a_place).bind intD) (T.ret (.int (List.length (α := Int) ns)))).bind fun y => ixF ns y).bind intD).bind fun number3 => (T.ret number3)) else (T.ret number1)) : T (D)).bind fun s2 => ((((T.b2 ltD (T.ret s2) (T.ret (.int 0))).bind fun k => if k then ((T.b2 subD (T.ret (.int 1)) (T.b2 mulD (T.ret (.int 2)) (T.ret s2))).bind fun number5 => (T.ret number5)) else (T.ret s2)) : T (D)).bind fun s4 => ((andT (T.b2 eqD (T.ret a_fills) (T.ret (.int 0))) (andT (T.b2 ltD (T.ret a_place) (T.ret (.int (List.length (α := Int) ns)))) (T.b2 geD (T.ret s4) (T.b2 powD (T.ret (.int 10)) (T.ret (.int 18)))))).bind fun k => if k then (T.b2 subD (T.ret s4) (T.b2 powD (T.ret (.int 10)) (T.ret (.int 18)))) else ((T.b2 addD (T.ret s4) (T.b2 mulD (T.ret a_fills) (T.ret (.int 1000003)))).bind fun a => (T.ret a_place).bind fun b => m_law_mixed a b)))))
/-- numbers of a script -/
def Scr (ns : List Int) : Prop := ns.length ≤ 63 ∧ ∀ n ∈ ns, n.natAbs < 2 ^ 1048576
theorem mixed_ok {n p : Int} {g : Nat} {C : D → Nat → Prop} (hn : n.natAbs < 2 ^ 1048580) (hp : p.natAbs < 2 ^ 62) (h : ∀ r, 0 ≤ r → C (.int r) g) : (m_law_mixed (.int n) (.int p)).ok g C := by
  have b1 : mulOk n 410338673998125441398711 = true := by
    unfold mulOk
    have : CMulX n 410338673998125441398711 := mulx_ok (a := 1048580) (b := 79) hn (by decide) (by decide)
    rw [decide_eq_true (show (Builtin.Int.intBits n : Int) + (Builtin.Int.intBits 410338673998125441398711 : Int) ≤ 134217728 from this), Bool.or_true]
  have b2 : mulOk p 736418259301774563982039 = true := by
    unfold mulOk
    have : CMulX p 736418259301774563982039 := mulx_ok (a := 62) (b := 80) hp (by decide) (by decide)
    rw [decide_eq_true (show (Builtin.Int.intBits p : Int) + (Builtin.Int.intBits 736418259301774563982039 : Int) ≤ 134217728 from this), Bool.or_true]
  have mm : ∀ x y : Int, 0 ≤ x → x < 2 ^ 128 → 0 ≤ y → y < 2 ^ 128 → mulOk x y = true := fun x y h1 h2 h3 h4 => by
    unfold mulOk
    have : CMulX x y := mulx_ok (a := 128) (b := 128) (by omega) (by omega) (by decide)
    rw [decide_eq_true (show (Builtin.Int.intBits x : Int) + (Builtin.Int.intBits y : Int) ≤ 134217728 from this), Bool.or_true]
  have e1 : (0 : Int) ≤ (n * 410338673998125441398711 + p * 736418259301774563982039 + 295075153872261839517363) % 618970019642690137449562111 ∧ (n * 410338673998125441398711 + p * 736418259301774563982039 + 295075153872261839517363) % 618970019642690137449562111 < 618970019642690137449562111 := ⟨Int.emod_nonneg _ (by decide), Int.emod_lt_of_pos _ (by decide)⟩
  unfold m_law_mixed
  simp only [T.b2, T.ret_bind, mulD, b1, b2, T.need_true, addD, intD, modD, decide_true, show decide ((0 : Int) < 618970019642690137449562111) = true from by decide]
  generalize (n * 410338673998125441398711 + p * 736418259301774563982039 + 295075153872261839517363) % 618970019642690137449562111 = f at e1 ⊢
  simp only [T.ret_bind, mulD, mm f f e1.1 (by omega) e1.1 (by omega), mm 7 f (by decide) (by decide) e1.1 (by omega), T.need_true, addD, intD, modD, show decide ((0 : Int) < 162259276829213363391578010288127) = true from by decide]
  have e2 : (0 : Int) ≤ (f * f + 7 * f + p) % 162259276829213363391578010288127 ∧ (f * f + 7 * f + p) % 162259276829213363391578010288127 < 162259276829213363391578010288127 := ⟨Int.emod_nonneg _ (by decide), Int.emod_lt_of_pos _ (by decide)⟩
  generalize (f * f + 7 * f + p) % 162259276829213363391578010288127 = s at e2 ⊢
  simp only [T.ret_bind, mulD, mm s s e2.1 (by omega) e2.1 (by omega), mm s 618970019642690137449562111 e2.1 (by omega) (by decide) (by decide), T.need_true, addD, intD, modD, show decide ((0 : Int) < 618970019642690137449562111) = true from by decide]
  have e3 : (0 : Int) ≤ (s * s + f) % 618970019642690137449562111 := Int.emod_nonneg _ (by decide)
  generalize (s * s + f) % 618970019642690137449562111 = t at e3 ⊢
  exact h _ (by omega)
theorem ixF_ok {ns : List Int} (h0 : 0 < ns.length) {pl : Int} (hp : 0 ≤ pl) : ∃ n ∈ ns, ixF ns (.int (pl % (ns.length : Nat))) = .ret (.int n) := by
  have h1 := Int.emod_nonneg pl (show ((ns.length : Nat) : Int) ≠ 0 by omega)
  have h2 := Int.emod_lt_of_pos pl (show (0 : Int) < ((ns.length : Nat) : Int) by omega)
  obtain ⟨j, hj⟩ := Int.eq_ofNat_of_zero_le h1
  have hl : j < ns.length := by omega
  refine ⟨ns[j], List.getElem_mem hl, ?_⟩
  unfold ixF
  rw [hj]
  show (match atI ns (j : Int) with | some n => T.ret (PyData.int n) | none => T.fail) = _
  rw [atI_nat (List.getElem?_eq_getElem hl)]
theorem rest_ok {ns : List Int} (hs : Scr ns) {pl f : Int} (p0 : 0 ≤ pl) (p1 : pl < 2 ^ 61) (f0 : 0 ≤ f) (f1 : f < 2 ^ 61) {g : Nat} {C : D → Nat → Prop} (h : ∀ r, 0 ≤ r → C (.int r) g) : (m_law_rest ns (.int pl) (.int f)).ok g C := by
  have key : ∀ n : Int, 0 ≤ n → n.natAbs < 2 ^ 1048578 → ((andT (T.b2 eqD (T.ret (.int f)) (T.ret (.int 0))) (andT (T.b2 ltD (T.ret (.int pl)) (T.ret (.int (List.length (α := Int) ns)))) (T.b2 geD (T.ret (.int n)) (T.b2 powD (T.ret (.int 10)) (T.ret (.int 18)))))).bind fun k => if k then (T.b2 subD (T.ret (.int n)) (T.b2 powD (T.ret (.int 10)) (T.ret (.int 18)))) else ((T.b2 addD (T.ret (.int n)) (T.b2 mulD (T.ret (.int f)) (T.ret (.int 1000003)))).bind fun a => (T.ret (.int pl)).bind fun b => m_law_mixed a b)).ok g C := fun n n0 nb => by
    have hpow : powD (.int 10) (.int 18) = .ret (.int 1000000000000000000) := rfl
    have hmul : mulOk f 1000003 = true := by
      unfold mulOk small64
      rw [show decide ((-18446744073709551616 : Int) < 1000003) = true from by decide, show decide ((1000003 : Int) < 18446744073709551616) = true from by decide]
      simp
    have hm : (m_law_mixed (.int (n + f * 1000003)) (.int pl)).ok g C := by
      refine mixed_ok ?_ (by omega) h
      have e : (2 : Nat) ^ 1048580 = 2 ^ 1048578 * 4 := by rw [show (1048580 : Nat) = 1048578 + 2 from rfl, Nat.pow_add]
      have e2 : (2 : Nat) ^ 100 ≤ 2 ^ 1048578 := Nat.pow_le_pow_right (by decide) (by decide)
      rw [e]
      omega
    have he : eqD (.int f) (.int 0) = .ret (f == 0) := rfl
    simp only [T.b2, T.ret_bind, andT, he, ltD, hpow, geD, subD, mulD, hmul, T.need_true, addD]
    by_cases c1 : f = 0
    · subst c1
      simp only [show ((0 : Int) == 0) = true from rfl, if_true, T.ret_bind]
      by_cases c2 : pl < (ns.length : Nat)
      · rw [decide_eq_true c2]
        simp only [if_true, T.ret_bind]
        by_cases c3 : (1000000000000000000 : Int) ≤ n
        · rw [decide_eq_true c3]
          exact h _ (by omega)
        · rw [decide_eq_false c3]
          exact hm
      · rw [decide_eq_false c2]
        exact hm
    · have : (f == 0) = false := beq_eq_false_iff_ne.mpr c1
      rw [this]
      exact hm
  have two : ∀ n : Int, n.natAbs < 2 ^ 1048576 → ((((T.b2 ltD (T.ret (.int n)) (T.ret (.int 0))).bind fun k => if k then ((T.b2 subD (T.ret (.int 1)) (T.b2 mulD (T.ret (.int 2)) (T.ret (.int n)))).bind fun number5 => (T.ret number5)) else (T.ret (.int n))) : T (D)).bind fun s4 => ((andT (T.b2 eqD (T.ret (.int f)) (T.ret (.int 0))) (andT (T.b2 ltD (T.ret (.int pl)) (T.ret (.int (List.length (α := Int) ns)))) (T.b2 geD (T.ret s4) (T.b2 powD (T.ret (.int 10)) (T.ret (.int 18)))))).bind fun k => if k then (T.b2 subD (T.ret s4) (T.b2 powD (T.ret (.int 10)) (T.ret (.int 18)))) else ((T.b2 addD (T.ret s4) (T.b2 mulD (T.ret (.int f)) (T.ret (.int 1000003)))).bind fun a => (T.ret (.int pl)).bind fun b => m_law_mixed a b))).ok g C := fun n nb => by
    have e : (2 : Nat) ^ 1048578 = 2 ^ 1048576 * 4 := by rw [show (1048578 : Nat) = 1048576 + 2 from rfl, Nat.pow_add]
    have e1 : 1 ≤ (2 : Nat) ^ 1048576 := Nat.pow_pos (by decide)
    by_cases c : n < 0
    · have hmul : mulOk 2 n = true := by
        unfold mulOk small64
        rw [show decide ((-18446744073709551616 : Int) < 2) = true from by decide, show decide ((2 : Int) < 18446744073709551616) = true from by decide]
        simp
      have hk := key (1 - 2 * n) (by omega) (by rw [e]; omega)
      simp only [T.b2, T.ret_bind, ltD, decide_eq_true c, if_true, mulD, hmul, T.need_true, subD] at hk ⊢
      exact hk
    · have hk := key n (by omega) (by rw [e]; omega)
      simp only [T.b2, T.ret_bind, ltD, decide_eq_false c, Bool.false_eq_true, if_false] at hk ⊢
      exact hk
  unfold m_law_rest
  by_cases c : 0 < ns.length
  · obtain ⟨n, hn, e⟩ := ixF_ok c p0
    have ht := two n (hs.2 n hn)
    simp only [T.b2, T.ret_bind, gtD, show decide ((0 : Int) < ((ns.length : Nat) : Int)) = true from decide_eq_true (by omega), if_true, intD, modD, T.need_true, e] at ht ⊢
    exact ht
  · have ht := two 0 (by rw [show (0 : Int).natAbs = 0 from rfl]; exact Nat.pow_pos (by decide))
    simp only [T.b2, T.ret_bind, gtD, show decide ((0 : Int) < ((ns.length : Nat) : Int)) = false from decide_eq_false (by omega), Bool.false_eq_true, if_false] at ht ⊢
    exact ht
end DD
end T_DP

section T_DV
set_option Elab.async false
set_option linter.all false
set_option maxRecDepth 100000
set_option maxHeartbeats 1000000
set_option autoImplicit false
namespace DD
open PySem PySem.Spec L2
open PyProof.Rows hiding St
/-! ### the pool's defs: promises -/
def spRest (K : PySem.W.Frag) : Sp := fun vs H Q _ => ∃ sc ns pl f, vs = [.ref sc, .int pl, .int f] ∧ SqL K H sc (ns.map V.int) ∧ Scr ns ∧ 0 ≤ pl ∧ pl < 2 ^ 61 ∧ 0 ≤ f ∧ f < 2 ^ 61 ∧ ∀ r H', 0 ≤ r → Same H H' → Q (.int r) H'
def spPool (K : PySem.W.Frag) : Sp := fun vs H Q _ => ∃ sc ns, vs = [.ref sc] ∧ SqL K H sc (ns.map V.int) ∧ Scr ns ∧ ∀ p r H', 0 ≤ r → Same H H' → H p = none → H' p = some (.lst [.ref sc, .int 0, .int r, .int 0]) → Q (.ref p) H'
section
variable {P : Program} {w : World} {K : PySem.W.Frag} {mg : Str → Option Value} {x qual : Str} {st : Stmt} {f : Addr} {fd : FuncData} {N ps : List Str} {k : Nat}
theorem fn_rest (F : Fun K x qual st f fd) (S : FnScope N ps (defScope st)) (hps : ps.length = 3) (hN : N.length = 4) (body : ∀ A ns a b, Room k A → DS (bodyX P w K mg A N st) none [.fz ns, .va a, .va b, .un] (defBody st) (m_law_rest ns a b) En.rt) (base : Heap) :
    FnOk P w K mg base CX0 (k + 1) f fd ps (spRest K) := by
  refine F.ok S (fun vs H Q E ⟨sc, ns, pl, f, e, _⟩ => by rw [e, hps] <;> rfl) (fun cdv A outer s H vs Q E hr ⟨sc, ns, pl, fl, e, hS, hs, p0, p1, f0, f1, hk⟩ => ?_)
  subst e
  have est : L2.start N [V.ref sc, .int pl, .int fl] = [some (.ref sc), some (.int pl), some (.int fl), none] := by
    unfold L2.start
    rw [hN] <;> rfl
  have sl : Sls K none H H [.fz ns, .va (.int pl), .va (.int fl), .un] (L2.start N [V.ref sc, .int pl, .int fl]) := by
    rw [est]
    refine ⟨rfl, fun i sl e => ?_, fun i j a b p e1 _ _ _ => ?_⟩
    · match i, e with
      | 0, e => cases e; exact ⟨_, rfl, sc, rfl, hS⟩
      | 1, e => cases e; exact ⟨_, rfl, _, rfl, .int _⟩
      | 2, e => cases e; exact ⟨_, rfl, _, rfl, .int _⟩
      | 3, e => cases e; exact ⟨_, rfl, trivial⟩
      | i + 4, e => cases e
    · match i, e1 with
      | 0, e => cases e
      | 1, e => cases e
      | 2, e => cases e
      | 3, e => cases e
      | i + 4, e => cases e
  obtain ⟨u, hu, q1⟩ := body (A.deeper (envOfC qual (defScope st) s.heap.objs.size f cdv)) ns (.int pl) (.int fl) hr (L2.start N [V.ref sc, .int pl, .int fl]) H H 0 { nx := fun _ H' => Q .non H', rt := Q } ⟨Same.refl _, fun a e => nomatch e⟩ sl
    (rest_ok hs p0 p1 f0 f1 fun r hr0 v Hb' H' so ok' dv => by
      cases dv
      exact hk r H' hr0 (so.ext.trans ok'.sub))
  exact ⟨u, hu (.top base s H (envOfC qual (defScope st) s.heap.objs.size f cdv) outer rfl rfl rfl), q1⟩
end
/-- the heap while the pool at a is written -/
structure Md (a : Addr) (Hb H H1 : Hp) (xs : List V) : Prop where
  sub : Same Hb H1
  keep : ∀ b o, b ≠ a → H b = some o → H1 b = some o
  pool : H1 a = some (.lst xs)
theorem Md.set {a : Addr} {Hb H H1 : Hp} {xs : List V} (m : Md a Hb H H1 xs) (nb : Hb a = none) (ys : List V) : Md a Hb H (upd H1 a (.lst ys)) ys :=
  ⟨fun b u hb => by rw [upd_ne (fun e => by rw [e, nb] at hb; cases hb)]; exact m.sub b u hb, fun b o n h => by rw [upd_ne n]; exact m.keep b o n h, upd_same⟩
theorem Md.same {a : Addr} {Hb H H1 H2 : Hp} {xs : List V} (m : Md a Hb H H1 xs) (s : Same H1 H2) : Md a Hb H H2 xs := ⟨m.sub.trans s, fun b o n h => s b o (m.keep b o n h), s _ _ m.pool⟩
theorem Md.step {a : Addr} {Hb H H1 : Hp} {xs : List V} (m : Md a Hb H H1 xs) : Step (some a) Hb H Hb H1 := ⟨Same.refl _, fun b o h n => m.keep b o (fun e => n (by rw [e])) h, fun _ _ _ h => h⟩
theorem Md.ok {K : PySem.W.Frag} {a sc : Addr} {Hb H H1 : Hp} {ns : List Int} {pl r f : Int} {g : Nat} (m : Md a Hb H H1 [.ref sc, .int pl, .int r, .int f]) (nb : Hb a = none) (hS : SqL K Hb sc (ns.map V.int)) (h1 : ns.length ≤ 63) (h2 : ∀ n ∈ ns, n.natAbs < 2 ^ 1048576) (p0 : 0 ≤ pl) (p1 : pl + g ≤ 2 ^ 60) (f0 : 0 ≤ f) (f1 : f + g ≤ 2 ^ 60) (r0 : 0 ≤ r) : Ok K (some a) Hb H1 g :=
  ⟨m.sub, fun b e => by cases e; exact ⟨nb, sc, ns, pl, r, f, m.pool, hS, h1, h2, p0, p1, f0, f1, r0⟩⟩
/-- the law's promise -/
def spLaw (K : PySem.W.Frag) : Sp := fun vs H Q _ => ∃ sc ns, vs = [.ref sc] ∧ SqL K H sc (ns.map V.int) ∧ Scr ns ∧ ∀ H', Q (.bl true) H'
theorem bits_lt' {z : Int} (h : Builtin.Int.intBits z ≤ 1048576) : z.natAbs < 2 ^ 1048576 := by
  by_cases c : z.natAbs = 0
  · rw [c]
    exact Nat.pow_pos (by decide)
  · have h2 : z.natAbs.log2 + 1 ≤ 1048576 := by
      unfold Builtin.Int.intBits at h
      simp only [beq_iff_eq, c, if_false, Int.natAbs_eq_zero] at h
      first
        | exact h
        | (split at h <;> first | exact h | omega)
    exact Nat.lt_of_lt_of_le Nat.lt_log2_self (Nat.pow_le_pow_right (by decide) h2)
/-- the law's slots behind its first row -/
def lawSl (i n : Nat) : List Sl := (List.replicate n .un).set i .po
theorem pool_sls {K : PySem.W.Frag} {Hb H : Hp} {N : List Str} {i n : Nat} {p : Addr} {x : V} (hn : N.length = n) (hi : i < n) (h0 : 0 < n) : Sls K (some p) Hb H (lawSl i n) ((L2.start N [x]).set i (some (.ref p))) := by
  have hl : (L2.start N [x]).length = n := by
    unfold L2.start
    rw [List.length_append, List.length_map, List.length_replicate, List.length_singleton, hn]
    omega
  refine ⟨by unfold lawSl; rw [List.length_set, List.length_set, List.length_replicate, hl], fun j sl e => ?_, fun j k a b c e1 _ _ _ => ?_⟩
  · unfold lawSl at e
    by_cases hj : i = j
    · subst hj
      rw [List.getElem?_set_self (by rw [List.length_replicate]; exact hi)] at e
      cases e
      exact ⟨_, List.getElem?_set_self (by rw [hl]; exact hi), p, rfl, rfl⟩
    · rw [List.getElem?_set_ne hj, List.getElem?_replicate] at e
      split at e
      · cases e
        rename_i hjn
        rw [List.getElem?_set_ne hj]
        exact ⟨_, List.getElem?_eq_getElem (by rw [hl]; exact hjn), trivial⟩
      · cases e
  · unfold lawSl at e1
    by_cases hj : i = j
    · subst hj
      rw [List.getElem?_set_self (by rw [List.length_replicate]; exact hi)] at e1
      cases e1
    · rw [List.getElem?_set_ne hj, List.getElem?_replicate] at e1
      split at e1 <;> cases e1
/-! ### trying all draws -/
def T.all {α : Type} (p : α → Bool) : T α → Nat → Bool
  | .ret a, _ => p a
  | .draw n k, g + 1 => decide (0 < n) && (decide (n < 1073741824) && (List.range n).all fun v => T.all p (k v) g)
  | .draw _ _, 0 => false
  | .next k, g + 1 => T.all p k g
  | .next _, 0 => false
  | .fail, _ => false
theorem T.all_ok {α : Type} {p : α → Bool} {t : T α} : ∀ {g : Nat}, T.all p t g = true → t.ok g fun a _ => p a = true := by
  induction t with
  | ret a => exact fun h => h
  | fail => intro g h; simp [T.all] at h
  | draw n k ih =>
    intro g h
    cases g with
    | zero => simp [T.all] at h
    | succ g =>
      simp only [T.all, Bool.and_eq_true, decide_eq_true_eq, List.all_eq_true] at h
      exact ⟨h.1, h.2.1, g, rfl, fun v hv => ih v (h.2.2 v (List.mem_range.mpr hv))⟩
  | next k ih =>
    intro g h
    cases g with
    | zero => simp [T.all] at h
    | succ g => exact ⟨g, rfl, ih (by simpa [T.all] using h)⟩
def isTrueD : D → Bool
  | .bool true => true
  | _ => false
theorem isTrueD_eq {d : D} (h : isTrueD d = true) : d = .bool true := by
  unfold isTrueD at h
  split at h
  · rfl
  · cases h
theorem law_by_all {t : T D} {g : Nat} (h : T.all isTrueD t g = true) : t.ok g fun d _ => d = .bool true := T.ok_mono (T.all_ok h) fun _ _ h => isTrueD_eq h
end DD
end T_DV

section T_DZ
set_option Elab.async false
set_option linter.all false
set_option maxRecDepth 100000
set_option maxHeartbeats 1000000
set_option autoImplicit false
/-! zip(a, b, strict=True) of two lists, of two tuples, of one length -/
namespace ZS
open PySem
open PySem.Sem (wp)
section
variable {prog : Program} {w : World} {A : Around} {E : Value → Shared → Prop} {s : Shared}
/-- a call of a type with keywords, its own __new__, object's __init__ -/
theorem typ_kw {T newId : String} {Bn : Builtin} {args : List Value} {kw : List (Str × Value)} {S : Spec} {Q : Value → Shared → Prop} (ft : TypeCalled T newId "object.__init__") (hne : (some newId != some "object.__new__") = true)
    (hct : checkTypeCall T ⟨args, kw⟩ = pure ()) (hcn : checkBuiltinCall newId ⟨.type T :: args, kw⟩ = pure ()) (hok : ∀ obj, argsOk "object.__init__" ⟨obj :: args, kw⟩)
    (en : entryFor table newId = some Bn) (g : Meets (Bn ⟨.type T :: args, kw⟩) S) (hi : ∀ obj, Meets (Builtin.«object.__init__» ⟨obj :: args, kw⟩) fun _ R s => s.TypeIs obj T ∧ R (.ok (.ret .none)) s)
    (h : S A.in1 (wants (fun obj s₁ => s₁.TypeIs obj T ∧ Q obj s₁) E) s) : wpAny (model prog w) A (call (.type T) args kw) Q E s := by
  obtain ⟨c, tl, hmro⟩ := ft.mro
  have made := ft.made
  have sub := ft.sub
  have n1 := ft.notType
  have n2 := ft.canCreate
  refine wpAny_call (codeAny_of_tree ?_)
  show wpAny _ _ (callAny (.type T) _) _ _ _
  refine wpAny_pure ⟨Code.quiet_builtin _ (by decide +kernel), codeAny_builtin F.entry_type_call ?_⟩
  rw [Around.under_plain (weight_type_call_type T args kw) (units_type_call_type T args kw)]
  repeat (any_goals (first | assumption | wp_step))
  refine codeAny_mono (codeAny_call_builtin ft.plain en (wpAny_of_eq hcn (g prog w A.in1 _ s h))) fun r s₁ hr => ?_
  match r, hr with
  | .error e, hr => exact hr
  | .ok (.ret obj), hr =>
    obtain ⟨hT, hq⟩ := hr
    have li := ft.init.lookup
    have bi := ft.init.bind obj
    repeat (any_goals (first | assumption | wp_step))
    refine codeAny_mono (codeAny_call_builtin ft.init.plain F.entry_object_init (ft.init.check _ _ _ _ _ _ _ _ hT (hok obj) (hi obj prog w A.in1 (wants (fun r s₂ => r = .none ∧ Q obj s₂) E) s₁ ⟨hT, rfl, hq⟩))) fun r₂ s₂ hr₂ => ?_
    match r₂, hr₂ with
    | .error e, hr₂ => exact hr₂
    | .ok (.ret r), hr₂ =>
      obtain ⟨er, hq⟩ := hr₂
      subst er
      repeat (any_goals (first | assumption | wp_step))
/-- an iterator at it over what stands at l: v k its k-th item, st k: k are gone -/
structure Src (it l : Addr) (v : Nat → Option Value) (st : Nat → Heap → Prop) : Prop where
  more : ∀ {prog : Program} {w : World} {A : Around} {E : Value → Shared → Prop} {s : Shared} {k : Nat} {x : Value} {Q : Value → Shared → Prop}, st k s.heap → v k = some x → (∀ h', st (k + 1) h' → Heap.SameBut it s.heap h' → Q x { s with heap := h' }) →
    wpAny (model prog w) A (Builtin.SmallTypes.nextOf (.ref it)) Q E s
  fin : ∀ {prog : Program} {w : World} {A : Around} {E : Value → Shared → Prop} {s : Shared} {k : Nat} {Q : Value → Shared → Prop}, A.handled = none → st k s.heap → v k = none →
    (∀ h' e, Heap.ExtBut it s.heap h' → (∃ o, h'.get? e = some o ∧ o.cls = .type "StopIteration") → E (.ref e) { s with heap := h' }) → wpAny (model prog w) A (Builtin.SmallTypes.nextOf (.ref it)) Q E s
  keep : ∀ {k : Nat} {h h' : Heap}, st k h → (∀ c o, c = it ∨ c = l → h.get? c = some o → h'.get? c = some o) → st k h'
  lt : ∀ {k : Nat} {h : Heap}, st k h → it < h.objs.size
variable {z TI TO i1 i2 l1 l2 : Addr} {v1 v2 : Nat → Option Value} {st1 st2 : Nat → Heap → Prop}
theorem noe_more {it l : Addr} {v : Nat → Option Value} {st : Nat → Heap → Prop} (S : Src it l v st) {k : Nat} {x : Value} {Q : Option Value → Shared → Prop} (h : st k s.heap) (e : v k = some x)
    (q : ∀ h', st (k + 1) h' → Heap.SameBut it s.heap h' → Q (some x) { s with heap := h' }) : wpAny (model prog w) A (Builtin.SmallTypes.nextOrEnd (.ref it)) Q E s := by
  unfold Builtin.SmallTypes.nextOrEnd
  exact wpAny_bind (wpAny_attempt (S.more h e fun h' a b => wpAny_pure (q h' a b)))
theorem noe_fin {it l : Addr} {v : Nat → Option Value} {st : Nat → Heap → Prop} (S : Src it l v st) {k : Nat} {Q : Option Value → Shared → Prop} (hh : A.handled = none) (h : st k s.heap) (e : v k = none)
    (q : ∀ h', Heap.ExtBut it s.heap h' → Q none { s with heap := h' }) : wpAny (model prog w) A (Builtin.SmallTypes.nextOrEnd (.ref it)) Q E s := by
  unfold Builtin.SmallTypes.nextOrEnd
  refine wpAny_bind (wpAny_attempt (S.fin hh h e fun h' x k => fun ⟨o, ho, hc⟩ => ?_))
  exact wpAny_bind (wpAny_isInstance (T := "StopIteration") (b := true) ⟨o, ho, hc⟩ isSubtype_stop (wpAny_pure (q h' k)))
/-- a strict zip -/
abbrev IsZs (h : Heap) (z TI TO : Addr) (f0 : Value) : Prop :=
  h.get? z = some { cls := .type "zip", dict := none, data := .fields #[f0, .bool false, .bool true, .ref TI, .ref TO], slots := #[] }
/-- the objects of a zip and its sources stand apart -/
structure Apart (z TI TO i1 i2 l1 l2 : Addr) : Prop where
  nd : ([z, TI, TO, i1, i2] : List Addr).Nodup
  out : ∀ c, c = l1 ∨ c = l2 → c ∉ ([z, TI, TO, i1, i2] : List Addr)
theorem zs_next (S1 : Src i1 l1 v1 st1) (S2 : Src i2 l2 v2 st2) {k : Nat} {x y a b : Value} {Q : Value → Shared → Prop} (D : Apart z TI TO i1 i2 l1 l2)
    (hz : IsZs s.heap z TI TO .none) (hTI : IsPair s.heap TI (.ref i1) (.ref i2)) (hTO : IsPair s.heap TO a b) (h1 : st1 k s.heap) (h2 : st2 k s.heap) (hx : v1 k = some x) (hy : v2 k = some y)
    (hQ : ∀ h', IsZs h' z TI TO (rawInt s.heap.objs.size) → IsPair h' TO x y → st1 (k + 1) h' → st2 (k + 1) h' → IsPair h' s.heap.objs.size x y → h'.objs.size = s.heap.objs.size + 1 →
      (∀ c o, c ∉ ([z, TO, i1, i2] : List Addr) → s.heap.get? c = some o → h'.get? c = some o) → Q (.ref s.heap.objs.size) { s with heap := h' }) :
    wpAny (model prog w) A (Builtin.«zip.__next__» ⟨[.ref z], []⟩) (fun fin s' => ∃ v, fin = .done (.ret v) ∧ Q v s') E s := by
  have nd := D.nd
  simp only [List.nodup_cons, List.mem_cons, List.not_mem_nil, or_false, not_or] at nd
  obtain ⟨⟨n1, n2, n3, n4⟩, ⟨n5, n6, n7⟩, ⟨n8, n9⟩, n10, -⟩ := nd
  have o1 := D.out l1 (.inl rfl)
  have o2 := D.out l2 (.inr rfl)
  simp only [List.mem_cons, List.not_mem_nil, or_false, not_or] at o1 o2
  obtain ⟨p1, p2, p3, p4, p5⟩ := o1
  obtain ⟨r1, r2, r3, r4, r5⟩ := o2
  show wpAny _ _ (field (.ref z) 2 >>= _) _ _ _
  refine wpAny_bind (wpAny_field hz rfl (x := .bool true) rfl ?_)
  show wpAny _ _ (field (.ref z) 3 >>= _) _ _ _
  refine wpAny_bind (wpAny_field hz rfl (x := .ref TI) rfl (wpAny_bind (wpAny_seqItems hTI rfl ?_)))
  show wpAny _ _ (Builtin.SmallTypes.ownedTupleIsFree (.ref z) >>= _) _ _ _
  unfold Builtin.SmallTypes.ownedTupleIsFree
  refine wpAny_bind (wpAny_bind (wpAny_field hz rfl (x := .none) rfl (wpAny_pure ?_)))
  simp only [if_true]
  refine wpAny_bind (wpAny_rule (wpAny_bind (wpAny_field hz rfl (x := .ref TO) rfl (wpAny_bind (wpAny_setField_rec hz (by simp) fun ha hza sa => ?_)))))
  have hza : IsZs ha z TI TO .ellipsis := hza
  refine wpAny_bind ?_
  simp only [List.zipIdx_cons, List.zipIdx_nil, List.forIn_cons, List.forIn_nil]
  -- the first item
  refine wpAny_bind (wpAny_bind (wpAny_onRaise ?_))
  show wpAny _ _ (Builtin.SmallTypes.nextOrEnd (.ref i1)) _ _ _
  have st1a : st1 k ha := S1.keep h1 fun c o hc e => sa.extBut _ _ (by rcases hc with rfl | rfl <;> first | exact Ne.symm n3 | exact p1) e
  refine noe_more S1 st1a hx fun hb st1b sb => ?_
  have TOb : IsPair hb TO a b := sb.extBut _ _ n8 (sa.extBut _ _ (Ne.symm n2) hTO)
  refine wpAny_bind (wpAny_seqItems TOb rfl (wpAny_bind (wpAny_updateSeq_pair TOb fun hc TOc sc => ?_)))
  have TOc : IsPair hc TO x b := TOc
  refine wpAny_bind (wpAny_letGo (wpAny_pure ?_))
  -- the second
  refine wpAny_bind (wpAny_bind (wpAny_onRaise ?_))
  show wpAny _ _ (Builtin.SmallTypes.nextOrEnd (.ref i2)) _ _ _
  have st2c : st2 k hc := S2.keep h2 fun c o hc e => by
    have q : c ≠ z ∧ c ≠ i1 ∧ c ≠ TO := by
      rcases hc with rfl | rfl
      · exact ⟨Ne.symm n4, Ne.symm n10, Ne.symm n9⟩
      · exact ⟨r1, r4, r3⟩
    exact sc.extBut _ _ q.2.2 (sb.extBut _ _ q.2.1 (sa.extBut _ _ q.1 e))
  refine noe_more S2 st2c hy fun hd st2d sd => ?_
  have TOd : IsPair hd TO x b := sd.extBut _ _ n9 TOc
  refine wpAny_bind (wpAny_seqItems TOd rfl (wpAny_bind (wpAny_updateSeq_pair TOd fun hf TOf sf => ?_)))
  have TOf : IsPair hf TO x y := TOf
  refine wpAny_bind (wpAny_letGo (wpAny_pure (wpAny_pure ?_)))
  -- the tuple handed out
  refine wpAny_bind (wpAny_seqItems TOf rfl (wpAny_bind (wpAny_newTuple ?_)))
  have hsz : hf.objs.size = s.heap.objs.size := by rw [sf.1, sd.1, sc.1, sb.1, sa.1]
  have zf : IsZs hf z TI TO .ellipsis := sf.extBut _ _ n2 (sd.extBut _ _ n4 (sc.extBut _ _ n2 (sb.extBut _ _ n3 hza)))
  have keep : ∀ c o, c ∉ ([z, TO, i1, i2] : List Addr) → s.heap.get? c = some o → hf.get? c = some o := fun c o n e => by
    simp only [List.mem_cons, List.not_mem_nil, or_false, not_or] at n
    exact sf.extBut _ _ n.2.1 (sd.extBut _ _ n.2.2.2 (sc.extBut _ _ n.2.1 (sb.extBut _ _ n.2.2.1 (sa.extBut _ _ n.1 e))))
  have st1f : st1 (k + 1) hf := S1.keep st1b fun c o hc e => by
    have q : c ≠ TO ∧ c ≠ i2 := by
      rcases hc with rfl | rfl
      · exact ⟨Ne.symm n8, n10⟩
      · exact ⟨p3, p5⟩
    exact sf.extBut _ _ q.1 (sd.extBut _ _ q.2 (sc.extBut _ _ q.1 e))
  have st2f : st2 (k + 1) hf := S2.keep st2d fun c o hc e => sf.extBut _ _ (by rcases hc with rfl | rfl <;> first | exact Ne.symm n9 | exact r3) e
  have zlt : z < hf.objs.size := Heap.lt_size zf
  show wpAny _ _ (Builtin.SmallTypes.ownedTupleHandOut (.ref z) (.ref hf.objs.size) >>= _) _ _ _
  unfold Builtin.SmallTypes.ownedTupleHandOut
  have zg : IsZs (hf.push { cls := .type "tuple", data := .seq #[x, y] }) z TI TO .ellipsis := Heap.get?_push_of_some _ zf
  refine wpAny_bind (wpAny_bind (wpAny_setField_rec zg (by simp) fun hk zk sk => ?_))
  have zk : IsZs hk z TI TO (rawInt hf.objs.size) := zk
  refine wpAny_setField_rec zk (by simp) fun hm zm sm => ?_
  have zm : IsZs hm z TI TO (rawInt hf.objs.size) := zm
  have up : ∀ c o, c ≠ z → hf.get? c = some o → hm.get? c = some o := fun c o n e => sm.extBut _ _ n (sk.extBut _ _ n (Heap.get?_push_of_some _ e))
  have Tm : IsPair hm hf.objs.size x y := sm.extBut _ _ (Nat.ne_of_gt zlt) (sk.extBut _ _ (Nat.ne_of_gt zlt) (Heap.get?_push_size _ rfl))
  have zs : hm.objs.size = hf.objs.size + 1 := by rw [sm.1, sk.1, Heap.size_push]
  rw [hsz] at zm Tm zs
  refine wpAny_pure ⟨_, rfl, ?_⟩
  show Q (.ref hf.objs.size) _
  rw [hsz]
  refine hQ hm zm (up _ _ (Ne.symm n2) TOf) (S1.keep st1f fun c o hc e => up c o (by rcases hc with rfl | rfl <;> first | exact Ne.symm n3 | exact p1) e) (S2.keep st2f fun c o hc e => up c o (by rcases hc with rfl | rfl <;> first | exact Ne.symm n4 | exact r1) e) Tm zs
    fun c o n e => up c o (fun q => n (by simp [q])) (keep c o n e)
theorem zs_end (S1 : Src i1 l1 v1 st1) (S2 : Src i2 l2 v2 st2) {k : Nat} {a b : Value} {Q : Fin → Shared → Prop} (hh : A.handled = none) (D : Apart z TI TO i1 i2 l1 l2)
    (hz : IsZs s.heap z TI TO .none) (hTI : IsPair s.heap TI (.ref i1) (.ref i2)) (hTO : IsPair s.heap TO a b) (h1 : st1 k s.heap) (h2 : st2 k s.heap) (hx : v1 k = none) (hy : v2 k = none)
    (hE : ∀ h' e, (∀ c o, c ∉ ([z, TO, i1, i2] : List Addr) → s.heap.get? c = some o → h'.get? c = some o) → (∃ o, h'.get? e = some o ∧ o.cls = .type "StopIteration") → E (.ref e) { s with heap := h' }) :
    wpAny (model prog w) A (Builtin.«zip.__next__» ⟨[.ref z], []⟩) Q E s := by
  have nd := D.nd
  simp only [List.nodup_cons, List.mem_cons, List.not_mem_nil, or_false, not_or] at nd
  obtain ⟨⟨n1, n2, n3, n4⟩, ⟨n5, n6, n7⟩, ⟨n8, n9⟩, n10, -⟩ := nd
  have o1 := D.out l1 (.inl rfl)
  have o2 := D.out l2 (.inr rfl)
  simp only [List.mem_cons, List.not_mem_nil, or_false, not_or] at o1 o2
  obtain ⟨p1, p2, p3, p4, p5⟩ := o1
  obtain ⟨r1, r2, r3, r4, r5⟩ := o2
  show wpAny _ _ (field (.ref z) 2 >>= _) _ _ _
  refine wpAny_bind (wpAny_field hz rfl (x := .bool true) rfl ?_)
  show wpAny _ _ (field (.ref z) 3 >>= _) _ _ _
  refine wpAny_bind (wpAny_field hz rfl (x := .ref TI) rfl (wpAny_bind (wpAny_seqItems hTI rfl ?_)))
  show wpAny _ _ (Builtin.SmallTypes.ownedTupleIsFree (.ref z) >>= _) _ _ _
  unfold Builtin.SmallTypes.ownedTupleIsFree
  refine wpAny_bind (wpAny_bind (wpAny_field hz rfl (x := .none) rfl (wpAny_pure ?_)))
  simp only [if_true]
  refine wpAny_bind (wpAny_rule (wpAny_bind (wpAny_field hz rfl (x := .ref TO) rfl (wpAny_bind (wpAny_setField_rec hz (by simp) fun ha hza sa => ?_)))))
  have hza : IsZs ha z TI TO .ellipsis := hza
  refine wpAny_bind ?_
  simp only [List.zipIdx_cons, List.zipIdx_nil, List.forIn_cons, List.forIn_nil]
  refine wpAny_bind (wpAny_bind (wpAny_onRaise ?_))
  show wpAny _ _ (Builtin.SmallTypes.nextOrEnd (.ref i1)) _ _ _
  have st1a : st1 k ha := S1.keep h1 fun c o hc e => sa.extBut _ _ (by rcases hc with rfl | rfl <;> first | exact Ne.symm n3 | exact p1) e
  refine noe_fin S1 hh st1a hx fun hb sb => ?_
  have zb : IsZs hb z TI TO .ellipsis := sb _ _ n3 hza
  refine wpAny_bind (wpAny_setField_rec zb (by simp) fun hc zc sc => ?_)
  have st2c : st2 k hc := S2.keep h2 fun c o hc e => by
    have q : c ≠ z ∧ c ≠ i1 := by
      rcases hc with rfl | rfl
      · exact ⟨Ne.symm n4, Ne.symm n10⟩
      · exact ⟨r1, r4⟩
    exact sc.extBut _ _ q.1 (sb _ _ q.2 (sa.extBut _ _ q.1 e))
  refine wpAny_bind ?_
  show wpAny _ _ (forIn (([Value.ref i1, Value.ref i2].drop 1).zipIdx 1) _ _ >>= _) _ _ _
  simp only [List.drop_succ_cons, List.drop_zero, List.zipIdx_cons, List.zipIdx_nil, List.forIn_cons, List.forIn_nil]
  refine wpAny_bind (wpAny_bind (wpAny_bind (noe_fin S2 hh st2c hy fun hd sd => ?_)))
  show wpAny _ _ (pure (ForInStep.yield PUnit.unit)) _ _ _
  refine wpAny_pure (wpAny_pure (wpAny_bind (wpAny_rule ?_)))
  unfold Builtin.SmallTypes.stopIteration
  refine wpAny_bind ?_
  simp only [newExc, newTuple]
  refine wpAny_bind (wpAny_newObj_type ?_ (by size_fits))
  refine wpAny_bind (m := firstArgMember _ _) (wpAny_of_eq (a := Value.none) (by first | rfl | (simp only [firstArgMember]; rfl)) ?_)
  refine wpAny_newObj_type ?_ (by size_fits)
  simp only [raiseNew]
  refine wpAny_bind (wpAny_handled ?_)
  rw [hh]
  refine wpAny_bind (wpAny_pure (wpAny_throw ?_))
  refine hE _ _ (fun c o n e => ?_) ⟨_, Heap.get?_push_size _ rfl, rfl⟩
  simp only [List.mem_cons, List.not_mem_nil, or_false, not_or] at n
  exact Heap.get?_push_of_some _ (Heap.get?_push_of_some _ (sd _ _ n.2.2.2 (sc.extBut _ _ n.1 (sb _ _ n.2.2.1 (sa.extBut _ _ n.1 e)))))
theorem next_more (S1 : Src i1 l1 v1 st1) (S2 : Src i2 l2 v2 st2) {k : Nat} {x y a b : Value} {Q : Option Value → Shared → Prop} (D : Apart z TI TO i1 i2 l1 l2)
    (hz : IsZs s.heap z TI TO .none) (hTI : IsPair s.heap TI (.ref i1) (.ref i2)) (hTO : IsPair s.heap TO a b) (h1 : st1 k s.heap) (h2 : st2 k s.heap) (hx : v1 k = some x) (hy : v2 k = some y)
    (hQ : ∀ h', IsZs h' z TI TO (rawInt s.heap.objs.size) → IsPair h' TO x y → st1 (k + 1) h' → st2 (k + 1) h' → IsPair h' s.heap.objs.size x y → h'.objs.size = s.heap.objs.size + 1 →
      (∀ c o, c ∉ ([z, TO, i1, i2] : List Addr) → s.heap.get? c = some o → h'.get? c = some o) → Q (some (.ref s.heap.objs.size)) { s with heap := h' }) : wpAny (model prog w) A (pyNext (.ref z)) Q E s := by
  have hT : s.TypeIs (.ref z) "zip" := ⟨_, hz, rfl⟩
  unfold pyNext
  exact wpAny_bind (wpAny_attempt (wpAny_callSpecial?_slot (name := Str.ofString "__next__") hT F.slot_zip_next (wpAny_call_entry F.slot_zip_next hT F.entry_zip_next
    (zs_next S1 S2 D hz hTI hTO h1 h2 hx hy fun h' a1 a2 a3 a4 a5 a6 a7 => wpAny_pure (hQ h' a1 a2 a3 a4 a5 a6 a7)) (F.args_zip_next_1 _))))
theorem next_end (S1 : Src i1 l1 v1 st1) (S2 : Src i2 l2 v2 st2) {k : Nat} {a b : Value} {Q : Option Value → Shared → Prop} (hh : A.handled = none) (D : Apart z TI TO i1 i2 l1 l2)
    (hz : IsZs s.heap z TI TO .none) (hTI : IsPair s.heap TI (.ref i1) (.ref i2)) (hTO : IsPair s.heap TO a b) (h1 : st1 k s.heap) (h2 : st2 k s.heap) (hx : v1 k = none) (hy : v2 k = none)
    (hQ : ∀ h', (∀ c o, c ∉ ([z, TO, i1, i2] : List Addr) → s.heap.get? c = some o → h'.get? c = some o) → Q none { s with heap := h' }) : wpAny (model prog w) A (pyNext (.ref z)) Q E s := by
  have hT : s.TypeIs (.ref z) "zip" := ⟨_, hz, rfl⟩
  unfold pyNext
  refine wpAny_bind (wpAny_attempt (wpAny_callSpecial?_slot (name := Str.ofString "__next__") hT F.slot_zip_next (wpAny_call_entry F.slot_zip_next hT F.entry_zip_next
    (zs_end S1 S2 hh D hz hTI hTO h1 h2 hx hy fun h' e hk => fun ⟨o, ho, hc⟩ => ?_) (F.args_zip_next_1 _))))
  exact wpAny_bind (wpAny_isInstance (T := "StopIteration") (b := true) ⟨o, ho, hc⟩ isSubtype_stop (wpAny_pure (hQ _ hk)))
theorem iter_zs {f0 : Value} {Q : Value → Shared → Prop} (hz : IsZs s.heap z TI TO f0) (h : Q (.ref z) s) : wpAny (model prog w) A (pyIter (.ref z)) Q E s := by
  have hT : s.TypeIs (.ref z) "zip" := ⟨_, hz, rfl⟩
  refine wpAny_pyIter_slot hT F.slot_zip_iter (wpAny_call_entry F.slot_zip_iter hT F.entry_zip_iter ?_ (F.args_zip_iter_1 _))
  show wpAny _ _ (ret (.ref z)) _ _ s
  exact wpAny_pure ⟨_, rfl, "zip", _, hT, F.slot_zip_next.lookup, h⟩
theorem go_zs {elts : List Expr} {x1 : Nat} {pos : Pos} {T : Addr} {Q : Unit → Shared → Prop} (hz : IsZs s.heap z TI TO (rawInt T)) (hQ : ∀ h', IsZs h' z TI TO .none → Heap.SameBut z s.heap h' → Q () { s with heap := h' }) :
    wpAny (model prog w) A (letOwnedTupleGo (.Tuple elts x1 pos) (.ref z) (.ref T)) Q E s := by
  unfold letOwnedTupleGo
  refine wpAny_bind (wpAny_load hz ?_)
  show wpAny _ _ (if (["enumerate", "zip", "dict_itemiterator", "dict_reverseitemiterator", "odict_iterator", "itertools.zip_longest", "itertools.pairwise"].contains "zip" &&
      (#[rawInt T, .bool false, .bool true, .ref TI, .ref TO] : Array Value)[0]? == some (rawInt T)) = true then _ else _) Q E s
  rw [if_pos (by simp)]
  exact wpAny_bind (wpAny_rule (wpAny_setField_rec hz (by simp) fun h' hz' hs' => hQ h' hz' hs'))
/-- what stands behind zip(l1, l2, strict=True): new objects, from n on -/
structure Made (h h' : Heap) (st1 st2 : Addr → Nat → Heap → Prop) : Prop where
  z : IsZs h' (h.objs.size + 4) (h.objs.size + 2) (h.objs.size + 3) .none
  TI : IsPair h' (h.objs.size + 2) (.ref h.objs.size) (.ref (h.objs.size + 1))
  TO : IsPair h' (h.objs.size + 3) .none .none
  i1 : st1 h.objs.size 0 h'
  i2 : st2 (h.objs.size + 1) 0 h'
  keep : ∀ c o, h.get? c = some o → h'.get? c = some o
abbrev kwS : List (Str × Value) := [("strict", .bool true)]
abbrev ha1 (T : String) (h : Heap) (l1 : Addr) : Heap := h.push { cls := .type T, data := .fields #[.ref l1, .int 0 0] }
abbrev ha3 (T : String) (h : Heap) (l1 l2 : Addr) : Heap := (ha1 T (ha1 T h l1) l2).push { cls := .type "tuple", data := .seq #[.ref h.objs.size, .ref (ha1 T h l1).objs.size] }
abbrev ha4 (T : String) (h : Heap) (l1 l2 : Addr) : Heap := (ha3 T h l1 l2).push { cls := .type "tuple", data := .seq #[.none, .none] }
abbrev ha5 (T : String) (h : Heap) (l1 l2 : Addr) : Heap := (ha4 T h l1 l2).push { cls := .type "zip", data := .fields #[.none, .bool false, .bool true, .ref (ha1 T (ha1 T h l1) l2).objs.size, .ref (ha3 T h l1 l2).objs.size] }
theorem new_list (l1 l2 : Addr) (xs ys : Array Value) : Meets (Builtin.«zip.__new__» ⟨[.type "zip", .ref l1, .ref l2], kwS⟩) (fun _ R s => s.heap.IsList l1 xs ∧ s.heap.IsList l2 ys ∧ R (.ok (.ret (.ref (ha4 "list_iterator" s.heap l1 l2).objs.size))) { s with heap := ha5 "list_iterator" s.heap l1 l2 }) :=
  .of_wp fun prog w A R s h => by
    obtain ⟨hp, g, d, tk, os⟩ := s; obtain ⟨hl1, hl2, h⟩ := h
    have hsub := sub_zip
    have k1 : Heap.IsList (Shared.heap ⟨hp, g, d, tk, os⟩) l1 xs := hl1
    have k2 : Heap.IsList (Shared.heap ⟨ha1 "list_iterator" hp l1, g, d, tk, os⟩) l2 ys := Heap.IsList.push hl2 _
    wp_walk using wpAny_pyIter_list k1, wpAny_pyIter_list k2
    exact ⟨_, rfl, h⟩
theorem new_tup (l1 l2 : Addr) (xs ys : Array Value) : Meets (Builtin.«zip.__new__» ⟨[.type "zip", .ref l1, .ref l2], kwS⟩) (fun _ R s => s.heap.IsTuple l1 xs ∧ s.heap.IsTuple l2 ys ∧ R (.ok (.ret (.ref (ha4 "tuple_iterator" s.heap l1 l2).objs.size))) { s with heap := ha5 "tuple_iterator" s.heap l1 l2 }) :=
  .of_wp fun prog w A R s h => by
    obtain ⟨hp, g, d, tk, os⟩ := s; obtain ⟨hl1, hl2, h⟩ := h
    have hsub := sub_zip
    have k1 : Heap.IsTuple (Shared.heap ⟨hp, g, d, tk, os⟩) l1 xs := hl1
    have k2 : Heap.IsTuple (Shared.heap ⟨ha1 "tuple_iterator" hp l1, g, d, tk, os⟩) l2 ys := Heap.IsTuple.push hl2 _
    wp_walk using wpAny_pyIter_tuple k1, wpAny_pyIter_tuple k2
    exact ⟨_, rfl, h⟩
theorem laid (T : String) (h : Heap) (l1 l2 : Addr) : (ha4 T h l1 l2).objs.size = h.objs.size + 4 ∧ IsZs (ha5 T h l1 l2) (h.objs.size + 4) (h.objs.size + 2) (h.objs.size + 3) .none ∧ IsPair (ha5 T h l1 l2) (h.objs.size + 2) (.ref h.objs.size) (.ref (h.objs.size + 1)) ∧
    IsPair (ha5 T h l1 l2) (h.objs.size + 3) .none .none ∧ (ha5 T h l1 l2).get? h.objs.size = some { cls := .type T, data := .fields #[.ref l1, .int 0 0] } ∧ (ha5 T h l1 l2).get? (h.objs.size + 1) = some { cls := .type T, data := .fields #[.ref l2, .int 0 0] } ∧
    ∀ c o, h.get? c = some o → (ha5 T h l1 l2).get? c = some o := by
  have z1 : (ha1 T h l1).objs.size = h.objs.size + 1 := Heap.size_push ..
  have z2 : (ha1 T (ha1 T h l1) l2).objs.size = h.objs.size + 2 := by rw [Heap.size_push, z1]
  have z3 : (ha3 T h l1 l2).objs.size = h.objs.size + 3 := by rw [Heap.size_push, z2]
  have z4 : (ha4 T h l1 l2).objs.size = h.objs.size + 4 := by rw [Heap.size_push, z3]
  have up1 : ∀ c o, (ha1 T h l1).get? c = some o → (ha5 T h l1 l2).get? c = some o := fun c o e => Heap.get?_push_of_some _ (Heap.get?_push_of_some _ (Heap.get?_push_of_some _ (Heap.get?_push_of_some _ e)))
  have e5 : (ha5 T h l1 l2).get? (ha4 T h l1 l2).objs.size = some _ := Heap.get?_push_size _ rfl
  have e4 : (ha5 T h l1 l2).get? (ha3 T h l1 l2).objs.size = some _ := Heap.get?_push_of_some _ (Heap.get?_push_size _ rfl)
  have e3 : (ha5 T h l1 l2).get? (ha1 T (ha1 T h l1) l2).objs.size = some _ := Heap.get?_push_of_some _ (Heap.get?_push_of_some _ (Heap.get?_push_size _ rfl))
  have e2 : (ha5 T h l1 l2).get? (ha1 T h l1).objs.size = some _ := Heap.get?_push_of_some _ (Heap.get?_push_of_some _ (Heap.get?_push_of_some _ (Heap.get?_push_size _ rfl)))
  have e1 : (ha5 T h l1 l2).get? h.objs.size = some _ := up1 _ _ (Heap.get?_push_size _ rfl)
  refine ⟨z4, ?_, ?_, ?_, e1, ?_, fun c o e => up1 c o (Heap.get?_push_of_some _ e)⟩
  · rw [z4, z2, z3] at e5
    exact e5
  · rw [z2, z1] at e3
    exact e3
  · rw [z3] at e4
    exact e4
  · rw [z1] at e2
    exact e2
theorem check_call (a b : Value) : checkTypeCall "zip" ⟨[a, b], kwS⟩ = pure () := by kernel_rfl
theorem check_new (a b : Value) : checkBuiltinCall "zip.__new__" ⟨[.type "zip", a, b], kwS⟩ = pure () := by kernel_rfl
theorem init_args (obj a b : Value) : argsOk "object.__init__" ⟨[obj, a, b], kwS⟩ := by
  unfold argsOk; rw [signature?_of (id := "object.__init__") (n := ['_', '_', 't', 'i', 'n', 'i', '_', '_']) (o := ['t', 'c', 'e', 'j', 'b', 'o']) (by kernel_rfl) F.owner_object]; kernel_rfl
theorem init_meets (obj a b : Value) : Meets (Builtin.«object.__init__» ⟨obj :: [a, b], kwS⟩) fun _ R s => s.TypeIs obj "zip" ∧ R (.ok (.ret .none)) s := by
  refine Meets.of_wp fun prog w A R s hs => ?_
  obtain ⟨hT, hq⟩ := hs
  have h1 := F.called_zip.init.lookup
  have h2 := F.called_zip.made
  have h3 : (some "zip.__new__" != some "object.__new__") = true := by decide
  repeat (any_goals (first | assumption | wp_step))
  exact ⟨_, rfl, hq⟩
theorem src_list (it l : Addr) (xs : Array Value) (hn : l ≠ it) : Src it l (fun k => xs[k]?) (fun k h => h.IsListIter it l k ∧ h.IsList l xs) where
  more := fun ⟨h1, h2⟩ e q => wpAny_nextOf_list_item h1 h2 e fun h' a sb => q h' ⟨a, h2.extBut sb.extBut hn⟩ sb
  fin := fun hh ⟨h1, h2⟩ e q => wpAny_nextOf_list_end hh h1 h2 e q
  keep := fun ⟨h1, h2⟩ k => ⟨h1.at fun o e => k _ o (.inl rfl) e, h2.at fun o e => k _ o (.inr rfl) e⟩
  lt := fun ⟨⟨_, e, _⟩, _⟩ => Heap.lt_size e
theorem src_tup (it l : Addr) (xs : Array Value) (hn : l ≠ it) : Src it l (fun k => xs[k]?) (fun k h => h.IsTupleIter it l k ∧ h.IsTuple l xs) where
  more := fun ⟨h1, h2⟩ e q => RZ.nextOf_tuple_item h1 h2 e fun h' a sb => q h' ⟨a, h2.extBut sb.extBut hn⟩ sb
  fin := fun hh ⟨h1, h2⟩ e q => RZ.nextOf_tuple_end hh h1 h2 e q
  keep := fun ⟨h1, h2⟩ k => ⟨h1.at fun o e => k _ o (.inl rfl) e, h2.at fun o e => k _ o (.inr rfl) e⟩
  lt := fun ⟨⟨_, e, _⟩, _⟩ => Heap.lt_size e
theorem call_list {l1 l2 : Addr} {xs ys : Array Value} {Q : Value → Shared → Prop} (h1 : s.heap.IsList l1 xs) (h2 : s.heap.IsList l2 ys)
    (h : ∀ h', Made s.heap h' (fun it k h => h.IsListIter it l1 k ∧ h.IsList l1 xs) (fun it k h => h.IsListIter it l2 k ∧ h.IsList l2 ys) → Q (.ref (s.heap.objs.size + 4)) { s with heap := h' }) :
    wpAny (model prog w) A (call (.type "zip") [.ref l1, .ref l2] kwS) Q E s := by
  refine typ_kw F.called_zip (by decide) (check_call _ _) (check_new _ _) (fun obj => init_args obj _ _) F.entry_zip_new (new_list l1 l2 xs ys) (fun obj => init_meets obj _ _) ⟨h1, h2, ?_⟩
  obtain ⟨z4, a1, a2, a3, a4, a5, a6⟩ := laid "list_iterator" s.heap l1 l2
  show _ ∧ _
  rw [z4]
  exact ⟨⟨_, a1, rfl⟩, h _ ⟨a1, a2, a3, ⟨⟨_, a4, rfl, rfl⟩, h1.at fun o e => a6 _ o e⟩, ⟨⟨_, a5, rfl, rfl⟩, h2.at fun o e => a6 _ o e⟩, a6⟩⟩
theorem call_tup {l1 l2 : Addr} {xs ys : Array Value} {Q : Value → Shared → Prop} (h1 : s.heap.IsTuple l1 xs) (h2 : s.heap.IsTuple l2 ys)
    (h : ∀ h', Made s.heap h' (fun it k h => h.IsTupleIter it l1 k ∧ h.IsTuple l1 xs) (fun it k h => h.IsTupleIter it l2 k ∧ h.IsTuple l2 ys) → Q (.ref (s.heap.objs.size + 4)) { s with heap := h' }) :
    wpAny (model prog w) A (call (.type "zip") [.ref l1, .ref l2] kwS) Q E s := by
  refine typ_kw F.called_zip (by decide) (check_call _ _) (check_new _ _) (fun obj => init_args obj _ _) F.entry_zip_new (new_tup l1 l2 xs ys) (fun obj => init_meets obj _ _) ⟨h1, h2, ?_⟩
  obtain ⟨z4, a1, a2, a3, a4, a5, a6⟩ := laid "tuple_iterator" s.heap l1 l2
  show _ ∧ _
  rw [z4]
  exact ⟨⟨_, a1, rfl⟩, h _ ⟨a1, a2, a3, ⟨⟨_, a4, rfl, rfl⟩, h1.at fun o e => a6 _ o e⟩, ⟨⟨_, a5, rfl, rfl⟩, h2.at fun o e => a6 _ o e⟩, a6⟩⟩
end
end ZS
end T_DZ

section T_DZ2
set_option Elab.async false
set_option linter.all false
set_option maxRecDepth 100000
set_option maxHeartbeats 1000000
set_option autoImplicit false
/-! zip(a, b, strict=True) as what a for or a comprehension walks -/
namespace ZS
open PySem PySem.Spec L2
open PyProof.Rows hiding St
/-- one way of standing in the heap: lists, or tuples -/
structure Way where
  R : PySem.W.Frag → Hp → Addr → List V → Prop
  it : Heap → Addr → Addr → Nat → Prop
  sq : Heap → Addr → Array Value → Prop
  rd : ∀ {X : Cx} {pins : List (Addr × Obj)} {σ : L2.St} {H : Hp} {s : Shared} {a : Addr} {xs : List V}, Inv X pins σ H s → R X.K H a xs → ∃ its : List Value, Vals xs its ∧ sq s.heap a its.toArray
  inj : ∀ {X : Cx} {pins : List (Addr × Obj)} {σ : L2.St} {H : Hp} {s : Shared} {a : Addr} {xs ys : List V}, Inv X pins σ H s → R X.K H a xs → R X.K H a ys → xs = ys
  src : ∀ (it' l : Addr) (xs : Array Value), l ≠ it' → Src it' l (fun k => xs[k]?) (fun k h => it h it' l k ∧ sq h l xs)
  ob : ∀ {h : Heap} {i l : Addr} {k : Nat}, it h i l k → ∃ o, h.get? i = some o ∧ ∀ v, o.data ≠ .cell v
  ik : ∀ {h h' : Heap} {i l : Addr} {k : Nat}, it h i l k → (∀ o, h.get? i = some o → h'.get? i = some o) → it h' i l k
  sl : ∀ {h : Heap} {a : Addr} {xs : Array Value}, sq h a xs → a < h.objs.size
  call : ∀ {prog : Program} {w : World} {A : Around} {E : Value → Shared → Prop} {s : Shared} {l1 l2 : Addr} {xs ys : Array Value} {Q : Value → Shared → Prop}, sq s.heap l1 xs → sq s.heap l2 ys →
    (∀ h', Made s.heap h' (fun it' k h => it h it' l1 k ∧ sq h l1 xs) (fun it' k h => it h it' l2 k ∧ sq h l2 ys) → Q (.ref (s.heap.objs.size + 4)) { s with heap := h' }) → wpAny (model prog w) A (call (.type "zip") [.ref l1, .ref l2] kwS) Q E s
def wayL : Way where
  R := SqL
  it := fun h i l k => h.IsListIter i l k
  sq := fun h a xs => h.IsList a xs
  rd := fun I h => let ⟨its, r, p, _⟩ := I.list h; ⟨its, r, p.isList⟩
  inj := fun I h h' => I.list_inj h h'
  src := src_list
  ob := fun ⟨o, e, _, d⟩ => ⟨o, e, fun v q => by rw [d] at q; cases q⟩
  ik := fun h k => h.at fun o e => k o e
  sl := fun ⟨_, e, _⟩ => Heap.lt_size e
  call := call_list
def wayT : Way where
  R := SqT
  it := fun h i l k => h.IsTupleIter i l k
  sq := fun h a xs => h.IsTuple a xs
  rd := fun I h => let ⟨its, r, p, _⟩ := I.tuple h; ⟨its, r, p⟩
  inj := fun I h h' => I.tuple_inj h h'
  src := src_tup
  ob := fun ⟨o, e, _, d⟩ => ⟨o, e, fun v q => by rw [d] at q; cases q⟩
  ik := fun h k => h.at fun o e => k o e
  sl := fun ⟨_, e, _⟩ => Heap.lt_size e
  call := call_tup
/-- what it hands out -/
def Its (W : Way) (K : PySem.W.Frag) (a b : Addr) : It :=
  ⟨fun i H => ∃ (xs ys : List V) (x y : V), W.R K H a xs ∧ W.R K H b ys ∧ xs[i]? = some x ∧ ys[i]? = some y,
    fun i H v H' => ∃ T x y, v = .ref T ∧ H T = none ∧ H' = upd H T (.tup [x, y]) ∧ (∀ xs, W.R K H a xs → xs[i]? = some x) ∧ ∀ ys, W.R K H b ys → ys[i]? = some y,
    fun i H => ∃ xs ys : List V, W.R K H a xs ∧ W.R K H b ys ∧ xs.length ≤ i ∧ ys.length ≤ i⟩
theorem turn_zs (W : Way) {P : Program} {w : World} {K : PySem.W.Frag} {elts : List Expr} {kk : Nat} {tpos : Pos} {a b z TI TO i1 i2 : Addr} (D : Apart z TI TO i1 i2 a b) :
    Turn P w K (.Tuple elts kk tpos) (Its W K a b) [z, TI, TO, i1, i2] z (fun i h => IsZs h z TI TO .none ∧ IsPair h TI (.ref i1) (.ref i2) ∧ (∃ x y, IsPair h TO x y) ∧ W.it h i1 a i ∧ W.it h i2 b i) where
  mem := by simp
  obj := fun i h ⟨hz, hTI, ⟨x, y, hTO⟩, h1, h2⟩ c hc => by
    simp only [List.mem_cons, List.not_mem_nil, or_false] at hc
    rcases hc with rfl | rfl | rfl | rfl | rfl
    · exact ⟨_, hz, fun v q => nomatch q⟩
    · exact ⟨_, hTI, fun v q => nomatch q⟩
    · exact ⟨_, hTO, fun v q => nomatch q⟩
    · exact W.ob h1
    · exact W.ob h2
  keep := fun i h h' ⟨hz, hTI, ⟨x, y, hTO⟩, h1, h2⟩ k =>
    ⟨k z (by simp) _ hz, k TI (by simp) _ hTI, ⟨x, y, k TO (by simp) _ hTO⟩, W.ik h1 fun o q => k i1 (by simp) o q, W.ik h2 fun o q => k i2 (by simp) o q⟩
  item := by
    intro X hP hw hK hc i pins s σ H E I hf ⟨hz, hTI, ⟨x0, y0, hTO⟩, h1, h2⟩ ⟨xs, ys, x, y, hqx, hqy, hx, hy⟩
    subst hP hw hK
    obtain ⟨its, rv, p⟩ := W.rd I hqx
    obtain ⟨its2, rv2, p2⟩ := W.rd I hqy
    obtain ⟨u, hu, ru⟩ := rv.get hx
    obtain ⟨u2, hu2, ru2⟩ := rv2.get hy
    have hzl : z < s.heap.objs.size := Heap.lt_size hz
    have nd := D.nd
    simp only [List.nodup_cons, List.mem_cons, List.not_mem_nil, or_false, not_or] at nd
    have oa := D.out a (.inl rfl)
    have ob := D.out b (.inr rfl)
    simp only [List.mem_cons, List.not_mem_nil, or_false, not_or] at oa ob
    refine next_more (W.src i1 a its.toArray oa.2.2.2.1) (W.src i2 b its2.toArray ob.2.2.2.2) D hz hTI hTO ⟨h1, p⟩ ⟨h2, p2⟩ (x := u) (y := u2) (by simpa using hu) (by simpa using hu2) fun h' z' TO' ⟨h1', _⟩ ⟨h2', _⟩ hT hsz hk => ?_
    refine ⟨_, rfl, go_zs (s := { s with heap := h' }) z' fun h'' z'' sb => ?_⟩
    have kz : ∀ c o, c ≠ z → h'.get? c = some o → h''.get? c = some o := fun c o n e => sb.extBut _ _ n e
    have hT2 := kz _ _ (Nat.ne_of_gt hzl) hT
    have new : ObjOk X.prog X.w (upd H s.heap.objs.size (.tup [x, y])) h'' s.heap.objs.size (.tup [x, y]) := ⟨by show 2 ≤ sizeLine; decide, [u, u2], .cons ru (.cons ru2 .nil), ⟨_, hT2, rfl, _, rfl⟩⟩
    have I1 : Inv X pins σ (upd H s.heap.objs.size (.tup [x, y])) { s with heap := h'' } :=
      I.turnedNew (t' := s.toks) (ch := [z, TI, TO, i1, i2]) (fun c o hb q => kz c o (fun q' => hb (by simp [q'])) (hk c o (fun m => hb (by
        simp only [List.mem_cons, List.not_mem_nil, or_false] at m
        rcases m with r | r | r | r <;> simp [r])) q)) hf (Nat.le_refl _) new
    refine ⟨.ref s.heap.objs.size, _, I1, rfl, ⟨_, x, y, rfl, I.hok.fresh (Nat.le_refl _), rfl, fun l hl => by rw [W.inj I hl hqx]; exact hx, fun l hl => by rw [W.inj I hl hqy]; exact hy⟩, ⟨z'', ?_, ⟨u, u2, ?_⟩, ?_, ?_⟩, fun c hcm => ?_⟩
    · exact kz _ _ (Ne.symm nd.1.1) (hk _ _ (by simp only [List.mem_cons, List.not_mem_nil, or_false, not_or]; exact ⟨Ne.symm nd.1.1, nd.2.1.1, nd.2.1.2.1, nd.2.1.2.2⟩) hTI)
    · exact kz _ _ (Ne.symm nd.1.2.1) TO'
    · exact W.ik h1' fun o q => kz _ o (Ne.symm nd.1.2.2.1) q
    · exact W.ik h2' fun o q => kz _ o (Ne.symm nd.1.2.2.2) q
    · have hlt : c < s.heap.objs.size := by
        simp only [List.mem_cons, List.not_mem_nil, or_false] at hcm
        rcases hcm with q | q | q | q | q <;> rw [q]
        · exact hzl
        · exact Heap.lt_size hTI
        · exact Heap.lt_size hTO
        · exact let ⟨_, e, _⟩ := W.ob h1; Heap.lt_size e
        · exact let ⟨_, e, _⟩ := W.ob h2; Heap.lt_size e
      rw [upd_ne (Nat.ne_of_lt hlt)]
      exact (hf c hcm).1
  done := by
    intro X hP hw hK hc i pins s σ H E I hf ⟨hz, hTI, ⟨x0, y0, hTO⟩, h1, h2⟩ ⟨xs, ys, hqx, hqy, e1, e2⟩
    subst hP hw hK
    obtain ⟨its, rv, p⟩ := W.rd I hqx
    obtain ⟨its2, rv2, p2⟩ := W.rd I hqy
    have l1 := rv.length
    have l2 := rv2.length
    have oa := D.out a (.inl rfl)
    have ob := D.out b (.inr rfl)
    simp only [List.mem_cons, List.not_mem_nil, or_false, not_or] at oa ob
    refine next_end (W.src i1 a its.toArray oa.2.2.2.1) (W.src i2 b its2.toArray ob.2.2.2.2) (I.ok.hd hc) D hz hTI hTO ⟨h1, p⟩ ⟨h2, p2⟩ (by simp; omega) (by simp; omega) fun h' hk => ⟨rfl, I.turnedL (t' := s.toks) (ch := [z, TI, TO, i1, i2]) (fun c o hb q => hk c o (fun m => hb (by
      simp only [List.mem_cons, List.not_mem_nil, or_false] at m
      rcases m with r | r | r | r <;> simp [r])) q) hf⟩
  self := fun A i s Q E st h => iter_zs st.1 h
theorem apart_new (n a b : Addr) (h1 : a < n) (h2 : b < n) : Apart (n + 4) (n + 2) (n + 3) n (n + 1) a b := by
  have add : ∀ k : Nat, k ≠ 0 → n + k ≠ n := fun k hk e => hk (by have := Nat.add_left_cancel (e.trans (Nat.add_zero n).symm); exact this)
  refine ⟨?_, fun c hc m => ?_⟩
  · simp only [List.nodup_cons, List.mem_cons, List.not_mem_nil, or_false, not_or, List.nodup_nil, and_true, not_false_eq_true]
    have u : ∀ i j : Nat, i ≠ j → ¬ (n + i = n + j) := fun i j hij e => hij (Nat.add_left_cancel e)
    exact ⟨⟨u 4 2 (by decide), u 4 3 (by decide), add 4 (by decide), u 4 1 (by decide)⟩, ⟨u 2 3 (by decide), add 2 (by decide), u 2 1 (by decide)⟩, ⟨add 3 (by decide), u 3 1 (by decide)⟩, fun e => add 1 (by decide) e.symm⟩
  · have hlt : c < n := by rcases hc with rfl | rfl <;> assumption
    simp only [List.mem_cons, List.not_mem_nil, or_false] at m
    have le : ∀ k : Nat, n ≤ n + k := fun k => Nat.le_add_right _ _
    rcases m with r | r | r | r | r
    · exact absurd (Nat.lt_of_lt_of_le hlt (le 4)) (by rw [r]; exact Nat.lt_irrefl _)
    · exact absurd (Nat.lt_of_lt_of_le hlt (le 2)) (by rw [r]; exact Nat.lt_irrefl _)
    · exact absurd (Nat.lt_of_lt_of_le hlt (le 3)) (by rw [r]; exact Nat.lt_irrefl _)
    · exact absurd hlt (by rw [r]; exact Nat.lt_irrefl _)
    · exact absurd (Nat.lt_of_lt_of_le hlt (le 1)) (by rw [r]; exact Nat.lt_irrefl _)
/-- for .. in zip(a, b, strict=True) -/
def iZs (W : Way) (K : PySem.W.Frag) (ta : TA) : TI := fun σ H R => ta σ H fun vs H1 => ∃ a b xs ys, vs = [.ref a, .ref b] ∧ W.R K H1 a xs ∧ W.R K H1 b ys ∧ R (Its W K a b) H1
theorem pi_zs (W : Way) {X : Cx} {e e2 : Expr} {ta : TA} {p pos tpos q1 q2 : Pos} {elts : List Expr} {kk k2 : Nat} (hg : Gl X "zip") (hm : X.mg "zip" = none) (ha : PA X [e, e2] ta)
    (hs : starEach [e, e2] X.env = (false, eval e X.env) :: starEach [e2] X.env := by rfl) (hs2 : starEach [e2] X.env = (false, eval e2 X.env) :: starEach [] X.env := by rfl)
    (hp : ((backTo pos (starEach [e, e2] X.env)).any (·.1) || (backToKw pos (keywordEach [⟨some "strict", .Constant (.bool true) k2 q1, q2⟩] X.env)).any (·.1.isNone)) = false := by rfl) :
    PI X (.Tuple elts kk tpos) (.Call (.Name "zip" p) [e, e2] [⟨some "strict", .Constant (.bool true) k2 q1, q2⟩] pos) (iZs W X.K ta) := by
  refine ⟨fun pins s σ H R I h => ?_⟩
  refine wpAny_Call_Name_kw (ld_blt I hg hm PyProof.Rows.boot_zip ?_)
  refine PySem.W.callWith_of (P := fun _ => True) hp (fun _ _ => ⟨.machine, .inr (.inl rfl), PySem.W.Looks.of_pure (by rfl)⟩) (PyProof.Rows.evalArgs_kw2 (by rfl) (thn (ha.run pos pins s σ H _ I h) fun us s1 ⟨vs, H1, I1, r1, a, b, xs, ys, ex, hqx, hqy, q⟩ => ?_) hs)
  refine thn ((pk_cons (X := X) (pe_bl (b := true)) pk_nil).run pos pins s1 σ H1 (fun ws H2 => ws = [.bl true] ∧ H2 = H1) I1 ⟨rfl, rfl⟩) fun ks s2 ⟨ws, H2, I2, r2, ew, eH⟩ => ⟨trivial, ?_⟩
  subst ew eH ex
  cases r1 with
  | cons ra rr =>
    cases rr with
    | cons rb rr =>
      cases rr
      cases r2 with
      | cons rk rr =>
        cases rr
        cases ra
        cases rb
        obtain rfl := (show _ = Value.bool true from rk)
        obtain ⟨its, rv, p1⟩ := W.rd I2 hqx
        obtain ⟨its2, rv2, p2⟩ := W.rd I2 hqy
        refine W.call p1 p2 fun h' M => iter_zs M.z ?_
        have I3 : Inv X pins σ H2 { s2 with heap := h' } := I2.kept (t' := s2.toks) M.keep
        refine ⟨s2.heap.objs.size + 4, [s2.heap.objs.size + 4, s2.heap.objs.size + 2, s2.heap.objs.size + 3, s2.heap.objs.size, s2.heap.objs.size + 1], _, _, H2, rfl, I3, turn_zs W (apart_new _ _ _ (W.sl p1) (W.sl p2)), ⟨M.z, M.TI, ⟨_, _, M.TO⟩, M.i1.1, M.i2.1⟩, fun c hc => ?_, q⟩
        have hle : s2.heap.objs.size ≤ c := by
          simp only [List.mem_cons, List.not_mem_nil, or_false] at hc
          rcases hc with r | r | r | r | r <;> rw [r] <;> first | exact Nat.le_refl _ | exact Nat.le_add_right _ _
        exact I2.fpOk hle (I2.hok.fresh hle)
end ZS
end T_DZ2

section T_DX1
set_option Elab.async false
set_option linter.all false
set_option maxRecDepth 100000
set_option maxHeartbeats 2000000
set_option autoImplicit false
/-! an own error whose __init__ says super().__init__(x); self.x = x: made, with what it holds -/
namespace XS
open PySem PySem.W PySem.Calls PyProof.Rows PySem.HandSPX
def iA (f : Str) (p1 p2 : Pos) : Arguments := { posonlyargs := [], args := [{ arg := "self", annotation := none, pos := p1 }, { arg := f, annotation := none, pos := p2 }], vararg := none, kwonlyargs := [], kw_defaults := [], kwarg := none, defaults := [] }
def iB (f : Str) (q1 q2 q3 q4 q5 q6 r1 r2 r3 r4 : Pos) : List Stmt :=
  [.Expr (.Call (.Attribute (.Call (.Name "super" q1) [] [] q2) "__init__" q3) [.Name f q4] [] q5) q6, .Assign [.Attribute (.Name "self" r1) f r2] (.Name f r3) r4]
def iS (f : Str) : Scope := { kind := .function, names := [(PySem.Str.ofString "self", .local), (f, .local), (PySem.Str.ofString "__class__", .free), (PySem.Str.ofString "super", .globalImplicit)], isGenerator := false, isCoroutine := false, more := [] }
/-- the class at C, its __init__ at fI, the field f -/
structure ExT (P : Program) (K : Frag) (C fI : Addr) (f : Str) : Prop where
  cls : ∃ nm q N bs bm sn sub ab col dd k0 k1 k2 k3 k5, K.lookup C = some (excClassObj nm q C N bs bm true sn sub ab col dd k0 k1 k2 k3 k5 "ValueError.__new__") ∧ refsVE bm = true
  sa : findIn K (.ref C) "__setattr__" = some (some (.builtin "object.__setattr__"))
  noN : findIn K (.ref C) f = some none
  iC : findIn K (.ref C) "__init__" = some (some (.ref fI))
  tC : typeIn K (.ref fI) = some (.type "function")
  sup : ks_superIn K C C "__init__" = some (some (.builtin "ValueError.__init__"))
  sVE : subIn K (.ref C) (.type "ValueError") = some true
  sCC : mroIn K C (.ref C) = some true
  thp : nsIn K cStatics "thirdparty.any" = some none
  spr : nsIn K mainGlobals "super" = some none
  top : (P.main.scope.names.lookup (PySem.Str.ofString "super")).isSome = false
  fn : ∃ (oc : Value) (od : Option Addr) (doc pm : Value) (an : Option Addr) (cda cc : Addr) (ct : Value) (osl : Array (Option Value)) (qn : Str) (p1 p2 q1 q2 q3 q4 q5 q6 r1 r2 r3 r4 : Pos),
    K.lookup fI = some ⟨oc, od, .func (ksFn "__init__" qn (iA f p1 p2) (iB f q1 q2 q3 q4 q5 q6 r1 r2 r3 r4) (iS f) .none .none doc pm an (.ref cda) ct cc), osl⟩ ∧ codeIn K (.ref cda) qn = true ∧
    (∃ ccl cdd vs ccs file tf, K.lookup cda = some ⟨ccl, cdd, .fields vs, ccs⟩ ∧ vs[2]? = some (.str file tf) ∧ ((P.main.file : Str) == file) = true) ∧ (q3.endLine == q5.line) = true ∧ ∃ cl cld csl, K.lookup cc = some ⟨cl, cld, .cell (some (.ref C)), csl⟩
/-- what a written field's name is asked -/
structure FldOk (f : Str) : Prop where
  bnd : ∀ (qn : Str) (p1 p2 q1 q2 q3 q4 q5 q6 r1 r2 r3 r4 : Pos) (doc pm cdv ct a b : Value) (an : Option Addr) (cc : Addr),
    bindArgs (ksFn "__init__" qn (iA f p1 p2) (iB f q1 q2 q3 q4 q5 q6 r1 r2 r3 r4) (iS f) .none .none doc pm an cdv ct cc) ⟨[a, b], []⟩ = pure [(PySem.Str.ofString "self", a), (f, b)]
  kf : (iS f).names.lookup f = some .local
  ks : (iS f).names.lookup (PySem.Str.ofString "super") = some .globalImplicit
  kc : (iS f).names.lookup (PySem.Str.ofString "__class__") = some .free
  kn : ∀ y ∈ (iS f).names, y.2 ≠ .cell
  lf : ∀ a b : Value, ([(PySem.Str.ofString "self", a), (f, b)] : List (Str × Value)).reverse.lookup f = some b
  ls : ∀ a b : Value, ([(PySem.Str.ofString "self", a), (f, b)] : List (Str × Value)).reverse.lookup (PySem.Str.ofString "self") = some a
  db : (f == (PySem.Str.ofString "__debug__")) = false
  sw : ∀ (r3 : Pos) (l : Nat) (e : Env) (o : Option Expr), swapsWith (.Name f r3) o l e = pure false
structure InitEnd (h h' : Heap) (x C dx t1 : Addr) (f : Str) (v : Value) : Prop where
  keep : ∀ b o, b ≠ x → h.get? b = some o → h'.get? b = some o
  obj : h'.get? x = some { cls := .ref C, dict := some dx, data := .fields #[.ref t1, .none, .none, .none, .bool false, .none] }
  dbig : h.objs.size ≤ dx
  dne : dx ≠ x
  ns : h'.Ns1 dx (fun y => if y = f then some v else none)
section
variable {prog : Program} {w : World} {A : Around} {E : Value → Shared → Prop} {R : Result → Shared → Prop} {s : Shared} {K : Frag} {mg : Str → Option Value} {C fI : Addr} {f : Str}
/-- ValueError.__init__ bound to x, called with one value -/
theorem call_bound {nm q : Str} {N : Addr} {bs bm : List Value} {sn : List Str} {sub : List Value} {ab : Bool} {col : Option Bool} {dd : Option Addr} {k0 k1 k2 k3 k5 : Option Value} {u x t0 : Addr} {v : Value} {Q : Value → Shared → Prop}
    (hu : s.heap.get? u = some (kxs_mw "ValueError.__init__" x)) (hC : s.heap.get? C = some (excClassObj nm q C N bs bm true sn sub ab col dd k0 k1 k2 k3 k5 "ValueError.__new__")) (he : s.heap.get? x = some (excO C t0))
    (hq : ∀ h', (∀ b o, b ≠ x → s.heap.get? b = some o → h'.get? b = some o) → h'.get? x = some (excO C s.heap.objs.size) → Q .none { s with heap := h' }) : wpAny (model prog w) A (call (.ref u) [v]) Q E s := by
  have FB := PySem.F.excBase_ValueError
  obtain ⟨hh, g, d, tk, os⟩ := s
  refine wpAny_call (codeAny_of_tree ?_)
  show wpAny _ A.in1 (callAny (.ref u) ⟨[v], []⟩) _ _ _
  simp only [callAny]
  refine wpAny_bind (wpAny_load hu ?_)
  simp only [kxs_mw, show (Value.type "method-wrapper" == Value.type "method" || Value.type "method-wrapper" == Value.type "builtin_function_or_method" || Value.type "method-wrapper" == Value.type "method-wrapper") = true by decide, if_true]
  refine KFB.if_so (by decide) ?_
  refine wpAny_bind (check_bound_init FB.toExcCallFacts hC he rfl (wpAny_bind (wpAny_pure (wpAny_pure ⟨plainId_quiet FB.init.plain _, codeAny_builtin FB.initEntry ?_⟩))))
  exact exc_init_tree (cls := .ref C) (t0 := t0) (dv := none) (c2 := .none) (c3 := .none) (b4 := .bool false) he (by show 1 ≤ sizeLine; rw [sizeLine_eq]; decide) fun h' k e _ => hq h' k e
theorem he_line {o : Expr} {m : Str} {apos pos : Pos} {env : Env} {a : Expr} (hl : (apos.endLine == pos.line) = true) (hs : starEach [a] env = [(false, eval a env)] := by rfl) :
    eval (.Call (.Attribute o m apos) [a] [] pos) env = (do
      let ov ← attributeBase o m env (eval o env)
      standAt apos.atName
      let (f, first) ← holding [ov] (getMethod ov m (L2.plainOf o env))
      callWith pos f first (backTo pos (starEach [a] env)) []) := by
  have hf : methodCallForm ([a].length + ([] : List Keyword).length) (backTo pos (starEach [a] env)) (backToKw pos (keywordEach [] env)) = true := by rw [hs]; rfl
  have e : ∀ ov, methodCall o m apos pos env ov ([a].length + ([] : List Keyword).length) (backTo pos (starEach [a] env)) (backToKw pos (keywordEach [] env)) = (do
      let (f, first) ← holding [ov] (getMethod ov m (L2.plainOf o env))
      callWith pos f first (backTo pos (starEach [a] env)) []) := fun ov => L2.mcall_line hf hl
  rw [arm_eval_Call]
  show (attributeBase o m env (eval o env) >>= fun ov => standAt apos.atName >>= fun _ => methodCall o m apos pos env ov ([a].length + ([] : List Keyword).length) (backTo pos (starEach [a] env)) (backToKw pos (keywordEach [] env))) = _
  simp only [e]
theorem init_run {x t0 : Addr} {v : Value} (T : ExT prog K C fI f) (hf : FldOk f) (X : K.In s.heap) (lim : s.heap.NoLimit) (glob : s.heap.Ns mainGlobals mg) (blt : ∃ mb, s.heap.Ns builtinsNs mb ∧ mb (PySem.Str.ofString "super") = some (.type "super")) (hsup : mg (PySem.Str.ofString "super") = none)
    (hx : s.heap.get? x = some (excO C t0)) (hnx : K.lookup x = none) (room : A.depth < recursionLimit)
    (hq : ∀ h' tk dx t1, InitEnd s.heap h' x C dx t1 f v → R (.ok (.ret .none)) { s with heap := h', toks := tk }) : codeAny (model prog w) A (.call (.ref fI) ⟨[.ref x, v], []⟩) R s := by
  obtain ⟨oc, od, doc, pm, an, cda, cc, ct, osl, qn, p1, p2, q1, q2, q3, q4, q5, q6, r1, r2, r3, r4, ho, hcd, ⟨ccl, cdd, vs, ccs, file, tf, hcda, hvs, hfile⟩, hline, cl, cld, csl, hcc⟩ := T.fn
  obtain ⟨nm, q, N, bs, bm, sn, sub, ab, col, dd, k0, k1, k2, k3, k5, hC, hbm⟩ := T.cls
  have hcl : clsIn K C = some { name := nm, bases := bs, mro := .ref C :: bm, ns := N, qualname := q, hasDict := true, slotNames := sn, subclasses := sub, abstract := ab, collection := col, hasDel := false } := by unfold clsIn; rw [hC] <;> rfl
  have bnd : BindsTo s (ksFn "__init__" qn (iA f p1 p2) (iB f q1 q2 q3 q4 q5 q6 r1 r2 r3 r4) (iS f) .none .none doc pm an (.ref cda) ct cc) ⟨[.ref x, v], []⟩ [(PySem.Str.ofString "self", .ref x), (f, v)] := BindsTo.of_eq (hf.bnd ..)
  refine ks_codeAny_call_defAt (fd := ksFn "__init__" qn (iA f p1 p2) (iB f q1 q2 q3 q4 q5 q6 r1 r2 r3 r4) (iS f) .none .none doc pm an (.ref cda) ct cc) (body := iB f q1 q2 q3 q4 q5 q6 r1 r2 r3 r4) room (X _ _ ho) rfl lim (codeRec_of X hcd) rfl bnd hf.kn (fun y hy => ?_) (fun h₁ hn k => ?_) rfl rfl rfl
  · simp only [List.mem_cons, List.not_mem_nil, or_false] at hy
    rcases hy with r | r <;> rw [r]
    · rfl
    · exact hf.kf
  have X1 : K.In h₁ := X.keeps k
  have hx1 := k _ _ hx
  have hLx : s.heap.objs.size ≠ x := Nat.ne_of_gt (Heap.lt_size hx)
  have hself := hf.ls (.ref x) v
  have hfld := hf.lf (.ref x) v
  have hne : x ≠ C := fun e => by rw [e, hC] at hnx; cases hnx
  have hCx := X1 _ _ hC
  -- super().__init__(v)
  refine ks_wpAt_execs_cons (ks_wpAt_Expr_any (ks_wpAt_MethodCall (pl := L2.plainOf (.Call (.Name "super" q1) [] [] q2) (callEnv (ksFn "__init__" qn (iA f p1 p2) (iB f q1 q2 q3 q4 q5 q6 r1 r2 r3 r4) (iS f) .none .none doc pm an (.ref cda) ct cc) s.heap.objs.size fI)) (ks_wpAt_super_base (cc := cda) (f := fI) hf.ks hf.kc (by decide) rfl (X1 _ _ ho) rfl (ar := { arg := "self", annotation := none, pos := p1 }) rfl rfl (X1 _ _ hcda) rfl hvs hfile T.top ?_) (he_line hline)) (hi := ?_) ?_)
  · refine ks_loadName_global rfl hf.ks ?_
    obtain ⟨mb, hb1, hb2⟩ := blt
    refine loadGlobal_builtin (env := callEnv (ksFn "__init__" qn (iA f p1 p2) (iB f q1 q2 q3 q4 q5 q6 r1 r2 r3 r4) (iS f) .none .none doc pm an (.ref cda) ct cc) s.heap.objs.size fI) (glob.keeps k) hsup (hb1.keeps k) hb2 ⟨rfl, ?_⟩
    refine wpAny_loadName_free rfl hf.kc rfl ⟨_, X1 _ _ hcc, rfl⟩ ?_
    refine wpAny_loadName_local rfl rfl hn hself ?_
    refine ks_wpAny_isType_cls hCx rfl ⟨rfl, ?_⟩
    refine ks_wpAny_call_super hCx rfl hx1 rfl (fun c e => by cases e) (looks_mroIn X1 T.sCC) (fun h₂ e₂ k₂ => ?_)
    have hI : Looks (model prog w) h₂ (isInstance (.ref x) (.type "ValueError")) true := (InstAt.type (ox := excO C t0) (C := C) (od := none) ⟨k₂ _ _ hx1, rfl, rfl, trivial⟩).andThen (looks_subIn (X1.keeps k₂) T.sVE)
    have hm := T.sup
    unfold ks_superIn at hm
    rw [hcl] at hm
    refine kxs_getMethod kxs_ValueError e₂ (looks_opaque (X1.keeps k₂) T.thp) (l₀ := .ref C :: bm) (fun A Q E s k q => wpAny_bind ((looks_clsIn (X1.keeps k₂) hcl) A _ E s k (wpAny_pure q))) rfl (X1.keeps k₂) hm hI hne (by decide) ?_
    refine kxs_callWith (i := "ValueError.__init__") (x := x) rfl ?_
    refine evalArgs_plain ?_
    refine Calls.spliced_cons ?_
    have k₃ : ∀ b o, h₁.get? b = some o → (h₂.push (kxs_mw "ValueError.__init__" x)).get? b = some o := fun b o e => Heap.get?_push_of_some _ (k₂ b o e)
    refine wpAny_Name (wpAny_loadName_local rfl hf.kf (hn.keeps k₃) hfld ?_) hf.db
    refine Calls.spliced_nil ?_
    have hu : (h₂.push (kxs_mw "ValueError.__init__" x)).get? h₂.objs.size = some (kxs_mw "ValueError.__init__" x) := Heap.get?_push_at rfl rfl
    refine ⟨hu, call_bound (s := ⟨h₂.push (kxs_mw "ValueError.__init__" x), _, _, _, _⟩) hu (k₃ _ _ hCx) (k₃ _ _ hx1) fun h' k' hx' => ?_⟩
    have n1 : h₁.get? s.heap.objs.size ≠ none := by
      obtain ⟨oL, es, ep, hL, r⟩ := hn
      rw [hL]; exact fun e => by cases e
    have hn' : h'.Ns s.heap.objs.size (fun y => List.lookup y [(PySem.Str.ofString "self", Value.ref x), (f, v)].reverse) := by
      obtain ⟨oL, es, ep, hL, r⟩ := hn
      exact ⟨oL, es, ep, k' _ _ hLx (k₃ _ _ hL), r⟩
    have X' : K.In h' := fun a o e => k' a o (fun z => by rw [z, hnx] at e; cases e) (k₃ _ _ (X1 a o e))
    refine ks_wpAt_execs_cons (wpAt_of_wpAny (plainObj_wpAny_Assign_Attribute ?_ (hs := hf.sw ..)))
    refine wpAny_Name (wpAny_loadName_local rfl hf.kf hn' hfld ?_) hf.db
    refine wpAny_Name (wpAny_loadName_local rfl rfl hn' hself ?_) (by decide)
    refine set_plain X' (ox := excO C _) (od := none) ⟨hx', rfl, rfl, trivial⟩ T.sa ?_
    refine exc_osa X' hx' hcl (show refsVE (.ref C :: bm) = true from hbm) rfl T.noN (fun h₃ tk₃ dx k₄ dn dne hx₃ hn₃ => ?_)
    show PySem.wpAt _ _ _ (execs _ _) _ _ _
    refine wpAt_of_wpAny (wpAny_execs_nil ?_)
    have zL : s.heap.objs.size < h'.objs.size := hn'.lt
    exact hq h₃ tk₃ dx _ ⟨fun b o hb e => k₄ b o hb (k' b o hb (k₃ b o (k b o e))), hx₃, Nat.le_of_lt (Nat.lt_of_lt_of_le zL dn), dne, hn₃⟩
  all_goals first | rfl | with_unfolding_all rfl | skip
/-- a made error of the class at C, its field f -/
structure OwnMade (h h' : Heap) (e C d : Addr) (f : Str) (v : Value) : Prop where
  keep : ∀ b o, h.get? b = some o → h'.get? b = some o
  new : h.objs.size ≤ e
  obj : ∃ oe vs, h'.get? e = some oe ∧ oe.cls = .ref C ∧ oe.dict = some d ∧ oe.data = .fields vs ∧ vs[1]? = some .none
  dbig : h.objs.size ≤ d
  dne : d ≠ e
  ns : h'.Ns1 d (fun y => if y = f then some v else none)
theorem one_size (v : Value) : [v].length ≤ sizeLine := by
  rw [sizeLine_eq]
  exact (by decide : 1 ≤ 16777216)
theorem ext_made {v : Value} (T : ExT prog K C fI f) (hf : FldOk f) (X : K.In s.heap) (lim : s.heap.NoLimit) (glob : s.heap.Ns mainGlobals mg) (blt : ∃ mb, s.heap.Ns builtinsNs mb ∧ mb (PySem.Str.ofString "super") = some (.type "super")) (hsup : mg (PySem.Str.ofString "super") = none)
    (room : A.depth + 1 < recursionLimit) (hq : ∀ h' tk e d, OwnMade s.heap h' e C d f v → R (.ok (.ret (.ref e))) { s with heap := h', toks := tk }) :
    codeAny (model prog w) A (.call (.ref C) ⟨[v], []⟩) R s := by
  obtain ⟨nm, q, N, bs, bm, sn, sub, ab, col, dd, k0, k1, k2, k3, k5, hC, hbm⟩ := T.cls
  obtain ⟨hp, g, dr, tk, os⟩ := s
  have k : ∀ b o, hp.get? b = some o → ((hp.push (kdv_tup [v])).push (excO C hp.objs.size)).get? b = some o := fun b o e => Heap.get?_push_of_some _ (Heap.get?_push_of_some _ e)
  have hget : ((hp.push (kdv_tup [v])).push (excO C hp.objs.size)).get? (hp.objs.size + 1) = some (excO C hp.objs.size) := by heap_get
  have hnx : K.lookup (hp.objs.size + 1) = none := by
    cases e : K.lookup (hp.objs.size + 1) with
    | none => rfl
    | some o =>
      have z : hp.get? (hp.objs.size + 1) = some o := X _ _ e
      exact absurd (Nat.lt_of_succ_lt (Heap.lt_size z)) (Nat.lt_irrefl _)
  refine call_own F.excBase_ValueError (fun X => refsVE_contains X bm hbm) (X _ _ hC) (looks_findIn X T.iC) (fun self => bind_fn X self T.tC) (one_size v) ?_
  refine init_run (s := ⟨(hp.push (kdv_tup [v])).push (excO C hp.objs.size), g, dr, tk, os⟩) T hf (X.keeps k) (lim.keeps k) (glob.keeps k) (by obtain ⟨mb, b1, b2⟩ := blt; exact ⟨mb, b1.keeps k, b2⟩) hsup hget hnx ?_ fun h' tk' dx t1 ⟨k', hx, dn, dne, hns⟩ => ?_
  · show A.depth + 1 < recursionLimit
    exact room
  · have old : ∀ b o, hp.get? b = some o → h'.get? b = some o := fun b o e => k' b o (Nat.ne_of_lt (Nat.lt_succ_of_lt (Heap.lt_size e))) (k b o e)
    have z : hp.objs.size + 1 + 1 ≤ dx := by
      first
        | (simpa only [Heap.size_push] using dn)
        | exact dn
        | (have q := dn; rw [Heap.size_push, Heap.size_push] at q; exact q)
    exact ⟨rfl, hq h' tk' (hp.objs.size + 1) dx ⟨old, Nat.le_succ _, ⟨_, _, hx, rfl, rfl, rfl, rfl⟩, Nat.le_trans (Nat.le_trans (Nat.le_succ _) (Nat.le_succ _)) z, dne, hns⟩⟩
end
end XS
end T_DX1

section T_DY
set_option Elab.async false
set_option linter.all false
set_option maxRecDepth 100000
set_option maxHeartbeats 1000000
set_option autoImplicit false
/-! dicts: made by a comprehension, by dict(pairs); read, walked -/
namespace DD
open PySem PySem.Spec L2
open PyProof.Rows hiding St

/-- a new thing is locked for good -/
def tFrz (t : TE) : TE := fun σ H Q => t σ H fun v H' => ∃ d u, H' d = some u ∧ Mut (some u) ∧ ∀ od, Q v (upd H' d (.frz od u))
theorem pe_frz {X : Cx} {e : Expr} {t : TE} (h : PE X e t) : PE X e (tFrz t) := by
  refine ⟨fun pins s σ H Q I hw => ?_⟩
  refine thn (h.run pins s σ H _ I hw) fun u s1 ⟨x, H1, I1, r, d, o, hd, mu, q⟩ => ?_
  obtain ⟨od, I2⟩ := I1.lock hd mu
  exact ⟨x, _, I2, r, q od⟩

/-! ### keys -/
def keyD : D → Option Key
  | .int i => some (.inl i)
  | .str x => some (.inr x)
  | _ => none
theorem keyD_kD (k : Key) : keyD (kD k) = some k := by cases k <;> rfl
theorem keyD_some {d : D} {k : Key} (h : keyD d = some k) : d = kD k := by
  cases d <;> simp only [keyD, Option.some.injEq] at h <;> first
    | (subst h; rfl)
    | cases h
theorem dn_key {K : PySem.W.Frag} {H : Hp} (k : Key) : Dn K H (kV k) (kD k) := by
  cases k with
  | inl i => exact .int i
  | inr x => exact .str x
theorem key_v {K : PySem.W.Frag} {H : Hp} {v : V} {k : Key} (h : Dn K H v (kD k)) : v = kV k := by
  cases k <;> cases h <;> rfl
/-- the pairs of a dict and the data they stand for -/
inductive KvR (K : PySem.W.Frag) (H : Hp) : List (Key × V) → List (Key × D) → Prop
  | nil : KvR K H [] []
  | cons {k : Key} {v : V} {d : D} {kvs : List (Key × V)} {kds : List (Key × D)} : Dn K H v d → KvR K H kvs kds → KvR K H ((k, v) :: kvs) ((k, d) :: kds)
def putA (kds : List (Key × D)) (k : Key) (d : D) : List (Key × D) :=
  if (kds.any fun p => decide (p.1 = k)) = true then kds.map (fun p => if p.1 = k then (p.1, d) else p) else kds ++ [(k, d)]
def valA (kds : List (Key × D)) (k : Key) : Option D := (kds.find? fun p => decide (p.1 = k)).map (·.2)
def mergeA (kds more : List (Key × D)) : List (Key × D) := more.foldl (fun acc p => putA acc p.1 p.2) kds
section
variable {K : PySem.W.Frag} {H H' : Hp} {kvs kvs2 : List (Key × V)} {kds kds2 : List (Key × D)} {k : Key} {v : V} {d : D}
theorem KvR.mono (s : Same H H') (h : KvR K H kvs kds) : KvR K H' kvs kds := by
  induction h with
  | nil => exact .nil
  | cons h1 _ ih => exact .cons (dn_mono s _ _ h1) ih
theorem KvR.len (h : KvR K H kvs kds) : kvs.length = kds.length := by
  induction h with
  | nil => rfl
  | cons _ _ ih => exact congrArg (· + 1) ih
theorem KvR.any (h : KvR K H kvs kds) (k : Key) : (kvs.any fun p => decide (p.1 = k)) = (kds.any fun p => decide (p.1 = k)) := by
  induction h with
  | nil => rfl
  | cons _ _ ih => simp only [List.any_cons, ih]
theorem KvR.app (h : KvR K H kvs kds) (h2 : KvR K H kvs2 kds2) : KvR K H (kvs ++ kvs2) (kds ++ kds2) := by
  induction h with
  | nil => exact h2
  | cons h1 _ ih => exact .cons h1 ih
theorem KvR.repl (h : KvR K H kvs kds) (hd : Dn K H v d) : KvR K H (kvs.map fun p => if p.1 = k then (p.1, v) else p) (kds.map fun p => if p.1 = k then (p.1, d) else p) := by
  induction h with
  | nil => exact .nil
  | @cons k' v' d' _ _ h1 _ ih =>
    by_cases e : k' = k
    · simp only [List.map_cons, if_pos e]
      exact .cons hd ih
    · simp only [List.map_cons, if_neg e]
      exact .cons h1 ih
theorem KvR.put (h : KvR K H kvs kds) (hd : Dn K H v d) : KvR K H (putK kvs k v) (putA kds k d) := by
  unfold putK putA
  rw [h.any k]
  split
  · exact h.repl hd
  · exact h.app (.cons hd .nil)
theorem KvR.get (h : KvR K H kvs kds) {k : Key} : (∀ d, valA kds k = some d → ∃ v, valV kvs k = some v ∧ Dn K H v d) ∧ (valA kds k = none → valV kvs k = none) := by
  induction h with
  | nil => exact ⟨fun d e => (nomatch e), fun _ => rfl⟩
  | @cons k' v' d' kvs' kds' h1 _ ih =>
    unfold valA valV at ih ⊢
    by_cases e : k' = k
    · subst e
      simp only [List.find?_cons, decide_true, Option.map_some]
      exact And.intro (fun d e => by cases e; exact ⟨v', rfl, h1⟩) (fun e => nomatch e)
    · simp only [List.find?_cons, e, decide_false]
      exact ih
theorem KvR.merge (h : KvR K H kvs kds) : ∀ {kvs0 : List (Key × V)} {kds0 : List (Key × D)}, KvR K H kvs0 kds0 → KvR K H (mergeK kvs0 kvs) (mergeA kds0 kds) := by
  induction h with
  | nil => exact fun h => h
  | cons h1 _ ih => exact fun h => ih (h.put h1)
theorem KvR.fst (h : KvR K H kvs kds) : kvs.map (·.1) = kds.map (·.1) := by
  induction h with
  | nil => rfl
  | cons _ _ ih => simp only [List.map_cons, ih]
theorem KvR.snd (h : KvR K H kvs kds) : DnAll K H (kvs.map (·.2)) (kds.map (·.2)) := by
  induction h with
  | nil => exact .nil
  | cons h1 _ ih => exact .cons h1 ih
end
/-- the dict as data -/
def dctD (kds : List (Key × D)) : D := .dict (kds.map fun p => (kD p.1, p.2))
def kdsOf (ds : List (D × D)) : List (Key × D) := ds.filterMap fun p => (keyD p.1).map fun k => (k, p.2)
theorem kdsOf_map : ∀ kds : List (Key × D), kdsOf (kds.map fun p => (kD p.1, p.2)) = kds
  | [] => rfl
  | (k, d) :: kds => by
    have ih := kdsOf_map kds
    unfold kdsOf at ih ⊢
    rw [List.map_cons, List.filterMap_cons]
    simp only [keyD_kD, Option.map_some]
    rw [ih]
theorem kv_split : ∀ {K : PySem.W.Frag} {H : Hp} {kvs : List (Key × V)} {ds : List (D × D)}, ds.map (·.1) = kvs.map (fun p => kD p.1) → DnAll K H (kvs.map (·.2)) (ds.map (·.2)) → ∃ kds, ds = kds.map (fun p => (kD p.1, p.2)) ∧ KvR K H kvs kds
  | _, _, [], [], _, _ => ⟨[], rfl, .nil⟩
  | _, _, [], _ :: _, e, _ => nomatch e
  | _, _, _ :: _, [], e, _ => nomatch e
  | K, H, (k, v) :: kvs, (a, b) :: ds, e, h => by
    simp only [List.map_cons, List.cons.injEq] at e
    cases h with
    | cons h1 h2 =>
      obtain ⟨kds, e1, r⟩ := kv_split e.2 h2
      exact ⟨(k, b) :: kds, by rw [List.map_cons, ← e1, e.1], .cons h1 r⟩
theorem of_dct {K : PySem.W.Frag} {H : Hp} {v : V} {ds : List (D × D)} (h : Dn K H v (.dict ds)) : ∃ a o kvs kds, v = .ref a ∧ H a = some (.frz o (.dK kvs)) ∧ ds = kds.map (fun p => (kD p.1, p.2)) ∧ kdsOf ds = kds ∧ KvR K H kvs kds := by
  cases h with
  | dct h1 h2 h3 =>
    obtain ⟨kds, e, r⟩ := kv_split h2 h3
    exact ⟨_, _, _, kds, rfl, h1, e, by rw [e, kdsOf_map], r⟩
theorem to_dct {K : PySem.W.Frag} {H : Hp} {a : Addr} {o : Obj} {kvs : List (Key × V)} {kds : List (Key × D)} (h : H a = some (.frz o (.dK kvs))) (r : KvR K H kvs kds) : Dn K H (.ref a) (dctD kds) := by
  refine .dct h ?_ ?_
  · rw [List.map_map]
    have := congrArg (List.map kD) r.fst
    rw [List.map_map, List.map_map] at this
    exact this.symm
  · rw [List.map_map]
    exact r.snd
section
variable {K : PySem.W.Frag} {q : Option Addr} {Hb H : Hp} {g : Nat}
theorem upd_upd {H : Hp} {p : Addr} {a b : HO} : upd (upd H p a) p b = upd H p b := by
  funext c
  by_cases h : c = p
  · subst h; rw [upd_same, upd_same]
  · rw [upd_ne h, upd_ne h, upd_ne h]
/-- an object that this def has made is locked for good -/
theorem Ok.lock (k : Ok K q Hb H g) {p : Addr} {o' : HO} (hb : Hb p = Option.none) (hq : q ≠ some p) : Ok K q (upd Hb p o') (upd H p o') g := by
  refine ⟨fun b u h => ?_, fun a ha => ?_⟩
  · by_cases e : b = p
    · subst e; rw [upd_same] at h ⊢; exact h
    · rw [upd_ne e] at h ⊢; exact k.sub _ _ h
  · have n : a ≠ p := fun e => hq (by rw [ha, e])
    refine ⟨by rw [upd_ne n]; exact (k.pool a ha).1, (k.pool a ha).2.keep (same_upd hb) fun u hu => by rw [upd_ne n]; exact hu⟩
theorem Step.lock {Hb0 H0 : Hp} (s : Step q Hb0 H0 Hb H) {p : Addr} {o' : HO} (h0 : H0 p = Option.none) (hb : Hb p = Option.none) : Step q Hb0 H0 (upd Hb p o') (upd H p o') :=
  ⟨s.ext.trans (same_upd hb), fun b u h n => by rw [upd_ne (ne_of_none h h0)]; exact s.keep b u h n, fun b u h n => by rw [upd_ne (ne_of_none h h0)]; exact s.stay b u h n⟩
end

/-! ### {k: v for tg in iter if ..} -/
section
variable {X : Ctx} {q : Option Addr} {ρ : List Sl}
variable {π : Type} {scope : Scope} {vs ix : List Nat} {tg iter kx vx : Expr} {ifs : List Expr} {ts : T (List D)} {dec : D → Option π} {env : π → List Sl} {tc : π → T Bool} {tk tv : π → T D}
def dcItem (dec : D → Option π) (tc : π → T Bool) (tk tv : π → T D) (d : D) (kds : List (Key × D)) : T (List (Key × D)) :=
  (T.opt (dec d)).bind fun b => (tc b).bind fun c => if c then (tk b).bind fun y => (T.opt (keyD y)).bind fun k => (tv b).bind fun z => .ret (putA kds k z) else .ret kds
def dcT (ts : T (List D)) (dec : D → Option π) (tc : π → T Bool) (tk tv : π → T D) : T D := ts.bind fun ds => .chk ds.length ((T.foldM (dcItem dec tc tk tv) ds []).bind fun kds => .ret (dctD kds))
structure BdK (K : PySem.W.Frag) (q : Option Addr) (Dd : Addr) (Hb H : Hp) (acc : List (Key × D)) : Prop where
  ex : ∃ kvs, H Dd = some (.dK kvs) ∧ KvR K Hb kvs acc
  nb : Hb Dd = Option.none
  nq : q ≠ some Dd
theorem BdK.step {K : PySem.W.Frag} {Dd : Addr} {Hb H Hb' H' : Hp} {acc : List (Key × D)} (h : BdK K q Dd Hb H acc) (s : Step q Hb H Hb' H') : BdK K q Dd Hb' H' acc := by
  obtain ⟨vs, e, dv⟩ := h.ex
  exact ⟨⟨vs, s.keep _ _ e h.nq, dv.mono s.ext⟩, s.stay _ _ e h.nb, h.nq⟩
theorem BdK.more {K : PySem.W.Frag} {Dd : Addr} {Hb H : Hp} {acc : List (Key × D)} {kvs : List (Key × V)} {k : Key} {y : V} {e : D} {g : Nat} (h : BdK K q Dd Hb H acc) (ok0 : Ok K q Hb H g) (hv : H Dd = some (.dK kvs)) (hd : Dn K Hb y e) :
    BdK K q Dd Hb (upd H Dd (.dK (putK kvs k y))) (putA acc k e) ∧ Ok K q Hb (upd H Dd (.dK (putK kvs k y))) g := by
  obtain ⟨vs', e', dv⟩ := h.ex
  rw [hv] at e'
  cases e'
  refine ⟨⟨⟨_, upd_same, dv.put hd⟩, h.nb, h.nq⟩, fun b u hb => ?_, fun a ha => ⟨(ok0.pool a ha).1, ?_⟩⟩
  · rw [upd_ne (fun z => by rw [z, h.nb] at hb; cases hb)]
    exact ok0.sub _ _ hb
  · exact (ok0.pool a ha).2.keep (Same.refl _) fun u hu => by rw [upd_ne fun z => h.nq (by rw [ha, z])]; exact hu
theorem putA_len (kds : List (Key × D)) (k : Key) (d : D) : (putA kds k d).length ≤ kds.length + 1 := by
  unfold putA
  split
  · rw [List.length_map]; exact Nat.le_succ _
  · rw [List.length_append]; exact Nat.le_refl _
theorem turnD_ok (dg : DG X q ρ ix tg dec env) (hc : ∀ b, DTs X q (env b) ifs (tc b)) (hk : ∀ b, DX X q (env b) kx (tk b)) (hv : ∀ b, DX X q (env b) vx (tv b))
    {σ : L2.St} {Hb H : Hp} {g : Nat} {x : V} {d : D} {acc : List (Key × D)} {C : List (Key × D) → Nat → Prop} {K0 : Hp → Prop} {K1 : V → V → Hp → Prop} {L : L2.St → Prop} (ok0 : Ok X.K q Hb H g) (sl : Sls X.K q Hb H ρ σ) (hd : Dn X.K Hb x d) (ht : (dcItem dec tc tk tv d acc).ok g C)
    (hL : ∀ σ2 : L2.St, σ2.length = σ.length → (∀ i, i ∉ ix → σ2[i]? = σ[i]?) → L σ2)
    (h0 : ∀ Hb' H' g', Step q Hb H Hb' H' → Ok X.K q Hb' H' g' → C acc g' → K0 H') (h1 : ∀ k z e Hb' H' g', Step q Hb H Hb' H' → Ok X.K q Hb' H' g' → Dn X.K Hb' z e → C (putA acc k e) g' → K1 (kV k) z H') :
    wG X tg x σ H fun σ2 H2 => L σ2 ∧ wTs X ifs σ2 H2 fun c H3 => if c = true then wE X kx σ2 H3 fun y H4 => wE X vx σ2 H4 fun z H5 => K1 y z H5 else K0 H3 := by
  obtain ⟨b, eb, ht⟩ := opt_ok (T.ok_bind.mp ht)
  refine dg.run x d σ Hb H g _ b ok0 sl hd eb fun σ2 sl2 l2 k2 => ⟨hL σ2 l2 k2, ?_⟩
  refine hc b σ2 Hb H g _ ok0 sl2 (T.ok_mono (T.ok_bind.mp ht) fun c g1 c1 Hb1 H1 s1 ok1 => ?_)
  cases c with
  | false => exact iteF (h0 Hb1 H1 g1 s1 ok1 c1)
  | true =>
    refine iteT ((hk b).run ok1 (sl2.step s1) (T.ok_bind.mp c1) fun e g2 y Hb2 H2 c2 s2 ok2 sl3 d2 => ?_)
    obtain ⟨k, ek, c2⟩ := opt_ok (T.ok_bind.mp c2)
    refine (hv b).run ok2 sl3 (T.ok_bind.mp c2) fun e' g3 z Hb3 H3 c3 s3 ok3 _ d3 => ?_
    have ek := keyD_some ek
    subst ek
    have ey := key_v d2
    subst ey
    exact h1 k z e' Hb3 H3 g3 ((s1.trans ok1 s2).trans ok2 s3) ok3 d3 c3
theorem dc_deep (di : DI X q ρ tg iter ts) (dg : DG (X.blk scope) q (wipeR ρ vs) ix tg dec env) (hix : ∀ i ∈ ix, i ∈ vs) (hc : ∀ b, DTs (X.blk scope) q (env b) ifs (tc b)) (hk : ∀ b, DX (X.blk scope) q (env b) kx (tk b)) (hv : ∀ b, DX (X.blk scope) q (env b) vx (tv b))
    {σ : L2.St} {Hb H : Hp} {g : Nat} {Q : V → Hp → Prop} (ok0 : Ok X.K q Hb H g) (sl : Sls X.K q Hb H ρ σ) (ht : (dcT ts dec tc tk tv).ok g (PD X.K q Hb H Q)) :
    tFrz (tDc (wI X tg iter) (wG (X.blk scope) tg) (wTs (X.blk scope) ifs) (wE (X.blk scope) kx) (wE (X.blk scope) vx) vs) σ H Q := by
  refine di σ Hb H g _ ok0 sl (T.ok_mono (T.ok_bind.mp ht) fun ds g1 c1 J Hb1 H1 s1 ok1 wk => ?_)
  obtain ⟨hz, c1⟩ := T.ok_chk c1
  intro Dd hD
  refine ⟨fun i m H2 => m = ds.length - i ∧ i ≤ ds.length ∧ ∃ Hb2 g2 acc, Step q Hb1 H1 Hb2 H2 ∧ Ok X.K q Hb2 H2 g2 ∧ BdK X.K q Dd Hb2 H2 acc ∧ acc.length ≤ i ∧
    ((T.foldM (dcItem dec tc tk tv) (ds.drop i) acc).bind fun kds => T.ret (dctD kds)).ok g2 (PD X.K q Hb H Q), ⟨ds.length, rfl, Nat.zero_le _, Hb1, g1, [], .own hD, ok1.own hD, ⟨⟨[], upd_same, .nil⟩, ok1.sub.free hD, free_nq ok1 hD⟩, Nat.le_refl _, c1⟩, ?_⟩
  rintro i m H2 ⟨rfl, hi, Hb2, g2, acc, s2, ok2, bd, ha, c2⟩
  obtain ⟨wgo, wstop⟩ := wk i Hb2 H2 g2 s2.ext ok2
  by_cases hlt : i < ds.length
  · refine .inr ?_
    obtain ⟨go, yl⟩ := wgo _ (List.getElem?_eq_getElem hlt)
    refine ⟨go, fun H' => ∃ Hb2 g2 acc, Step q Hb1 H1 Hb2 H' ∧ Ok X.K q Hb2 H' g2 ∧ BdK X.K q Dd Hb2 H' acc ∧ acc.length ≤ i + 1 ∧ ((T.foldM (dcItem dec tc tk tv) (ds.drop (i + 1)) acc).bind fun kds => T.ret (dctD kds)).ok g2 (PD X.K q Hb H Q),
      fun H' p => ⟨ds.length - (i + 1), by omega, rfl, hlt, p⟩, fun x H3 y => ?_⟩
    obtain ⟨Hb3, s3, ok3, dx⟩ := yl x H3 y
    have sl3 : Sls X.K q Hb3 H3 (wipeR ρ vs) (L2.wipe σ vs) := (((sl.step s1).step s2).step s3).wipe vs
    rw [List.drop_eq_getElem_cons hlt] at c2
    have c2 := T.ok_bind.mp (T.ok_bind.mp c2)
    have bd3 := bd.step s3
    have s13 : Step q Hb1 H1 Hb3 H3 := s2.trans ok2 s3
    refine turnD_ok (acc := acc) dg hc hk hv ok3 sl3 dx c2 (fun σ2 l2 k2 => wipe_same (by rw [l2, wipe_length]) k2 hix) (fun Hb' H' g' s' ok' c' => ?_) fun k z e Hb' H' g' s' ok' d' c' => ?_
    · exact ⟨Hb', g', acc, s13.trans ok3 s', ok', bd3.step s', by omega, T.ok_bind.mpr c'⟩
    · have bd4 := bd3.step s'
      obtain ⟨vs4, e4, d4⟩ := bd4.ex
      obtain ⟨bd5, ok5⟩ := bd4.more (k := k) ok' e4 d'
      exact ⟨vs4, k, rfl, e4, by rw [d4.len, sizeLine_eq]; omega, Hb', g', putA acc k e, (s13.trans ok3 s').mut hD, ok5, bd5, by have := putA_len acc k e; omega, T.ok_bind.mpr c'⟩
  · have e : i = ds.length := by omega
    subst e
    refine .inl ⟨wstop (Nat.le_refl _), ?_⟩
    rw [List.drop_length] at c2
    have c2 : PD X.K q Hb H Q (dctD acc) g2 := c2
    obtain ⟨vs4, e4, d4⟩ := bd.ex
    have n0 := step_free ok0 s1 (free_nq ok1 hD) hD
    refine ⟨Dd, _, e4, trivial, fun od => c2 (.ref Dd) (upd Hb2 Dd (.frz od (.dK vs4))) _ ((s1.trans ok1 s2).lock n0 bd.nb) (ok2.lock bd.nb bd.nq) (to_dct upd_same (d4.mono (same_upd bd.nb)))⟩
theorem dx_dc {own : List (Str × Nat)} {pos : Pos} (hN : X.N.Nodup) (di : DI X q ρ tg iter ts) (bk : blkC X.N X.sc scope own = true) (dg : DG (X.blk scope) q (wipeR ρ (own.map (·.2))) ix tg dec env) (hix : ∀ i ∈ ix, i ∈ own.map (·.2))
    (hc : ∀ b, DTs (X.blk scope) q (env b) ifs (tc b)) (hk : ∀ b, DX (X.blk scope) q (env b) kx (tk b)) (hv : ∀ b, DX (X.blk scope) q (env b) vx (tv b)) (hs : ∀ (env : Env) (x : Value), foldedSetIterable iter env x = pure x := by intro _ _; rfl) :
    DX X q ρ (.DictComp kx vx [⟨tg, iter, ifs, 0⟩] scope pos) (dcT ts dec tc tk tv) := fun σ Hb H g Q ok0 sl ht =>
  ⟨_, fun z => pe_frz (pe_dc rfl hN pi_w (blkOk_by (by rw [z.hsc]; exact bk)) (fun s H C cl fp => pg_w (z := z.blk scope s H C cl fp)) (fun s H C cl fp => pts_w (z := z.blk scope s H C cl fp)) (fun s H C cl fp => pe_w (z := z.blk scope s H C cl fp)) (fun s H C cl fp => pe_w (z := z.blk scope s H C cl fp)) (hs _)),
    dc_deep di dg hix hc hk hv ok0 sl ht⟩
end

/-! ### reading -/
section
variable {X : Ctx} {q : Option Addr} {ρ : List Sl} {pos p : Pos} {o i e e2 tg : Expr} {to ti t : T D}
def dgetD : D → D → T D
  | .dict ds, k => match keyD k with
    | some kk => T.opt (valA (kdsOf ds) kk)
    | none => .fail
  | _, _ => .fail
def dinD : D → D → T Bool
  | k, .dict ds => match keyD k with
    | some kk => .ret (valA (kdsOf ds) kk).isSome
    | none => .fail
  | _, _ => .fail
theorem dget_at {K : PySem.W.Frag} {Hb H : Hp} {v y : V} {d k : D} {g : Nat} {C : D → Nat → Prop} (hs : Same Hb H) (hd : Dn K Hb v d) (hk : Dn K Hb y k) (ht : (dgetD d k).ok g C) : ∃ a w d', v = .ref a ∧ DGet H a y (some w) ∧ Dn K Hb w d' ∧ C d' g := by
  cases d with
  | dict ds =>
    obtain ⟨a, ob, kvs, kds, rfl, h1, _, e2, r⟩ := of_dct hd
    simp only [dgetD, e2] at ht
    split at ht
    · rename_i kk ek
      have ek := keyD_some ek
      subst ek
      have := key_v hk
      subst this
      obtain ⟨d', e3, ht⟩ := opt_ok ht
      obtain ⟨w, e4, h4⟩ := r.get.1 d' e3
      exact ⟨a, w, d', rfl, .inl ⟨kvs, kk, .inr ⟨ob, hs _ _ h1⟩, rfl, e4.symm⟩, h4, ht⟩
    · exact ht.elim
  | _ => exact ht.elim
theorem dx_dget (hu : X.A.units + 1 < cLine) (ho : DX X q ρ o to) (hi : DX X q ρ i ti) (hs : NoSl i := by first | exact fun _ => rfl | exact fun _ _ => rfl | exact rfl | trivial) : DX X q ρ (.Subscript o i pos) (to.bind fun a => ti.bind fun b => dgetD a b) := fun σ Hb H g Q ok0 sl ht => by
  refine ⟨_, fun z => pe_dget (X := X.at z) hu pe_w pe_w hs, ?_⟩
  refine ho.run ok0 sl (T.ok_bind.mp ht) fun d g1 v Hb1 H1 c1 s1 ok1 sl1 d1 => ?_
  refine hi.run ok1 sl1 (T.ok_bind.mp c1) fun d' g2 v' Hb2 H2 c2 s2 ok2 sl2 d2 => ?_
  obtain ⟨a, w, d3, rfl, h1, h2, c3⟩ := dget_at ok2.sub (dn_mono s2.ext _ _ d1) d2 c2
  exact ⟨a, w, rfl, h1, c3 w Hb2 H2 (s1.trans ok1 s2) ok2 h2⟩
/-- over a dict's keys -/
def itemsK : D → T (List D)
  | .dict ds => .ret (ds.map (·.1))
  | _ => .fail
theorem wk_keys {K : PySem.W.Frag} {a : Addr} {ob : Obj} {kvs : List (Key × V)} {Hb : Hp} (e : Hb a = some (.frz ob (.dK kvs))) : Wk K q (Itk a ob kvs) Hb (kvs.map fun p => kD p.1) := fun i Hb1 H1 g s ok1 => by
  have hq : H1 a = some (.frz ob (.dK kvs)) := ok1.sub _ _ (s _ _ e)
  refine ⟨fun d hd => ?_, fun hi => ⟨hq, by rw [List.length_map] at hi; exact hi⟩⟩
  rw [List.getElem?_map] at hd
  cases hkv : kvs[i]? with
  | none => rw [hkv] at hd; cases hd
  | some p =>
    rw [hkv] at hd
    cases hd
    refine ⟨⟨hq, (List.getElem?_eq_some_iff.mp hkv).1⟩, fun x H2 ⟨eH, k, v, y1, y2⟩ => ?_⟩
    subst eH y2
    rw [hkv] at y1
    cases y1
    exact ⟨Hb1, .refl, ok1, dn_key _⟩
theorem di_keys (h : DX X q ρ e t) : DI X q ρ tg e (t.bind itemsK) := fun σ Hb H g R ok0 sl ht => by
  refine ⟨iKeys (wE X e), fun z => pi_keys pe_w, ?_⟩
  refine h.run ok0 sl (T.ok_bind.mp ht) fun d g1 v Hb1 H1 c1 s1 ok1 sl1 d1 => ?_
  cases d with
  | dict ds =>
    obtain ⟨a, ob, kvs, kds, rfl, h1, e1, e2, r⟩ := of_dct d1
    refine ⟨a, ob, rfl, .inl ⟨kvs, ok1.sub _ _ h1, c1 _ Hb1 H1 s1 ok1 ?_⟩⟩
    have : ds.map (·.1) = kvs.map fun p => kD p.1 := by
      rw [e1, List.map_map]
      have z := congrArg (List.map kD) r.fst
      rw [List.map_map, List.map_map] at z
      exact z.symm
    rw [this]
    exact wk_keys h1
  | _ => exact c1.elim
end
section
variable {X : Cx} {o : Expr} {to : TE} {apos mpos p pos : Pos}
/-- list(d.values()), d locked -/
def tListVals (to : TE) : TE := fun σ H Q => to σ H fun x H1 => ∃ d ob kvs, x = .ref d ∧ H1 d = some (.frz ob (.dK kvs)) ∧ ∀ l, H1 l = none → Q (.ref l) (upd H1 l (.lst (kvs.map (·.2))))
theorem pe_listVals (hc : X.calm = true) (hg : Gl X "list") (hm : X.mg "list" = none) (hd : PE X o to) (hbase : attributeBase o "values" X.env (eval o X.env) = eval o X.env := by rfl) (hline : (apos.endLine == mpos.line) = true := by rfl)
    (hse : starEach [Expr.Call (.Attribute o "values" apos) [] [] mpos] X.env = (false, eval (Expr.Call (.Attribute o "values" apos) [] [] mpos) X.env) :: starEach [] X.env := by rfl) :
    PE X (.Call (.Name "list" p) [.Call (.Attribute o "values" apos) [] [] mpos] [] pos) (tListVals to) := by
  refine ⟨fun pins s σ H Q I h => ?_⟩
  refine Call_ (ld_blt I hg hm (by decide +kernel : bootBuiltins "list" = some (.type "list")) ?_)
  refine PyProof.Rows.callWith_type1 (PyProof.Rows.args_cons ?_ hse) hse rfl
  refine wpAny_Call_method (T := "dict") (id := "dict.values") hbase rfl hline PySem.F.plainAttrs_dict PySem.F.slot_dict_values PySem.F.type_dict_values (thn (hd.run pins s σ H _ I h) fun u s1 ⟨x, H1, I1, rx, d, ob, kvs, ex, hdk, q⟩ => ?_)
  subst ex
  obtain rfl : u = Value.ref d := rx
  obtain ⟨hs, hgd, hx, es, ep, vs, hdt, hsz, kv, hm2⟩ := I1.frzK hdk
  have hl : kvs.length = vs.length := Paired.length kv
  refine ⟨hm2.dictOf.typeIs, hm2.dictOf.mapOf.noDict, ?_⟩
  have I2 : Inv X pins σ H1 { s1 with heap := s1.heap.push { cls := .type "dict_values", data := .fields #[.ref d] } } := I1.kept (t' := s1.toks) fun b ob q => Heap.get?_push_of_some _ q
  have hz : kvs.length ≤ sizeLine := by
    obtain ⟨z, _⟩ := (show ObjOk X.prog X.w H1 s1.heap d (.dK kvs) from (I1.hok d _ hdk).2)
    exact z
  show wpAny _ _ (callWith mpos (.builtin "dict.values") [.ref d] [] []) _ X.xe s1
  refine method_meetsIn PySem.F.slot_dict_values PySem.F.entry_dict_values rfl (PySem.evalArgs_none ⟨rfl, hm2.dictOf.typeIs, PySem.F.args_dict_values_1 _, _, meets_dict_values (mixKind X.prog X.w) d hs, ⟨vs, hm2.dictOf⟩, ?_⟩)
  refine PyProof.Rows.args_nil ?_
  refine PySem.W.kdl_call (PySem.W.kdl_values (knd := mixKind X.prog X.w) (kvs := vs) (ep := ep)) (I2.ok.hd hc) ⟨⟨_, Heap.get?_push_size _ rfl, rfl, rfl⟩, hm2.push _⟩ (by rw [← hl]; exact hz) fun h' tk acc' c' hkeep hS hacc => ?_
  refine ⟨.ref (s1.heap.push { cls := .type "dict_values", data := .fields #[.ref d] }).objs.size, upd H1 (s1.heap.push { cls := .type "dict_values", data := .fields #[.ref d] }).objs.size (.lst (kvs.map (·.2))), I2.laid (t' := tk) hkeep (Nat.le_refl _) (show ObjOk X.prog X.w _ _ _ (.lst (kvs.map (·.2))) from ⟨by rw [List.length_map]; exact hz, acc'.toList, c', ?_, ?_⟩), rfl, q _ (I2.hok.fresh (Nat.le_refl _))⟩
  · have el : acc'.toList.length = acc'.size := by simp
    refine vals_of_at (by rw [List.length_map, el, hacc.1, hl]) fun j x w h1 h2 => ?_
    obtain ⟨k, hky⟩ := hacc.2 j w (by rw [← Array.getElem?_toList]; exact h2)
    rw [List.getElem?_map] at h1
    cases hkv : kvs[j]? with
    | none => rw [hkv] at h1; cases h1
    | some pr =>
      rw [hkv] at h1
      cases h1
      obtain ⟨u, hu, ru⟩ := kv_get kv hkv
      rw [hu] at hky
      cases hky
      exact ru
  · rw [Array.toArray_toList]; exact hS
end
end DD
end T_DY

section T_DY2
set_option Elab.async false
set_option linter.all false
set_option maxRecDepth 100000
set_option maxHeartbeats 1000000
set_option autoImplicit false
/-! zip strict, list(d.values()), dict(pairs), what is never reached -/
namespace DD
open PySem PySem.Spec L2
open PyProof.Rows hiding St

section
variable {X : Ctx} {q : Option Addr} {ρ : List Sl} {pos p tpos : Pos} {e e2 tg : Expr} {t t2 : T D} {elts : List Expr} {kk : Nat}
def zipD : List D → List D → List D
  | a :: l, b :: m => .tuple [a, b] :: zipD l m
  | _, _ => []
theorem zipD_len : ∀ {l m : List D}, l.length = m.length → (zipD l m).length = l.length
  | [], [], _ => rfl
  | _ :: l, _ :: m, h => congrArg (· + 1) (zipD_len (l := l) (m := m) (by simpa using h))
theorem zipD_get : ∀ {l m : List D} {i : Nat} {d : D}, (zipD l m)[i]? = some d → ∃ a b, l[i]? = some a ∧ m[i]? = some b ∧ d = .tuple [a, b]
  | [], _, i, d, h => by simp [zipD] at h
  | _ :: _, [], i, d, h => by simp [zipD] at h
  | a :: l, b :: m, 0, d, h => by
    simp only [zipD, List.getElem?_cons_zero, Option.some.injEq] at h
    exact ⟨a, b, rfl, rfl, h.symm⟩
  | a :: l, b :: m, i + 1, d, h => by
    simp only [zipD, List.getElem?_cons_succ] at h ⊢
    exact zipD_get h
theorem wk_zs {K : PySem.W.Frag} {W : ZS.Way} {a b : Addr} {xs ys : List V} {ds es : List D} {Hb : Hp} (ha : ∀ H1, Same Hb H1 → W.R K H1 a xs) (hb : ∀ H1, Same Hb H1 → W.R K H1 b ys) (h1 : DnAll K Hb xs ds) (h2 : DnAll K Hb ys es) (hl : ds.length = es.length) :
    Wk K q (ZS.Its W K a b) Hb (zipD ds es) := fun i Hb1 H1 g s ok1 => by
  have qa := ha H1 (s.trans ok1.sub)
  have qb := hb H1 (s.trans ok1.sub)
  refine ⟨fun d hd => ?_, fun hi => ⟨xs, ys, qa, qb, ?_, ?_⟩⟩
  · obtain ⟨x, y, e1, e2, rfl⟩ := zipD_get hd
    obtain ⟨v, v1, v2⟩ := DnAll.get h1 e1
    obtain ⟨u, u1, u2⟩ := DnAll.get h2 e2
    refine ⟨⟨xs, ys, v, u, qa, qb, v1, u1⟩, fun w H2 ⟨T, x', y', ew, hT, eH, f1, f2⟩ => ?_⟩
    subst ew eH
    have z1 := f1 xs qa
    have z2 := f2 ys qb
    rw [v1] at z1
    rw [u1] at z2
    cases z1
    cases z2
    have m := s.trans (same_upd (o := .tup [v, u]) (ok1.sub.free hT))
    exact ⟨_, .new ok1 hT, ok1.new hT, .tup (SqT.of upd_same) (.cons (dn_mono m _ _ v2) (.cons (dn_mono m _ _ u2) .nil))⟩
  · rw [zipD_len hl] at hi
    rw [DnAll.len h1]; exact hi
  · rw [zipD_len hl, hl] at hi
    rw [DnAll.len h2]; exact hi
def zsLD : D → D → T (List D)
  | .list a, .list b => .need (a.length == b.length) (.ret (zipD a b))
  | _, _ => .fail
def zsTD : D → D → T (List D)
  | .tuple a, .tuple b => .need (a.length == b.length) (.ret (zipD a b))
  | _, _ => .fail
section
variable {k2 : Nat} {q1 q2 : Pos}
theorem di_zsL (hg : Gb X "zip") (hm : X.mg "zip" = none) (ha : DX X q ρ e t) (hb : DX X q ρ e2 t2)
    (hs : ∀ env : Env, starEach [e, e2] env = (false, eval e env) :: starEach [e2] env := by intro _; rfl) (hs2 : ∀ env : Env, starEach [e2] env = (false, eval e2 env) :: starEach [] env := by intro _; rfl)
    (hp : ∀ env : Env, ((backTo pos (starEach [e, e2] env)).any (·.1) || (backToKw pos (keywordEach [⟨some "strict", .Constant (.bool true) k2 q1, q2⟩] env)).any (·.1.isNone)) = false := by intro _; rfl) :
    DI X q ρ (.Tuple elts kk tpos) (.Call (.Name "zip" p) [e, e2] [⟨some "strict", .Constant (.bool true) k2 q1, q2⟩] pos) (t.bind fun a => t2.bind fun b => zsLD a b) := fun σ Hb H g R ok0 sl ht => by
  refine ⟨ZS.iZs ZS.wayL X.K (tCons (wE X e) (tCons (wE X e2) tNil)), fun z => ZS.pi_zs ZS.wayL (X := X.at z) (hg.gl z) hm (pa_cons pe_w (pa_cons pe_w pa_nil (hs2 _)) (hs _)) (hs _) (hs2 _) (hp _), ?_⟩
  refine ha.run ok0 sl (T.ok_bind.mp ht) fun d g1 v Hb1 H1 c1 s1 ok1 sl1 d1 => ?_
  refine hb.run ok1 sl1 (T.ok_bind.mp c1) fun d' g2 v' Hb2 H2 c2 s2 ok2 sl2 d2 => ?_
  have d1 := dn_mono s2.ext _ _ d1
  cases d1 with
  | lst e1 a1 =>
    cases d2 with
    | lst e2 a2 =>
      obtain ⟨hl, c2⟩ := T.ok_need c2
      exact ⟨_, _, _, _, rfl, SqL.of (ok2.sub _ _ e1), SqL.of (ok2.sub _ _ e2), c2 _ Hb2 H2 (s1.trans ok1 s2) ok2 (wk_zs (fun H1 s => SqL.of (s _ _ e1)) (fun H1 s => SqL.of (s _ _ e2)) a1 a2 (by simpa using hl))⟩
    | _ => exact c2.elim
  | _ => cases d2 <;> exact c2.elim
theorem di_zsT (hg : Gb X "zip") (hm : X.mg "zip" = none) (ha : DX X q ρ e t) (hb : DX X q ρ e2 t2)
    (hs : ∀ env : Env, starEach [e, e2] env = (false, eval e env) :: starEach [e2] env := by intro _; rfl) (hs2 : ∀ env : Env, starEach [e2] env = (false, eval e2 env) :: starEach [] env := by intro _; rfl)
    (hp : ∀ env : Env, ((backTo pos (starEach [e, e2] env)).any (·.1) || (backToKw pos (keywordEach [⟨some "strict", .Constant (.bool true) k2 q1, q2⟩] env)).any (·.1.isNone)) = false := by intro _; rfl) :
    DI X q ρ (.Tuple elts kk tpos) (.Call (.Name "zip" p) [e, e2] [⟨some "strict", .Constant (.bool true) k2 q1, q2⟩] pos) (t.bind fun a => t2.bind fun b => zsTD a b) := fun σ Hb H g R ok0 sl ht => by
  refine ⟨ZS.iZs ZS.wayT X.K (tCons (wE X e) (tCons (wE X e2) tNil)), fun z => ZS.pi_zs ZS.wayT (X := X.at z) (hg.gl z) hm (pa_cons pe_w (pa_cons pe_w pa_nil (hs2 _)) (hs _)) (hs _) (hs2 _) (hp _), ?_⟩
  refine ha.run ok0 sl (T.ok_bind.mp ht) fun d g1 v Hb1 H1 c1 s1 ok1 sl1 d1 => ?_
  refine hb.run ok1 sl1 (T.ok_bind.mp c1) fun d' g2 v' Hb2 H2 c2 s2 ok2 sl2 d2 => ?_
  have d1 := dn_mono s2.ext _ _ d1
  cases d1 with
  | tup e1 a1 =>
    cases d2 with
    | tup e2 a2 =>
      obtain ⟨hl, c2⟩ := T.ok_need c2
      exact ⟨_, _, _, _, rfl, sqT_mono ok2.sub e1, sqT_mono ok2.sub e2, c2 _ Hb2 H2 (s1.trans ok1 s2) ok2 (wk_zs (fun H1 s => sqT_mono s e1) (fun H1 s => sqT_mono s e2) a1 a2 (by simpa using hl))⟩
    | _ => exact c2.elim
  | _ => cases d2 <;> exact c2.elim
end
/-- list(d.values()) -/
def valsD : D → T (List D)
  | .dict ds => .ret (ds.map (·.2))
  | _ => .fail
section
variable {o : Expr} {to : T D} {apos mpos : Pos}
theorem df_vals (hg : Gb X "list") (hm : X.mg "list" = none) (h : DX X q ρ o to) (hbase : ∀ env : Env, attributeBase o "values" env (eval o env) = eval o env := by intro _; rfl) (hline : (apos.endLine == mpos.line) = true := by rfl)
    (hse : ∀ env : Env, starEach [Expr.Call (.Attribute o "values" apos) [] [] mpos] env = (false, eval (Expr.Call (.Attribute o "values" apos) [] [] mpos) env) :: starEach [] env := by intro _; rfl) :
    DF X q ρ (.Call (.Name "list" p) [.Call (.Attribute o "values" apos) [] [] mpos] [] pos) (to.bind valsD) := fun σ Hb H g Q ok0 sl ht => by
  refine ⟨_, fun z => pe_listVals (X := X.at z) rfl (hg.gl z) hm pe_w (hbase _) hline (hse _), ?_⟩
  refine h.run ok0 sl (T.ok_bind.mp ht) fun d g1 v Hb1 H1 c1 s1 ok1 sl1 d1 => ?_
  cases d with
  | dict ds =>
    obtain ⟨a, ob, kvs, kds, rfl, h1, e1, e2, r⟩ := of_dct d1
    refine ⟨a, ob, kvs, rfl, ok1.sub _ _ h1, fun l hl => ?_⟩
    refine c1 l _ Hb1 _ (s1.trans ok1 (.own hl)) (ok1.own hl) (ok1.sub.free hl) (step_free ok0 s1 (free_nq ok1 hl) hl) upd_same ?_
    rw [e1, List.map_map]
    exact r.snd
  | _ => exact c1.elim
end
/-- dict(xs) of a list of pairs -/
def pairsKD : List D → Option (List (Key × D))
  | [] => some []
  | .tuple [k, v] :: l => (keyD k).bind fun kk => (pairsKD l).map fun r => (kk, v) :: r
  | _ => none
theorem pairsKD_at {K : PySem.W.Frag} {H : Hp} : ∀ {vs : List V} {ds : List D} {kds : List (Key × D)}, DnAll K H vs ds → pairsKD ds = some kds →
    ∃ (ps : List Addr) (kvs : List (Key × V)), vs = ps.map V.ref ∧ Paired (fun p kv => SqT K H p [kV kv.1, kv.2]) ps kvs ∧ KvR K H kvs kds
  | _, _, _, .nil, e => by
    cases e
    exact ⟨[], [], rfl, .nil, .nil⟩
  | _, _, _, .cons (d := d) h t, e => by
    unfold pairsKD at e
    split at e
    · rename_i he
      cases he
    · rename_i k v l he
      cases he
      obtain ⟨kk, e1, e⟩ := Option.bind_eq_some_iff.mp e
      obtain ⟨r, e2, e⟩ := Option.map_eq_some_iff.mp e
      subst e
      obtain ⟨ps, kvs, rfl, hp, hk⟩ := pairsKD_at t e2
      cases h with
      | tup h1 h2 =>
        cases h2 with
        | cons hk1 h2 =>
          cases h2 with
          | cons hv1 h2 =>
            cases h2
            have ek := keyD_some e1
            subst ek
            have := key_v hk1
            subst this
            exact ⟨_ :: ps, (kk, _) :: kvs, rfl, .cons h1 hp, .cons hv1 hk⟩
    · cases e
theorem paired_mono {α β : Type} {R S : α → β → Prop} (h : ∀ a b, R a b → S a b) {l : List α} {m : List β} (p : Paired R l m) : Paired S l m := by
  induction p with
  | nil => exact .nil
  | cons h1 _ ih => exact .cons (h _ _ h1) ih
def dictPD : D → T D
  | .list ds => match pairsKD ds with
    | some kds => .ret (dctD (mergeA [] kds))
    | none => .fail
  | _ => .fail
def rDictP (K : PySem.W.Frag) : List V → Hp → VK → Prop := fun xs H Q => ∃ (a : Addr) (ps : List Addr) (kvs : List (Key × V)), xs = [.ref a] ∧ SqL K H a (ps.map V.ref) ∧ Paired (fun p kv => SqT K H p [kV kv.1, kv.2]) ps kvs ∧
    ∀ p, H p = none → Q (.ref p) (upd H p (.dK (mergeK [] kvs)))
theorem dx_dictP (hg : Gb X "dict") (hm : X.mg "dict" = none) (h : DX X q ρ e t) (he : ∀ env : Env, starEach [e] env = (false, eval e env) :: starEach [] env := by intro _; rfl)
    (hpl : ∀ env : Env, (backTo pos (starEach [] env)).any (·.1) = false := by intro _; rfl) : DX X q ρ (.Call (.Name "dict" p) [e] [] pos) (t.bind dictPD) := fun σ Hb H g Q ok0 sl ht => by
  refine ⟨tFrz (tCB (rDictP X.K) (tCons (wE X e) tNil)), fun z => pe_frz (pe_callTy (X := X.at z) (T := "dict") (call_dictP rfl) (hg.gl z) hm (by decide +kernel) (pa_cons pe_w pa_nil (he _)) (by decide) (by decide) (he _) (hpl _)), ?_⟩
  refine h.run ok0 sl (T.ok_bind.mp ht) fun d g1 v Hb1 H1 c1 s1 ok1 sl1 d1 => ?_
  cases d1 with
  | lst e1 a1 =>
    simp only [dictPD] at c1
    split at c1
    · rename_i kds ek
      obtain ⟨ps, kvs, rfl, hp, hk⟩ := pairsKD_at a1 ek
      refine ⟨_, ps, kvs, rfl, SqL.of (ok1.sub _ _ e1), ?_, fun l hl => ⟨l, _, upd_same, trivial, fun od => ?_⟩⟩
      · exact paired_mono (fun p kv h => sqT_mono ok1.sub h) hp
      · rw [upd_upd]
        have nb := ok1.sub.free hl
        refine c1 (.ref l) (upd Hb1 l (.frz od (.dK (mergeK [] kvs)))) _ (s1.trans ok1 (.new ok1 hl)) (ok1.new hl) (to_dct upd_same ((hk.mono (same_upd nb)).merge .nil))
    · exact c1.elim
  | _ => exact c1.elim
/-- what is never reached -/
theorem ds_fail {R : Type} {ε : R → En} {sts : List Stmt} : DS X q ρ sts (.fail : T R) ε := fun σ Hb H g C ok0 sl ht => ht.elim
theorem dx_fail : DX X q ρ e .fail := fun σ Hb H g Q ok0 sl ht => ht.elim
theorem di_fail : DI X q ρ tg e .fail := fun σ Hb H g R ok0 sl ht => ht.elim
end
end DD
end T_DY2

section T_DX2
set_option Elab.async false
set_option linter.all false
set_option maxRecDepth 100000
set_option maxHeartbeats 1000000
set_option autoImplicit false
/-! own errors that hold one thing: raised, let out, caught -/
namespace DD
open PySem PySem.Spec L2
open PyProof.Rows hiding St

/-- what the top has written of the class x at C; f: its field -/
structure ExG (P : Program) (K : PySem.W.Frag) (mg : Str → Option Value) (x : Str) (C : Addr) (f : Str) : Prop where
  g : mg x = some (.ref C)
  k : PySem.W.keepIn K (.ref C) = true
  t : ∃ fI, XS.ExT P K C fI f
  fo : XS.FldOk f
  ex : PySem.W.subIn K (.ref C) (.type "BaseException") = some true
  ty : PySem.W.typeIn K (.ref C) = some (.type "type")
  hsup : mg (PySem.Str.ofString "super") = none
  xf : XfC K C
  noN : PySem.W.findIn K (.ref C) f = some none
  te : PySem.W.exmOne K (.ref C) (.ref C) = some true
theorem relO_fld {f : Str} {v : V} {v' : Value} (r : RelV v v') (y : Str) : RelO (List.lookup y [(f, v)]) (if y = f then some v' else none) := by
  by_cases hw : y = f
  · subst hw
    rw [if_pos rfl]
    have q : List.lookup y [(y, v)] = some v := by simp [List.lookup]
    rw [q]
    exact r
  · rw [if_neg hw]
    have qw : (y == f) = false := by simpa using hw
    have q2 : List.lookup y [(f, v)] = none := by simp [List.lookup, qw]
    rw [q2]
    trivial
section
variable {X : Cx} {C : Addr} {x f : Str}
/-- x(e) -/
def tMkX (C : Addr) (f : Str) (ta : TA) : L2.St → Hp → XK → Prop := fun σ H Q => ta σ H fun vs H1 => ∃ v, vs = [v] ∧ ∀ d, H1 d = Option.none → Q (.ref C) (some d) (upd H1 d (.xd [(f, v)]))
theorem pmk_ext {a : Expr} {ta : TA} {p pos : Pos} {k : Nat} (T : ExG X.prog X.K X.mg x C f) (hr : Room k X.A) (ha : PA X [a] ta) (hg : Gl X x) (hdb : (x == ("__debug__" : Str)) = false := by decide)
    (he : starEach (a :: []) X.env = (false, eval a X.env) :: starEach [] X.env := by rfl) (hpl : (backTo pos (starEach [] X.env)).any (·.1) = false := by rfl) :
    PMk X (.Call (.Name x p) [a] [] pos) (tMkX C f ta) := by
  intro pins s σ H Q I h
  refine wpAny_Call_Name_kw (ld_glob I hg T.g ?_ hdb)
  refine PySem.W.callWith_K (h₀ := X.base) I.ok.mod.kin T.k (thn (ha.run pos pins s σ H _ I h) fun us s1 hh => ?_) he hpl
  obtain ⟨vs, H1, I1, r1, v, ev, q1⟩ := hh
  subst ev
  refine ⟨I1.kIn, ?_⟩
  cases r1 with
  | cons rv rn =>
    rename_i v' us'
    cases rn
    show wpAny _ _ (call (.ref C) [v']) _ _ _
    have hlim := I1.nolimit
    obtain ⟨hp, g, dr, tk, os⟩ := s1
    obtain ⟨fI, T1⟩ := T.t
    obtain ⟨mb, hb1, hb2⟩ := I1.mod.blt
    refine wpAny_call (XS.ext_made T1 T.fo I1.kIn hlim (I1.mod.glob.keeps I1.bk) ⟨mb, hb1.keeps I1.bk, (hb2 _ (by decide)).trans (by decide +kernel)⟩ T.hsup (by have := hr.dp; omega) fun h' tk' e d M => ?_)
    show MkP X pins σ Q (.ref e) ⟨h', g, dr, tk', os⟩
    obtain ⟨oe, fv, hoe, hc, hd, hdat, h1⟩ := M.obj
    have hns := M.ns
    obtain ⟨G', g1, g2⟩ := restrict h' fun b => decide (b ≠ e)
    have gk : ∀ b, b ≠ e → G'.get? b = h'.get? b := fun b hb => g1 b (decide_eq_true hb)
    have ge : G'.get? e = none := g2 e (by simp)
    have old : ∀ b o, hp.get? b = some o → G'.get? b = some o := fun b o q => (gk b (Nat.ne_of_lt (Nat.lt_of_lt_of_le (Heap.lt_size q) M.new))).trans (M.keep b o q)
    have ob : ObjOk X.prog X.w (upd H1 d (.xd [(f, v)])) G' d (.xd [(f, v)]) :=
      ⟨_, hns.at (fun o q => (gk d M.dne).trans q), fun y => relO_fld rv y⟩
    have J : Inv X pins σ (upd H1 d (.xd [(f, v)])) ⟨G', g, dr, tk', os⟩ := I1.laid (t' := tk') old M.dbig ob
    refine ⟨e, oe, fv, ⟨G', g, dr, tk', os⟩, _, .ref C, some d, rfl, J, fun b o q => ?_, ge, hoe, ⟨hc, hd⟩, hdat, h1, ?_, rfl, I1.bare, raises_own T.ex T.ty, q1 d (I1.hok.fresh M.dbig)⟩
    · by_cases hb : b = e
      · have q' : G'.get? b = some o := q
        rw [hb, ge] at q'; cases q'
      · exact (gk b hb).symm.trans q
    · rw [upd_ne (Ne.symm M.dne)]
      exact I1.hok.fresh M.new
end

/-! the results of defs that may raise -/
inductive Rx where
  | v (d : D)
  | x (n : Str) (d : D)
abbrev XC := Str → Addr × Str
def enR (xc : XC) : Rx → En
  | .v d => .rt d
  | .x n d => .ex (xc n).1 (xc n).2 d
theorem enR_no {xc : XC} (r : Rx) (ρ' : List Sl) : enR xc r ≠ .nx ρ' := by
  cases r <;> intro e <;> cases e
/-- a return, or an error -/
def isOut : En → Bool
  | .rt _ => true
  | .ex _ _ _ => true
  | _ => false
theorem enR_out {xc : XC} (r : Rx) : isOut (enR xc r) = true := by cases r <;> rfl
/-- what is wanted behind a call that may raise -/
def PR (K : PySem.W.Frag) (q : Option Addr) (Hb H : Hp) (xc : XC) (Q : V → Hp → Prop) (E : XK) : Rx → Nat → Prop
  | .v d, g => PD K q Hb H Q d g
  | .x n d, g => ∀ v dd Hb' H', Step q Hb H Hb' H' → Ok K q Hb' H' g → Dn K Hb' v d → H' dd = some (.xd [((xc n).2, v)]) → E (.ref (xc n).1) (some dd) H'
theorem pr_after {K : PySem.W.Frag} {q : Option Addr} {Hb H Hb1 H1 : Hp} {xc : XC} {Q : V → Hp → Prop} {E : XK} {r : Rx} {g g1 : Nat} (ok1 : Ok K q Hb1 H1 g1) (s : Step q Hb H Hb1 H1) (h : PR K q Hb H xc Q E r g) : PR K q Hb1 H1 xc Q E r g := by
  cases r with
  | v d => exact pd_after ok1 s h
  | x n d => exact fun v dd Hb' H' s' o' dv e => h v dd Hb' H' (s.trans ok1 s') o' dv e
def DXE (X : Ctx) (q : Option Addr) (ρ : List Sl) (xc : XC) (e : Expr) (t : T Rx) : Prop := ∀ σ Hb H g Q, Ok X.K q Hb H g → Sls X.K q Hb H ρ σ → t.ok g (PR X.K q Hb H xc Q (fun c d H' => X.W c d σ H')) → wE X e σ H Q
def spE (K : PySem.W.Frag) (xc : XC) (n : Nat) (m : List D → T Rx) : Sp := fun vs H Q E => ∃ q Hb g ds, Ok K q Hb H g ∧ DnAll K Hb vs ds ∧ ds.length = n ∧ (m ds).ok g (PR K q Hb H xc Q E)
structure FdE (P : Program) (w : World) (K : PySem.W.Frag) (mg : Str → Option Value) (k : Nat) (x : Str) (sp : Sp) : Prop where
  ex : ∃ f fd ps, mg x = some (.ref f) ∧ PySem.W.keepIn K (.ref f) = true ∧ Binds K fd ps [] ∧ ∀ base, FnOk P w K mg base (L2.CX P w) k f fd ps sp
def noRx : Rx → T D
  | .v d => .ret d
  | .x _ _ => .fail
section
variable {X : Ctx} {q : Option Addr} {ρ : List Sl} {pos p p2 pos2 : Pos} {x y : Str} {k : Nat} {e e1 e2 : Expr} {es : List Expr} {xc : XC} {rest : List Stmt}
theorem dxe_call {n : Nat} {m : List D → T Rx} {ts : T (List D)} (F : FdE X.P X.w X.K X.mg k x (spE X.K xc n m)) (hr : Room k X.A) (hg : Gb X x) (ha : DA X q ρ (e :: es) ts) (hn : ∀ (g : Nat) (C : List D → Nat → Prop), ts.ok g C → ts.ok g fun ds g' => ds.length = n ∧ C ds g') (hdb : (x == ("__debug__" : Str)) = false := by decide)
    (he : ∀ env : Env, starEach (e :: es) env = (false, eval e env) :: starEach es env := by intro _; rfl) (hpl : ∀ env : Env, (backTo pos (starEach es env)).any (·.1) = false := by intro _; rfl) :
    DXE X q ρ xc (.Call (.Name x p) (e :: es) [] pos) (ts.bind m) := fun σ Hb H g Q ok0 sl ht => by
  obtain ⟨f, fd, ps, hm, hk, hb, F⟩ := F.ex
  refine ⟨tCallS (spE X.K xc n m) (WE X.W) (wA X (e :: es)), fun z => pe_callS (X := X.at z) (F _) hr (hg.gl z) hm hk hb (fun σ => passAt z.tk σ) pa_w hdb (he _) (hpl _), ?_⟩
  refine ha.run ok0 sl (hn _ _ (T.ok_bind.mp ht)) fun ds g1 vs Hb1 H1 c1 s1 ok1 sl1 d1 => ?_
  exact ⟨q, Hb1, g1, ds, ok1, d1, c1.1, T.ok_mono c1.2 fun r g' h => pr_after ok1 s1 h⟩
theorem dx_ofE {t : T Rx} (h : DXE X q ρ xc e t) : DX X q ρ e (t.bind noRx) := fun σ Hb H g Q ok0 sl ht => h σ Hb H g Q ok0 sl (T.ok_mono (T.ok_bind.mp ht) fun r g' c => by
  cases r with
  | v d => exact c
  | x n d => exact c.elim)
theorem ds_raise {R : Type} {ε : R → En} {inj : D → R} {a : Expr} {f : Str} {C : Addr} {t : T D} (hi : ∀ d, ε (inj d) = .ex C f d) (Tx : ExG X.P X.K X.mg x C f) (hr : Room k X.A) (hg : Gb X x) (h : DX X q ρ a t) (hdb : (x == ("__debug__" : Str)) = false := by decide)
    (he : ∀ env : Env, starEach [a] env = (false, eval a env) :: starEach [] env := by intro _; rfl) (hpl : ∀ env : Env, (backTo pos (starEach [] env)).any (·.1) = false := by intro _; rfl) :
    DS X q ρ (.Raise (some (.Call (.Name x p) [a] [] pos)) none pos2 :: rest) (t.bind fun d => .ret (inj d)) ε := fun σ Hb H g Cc ok0 sl ht => by
  refine ⟨_, fun z => pss_cons (ps_raise (X := X.at z) rfl z.tk (pmk_ext (X := X.at z) Tx hr (pa_cons pe_w pa_nil (he _)) (hg.gl z) hdb (he _) (hpl _))) pss_never, ?_⟩
  refine h.run ok0 sl (T.ok_bind.mp ht) fun d g1 v Hb1 H1 c1 s1 ok1 sl1 d1 => ⟨v, rfl, fun dd hdd => ?_⟩
  have c1 : EnP X.K X.W q (OwnP ρ σ) Hb H Cc (ε (inj d)) g1 := c1
  rw [hi] at c1
  exact c1 v dd σ Hb1 _ (.of (s1.trans ok1 (.own hdd))) (ok1.own hdd) d1 upd_same
end
/-- the body of a def that may raise -/
def bodyXE (P : Program) (w : World) (K : PySem.W.Frag) (mg : Str → Option Value) (A : Around) (N : List Str) (st : Stmt) (E : XK) : Ctx := ⟨P, w, K, mg, A, N, defScope st, fun _ => true, fun cls d _ H => E cls d H, true⟩
def Rst.topE {X : Ctx} (E : XK) (base : Heap) (s : Shared) (H : Hp) (env : Env) (outer : List Env) (hsc : env.scope = X.sc) (hW : X.W = fun cls d _ H => E cls d H) (hf : env.frame = some env.locals) : Rst X :=
  ⟨base, s, H, env, outer, env :: outer, [], [], fun e s' => wpAny (model X.P X.w) X.A (leaving env e) (fun _ s'' => L2.CX X.P X.w outer H s E e s'') (fun e' s'' => L2.CX X.P X.w outer H s E e' s'') s', hsc, PassesOwn.leaving, by rw [hW]; exact takes_of rfl hf rfl rfl, fun _ => ⟨rfl, hf⟩⟩
section
variable {P : Program} {w : World} {K : PySem.W.Frag} {mg : Str → Option Value} {x qual : Str} {st : Stmt} {f : Addr} {fd : FuncData} {N ps : List Str} {k n : Nat} {xc : XC}
theorem fn_deepE {m : List D → T Rx} (F : Fun K x qual st f fd) (S : FnScope N ps (defScope st)) (hps : ps.length = n) (body : ∀ A E q ds, Room k A → ds.length = n → DS (bodyXE P w K mg A N st E) q (argSl N ds) (defBody st) (m ds) (enR xc)) (base : Heap) :
    FnOk P w K mg base (L2.CX P w) (k + 1) f fd ps (spE K xc n m) := by
  refine F.okX S (fun vs H Q E ⟨q, Hb, g, ds, _, h1, h2, _⟩ => by rw [DnAll.len h1, h2, hps]) (fun cdv A outer s H vs Q E hr ⟨q, Hb, g, ds, ok0, h1, h2, h3⟩ => ?_)
  have noow : ∀ p, ¬ OwnP (argSl N ds) (L2.start N vs) p := fun p ⟨i, ds', e, _⟩ => argSl_now ds i ds' e
  have un : ∀ {Hb' H' : Hp}, StepO q (OwnP (argSl N ds) (L2.start N vs)) Hb H Hb' H' → Step q Hb H Hb' H' := fun so => ⟨so.ext, fun b o hb n => so.keep b o hb n (noow b), fun b o hb n => so.stay b o hb n (noow b)⟩
  obtain ⟨u, hu, q1⟩ := body (A.deeper (envOfC qual (defScope st) s.heap.objs.size f cdv)) E q ds hr h2 (L2.start N vs) Hb H g { nx := fun _ H' => Q .non H', rt := Q } ok0 (sls_start h1)
    (T.ok_mono h3 fun r g' h => by
      cases r with
      | v d => exact fun v Hb' H' so ok' dv => h v Hb' H' (un so) ok' dv
      | x nm d => exact fun v dd σ Hb' H' so ok' dv e => h v dd Hb' H' (un so) ok' dv e)
  exact ⟨u, hu (.topE E base s H (envOfC qual (defScope st) s.heap.objs.size f cdv) outer rfl rfl rfl), q1⟩
/-- a promise of nothing -/
theorem fn_none (F : Fun K x qual st f fd) (n : Nat) (base : Heap) : FnOk P w K mg base CX0 k f fd ps (spI K n fun _ => .fail) :=
  ⟨fun _ _ _ _ ⟨_, _, _, _, _, _, _, h⟩ => h.elim, fun _ _ _ _ _ _ _ _ _ _ _ _ _ ⟨_, _, _, _, _, _, _, h⟩ => h.elim⟩
end

/-! ### loops with any way out -/
inductive OX (S R : Type) where
  | nx (s : S) | ct (s : S) | bk (s : S) | out (r : R)
def enOX {S R : Type} (η : S → List Sl) (ε : R → En) : OX S R → En
  | .nx s => .nx (η s)
  | .ct s => .ct (η s)
  | .bk s => .bk (η s)
  | .out r => ε r
def T.loopX {S R : Type} (f : D → S → T (OX S R)) : List D → S → T (OX S R)
  | [], s => .ret (.nx s)
  | d :: l, s => (f d s).bind fun o => match o with
    | .nx s' => T.loopX f l s'
    | .ct s' => T.loopX f l s'
    | .bk s' => .ret (.bk s')
    | .out r => .ret (.out r)
/-- while: n turns at most -/
def T.whileX {S R : Type} (c : S → T Bool) (f : S → T (OX S R)) : Nat → S → T (OX S R)
  | 0, _ => .fail
  | n + 1, s => (c s).bind fun b => if b then (f s).bind fun o => match o with
      | .nx s' => T.whileX c f n s'
      | .ct s' => T.whileX c f n s'
      | .bk s' => .ret (.bk s')
      | .out r => .ret (.out r)
    else .ret (.nx s)
def endX {S R R' : Type} (k : S → T R') (inj : R → R') : OX S R → T R'
  | .nx s => k s
  | .ct s => k s
  | .bk s => k s
  | .out r => .ret (inj r)
/-- a way out of a loop's turn that doesn't fall through -/
inductive XX (S R : Type) where
  | ct (s : S) | bk (s : S) | out (r : R)
def XX.o {S R : Type} : XX S R → OX S R
  | .ct s => .ct s
  | .bk s => .bk s
  | .out r => .out r
def enXX {S R : Type} (η : S → List Sl) (ε : R → En) : XX S R → En
  | .ct s => .ct (η s)
  | .bk s => .bk (η s)
  | .out r => ε r
theorem enXX_no {S R : Type} {η : S → List Sl} {ε : R → En} (ho : ∀ r, isOut (ε r) = true) (r : XX S R) (ρ' : List Sl) : enXX η ε r ≠ .nx ρ' := by
  cases r with
  | ct s => intro e; cases e
  | bk s => intro e; cases e
  | out r =>
    intro e
    have h := ho r
    have e : ε r = .nx ρ' := e
    rw [e] at h
    cases h
theorem enXX_o {S R : Type} {η : S → List Sl} {ε : R → En} (r : XX S R) : enOX η ε r.o = enXX η ε r := by cases r <;> rfl
theorem out_any {K : PySem.W.Frag} {W : WX} {q : Option Addr} {O : Addr → Prop} {Hb H : Hp} {C C' : Ends} {e : En} {g : Nat} (ho : isOut e = true) (hr : C'.rt = C.rt) (h : EnP K W q O Hb H C e g) : EnP K W q O Hb H C' e g := by
  cases e with
  | rt d =>
    intro v Hb' H' s o dv
    rw [hr]
    exact h v Hb' H' s o dv
  | ex c f d => exact h
  | _ => cases ho
section
variable {X : Ctx} {q : Option Addr} {ρ : List Sl} {R R' S π : Type} {ε : R' → En} {ε0 : R → En} {rest body : List Stmt} {pos : Pos} {tg iter c : Expr} {η : S → List Sl} {s0 : S} {ts : T (List D)} {ix : List Nat} {dec : D → Option π} {env : S → π → List Sl} {inj : R → R'}
theorem ds_forX {tb : S → π → T (OX S R)} {k : S → T R'} (ho : ∀ r, isOut (ε0 r) = true) (di : DI X q ρ tg iter ts) (h0 : leR (η s0) ρ) (dg : ∀ s, DG X q (η s) ix tg dec (env s)) (hb : ∀ s b, DS X q (env s b) body (tb s b) (enOX η ε0)) (hr : ∀ s, DS X q (η s) rest (k s) ε)
    (hi : ∀ r, ε (inj r) = ε0 r) (hs : ∀ (env : Env) (x : Value), foldedSetIterable iter env x = pure x := by intro _ _; rfl) :
    DS X q ρ (.For tg iter body [] pos :: rest) (ts.bind fun ds => (T.loopX (fun d s => (T.opt (dec d)).bind (tb s)) ds s0).bind (endX k inj)) ε := fun σ Hb H g C ok0 sl ht => by
  refine ⟨tSeq (tFor (wI X tg iter) (wG X tg) (wSs X body)) (wSs X rest), fun z => pss_cons (ps_for z.own rfl pi_w pg_w pss_w (hs _)) pss_w, ?_⟩
  refine di σ Hb H g _ ok0 sl (T.ok_mono (T.ok_bind.mp ht) fun ds g1 c1 J Hb1 H1 s1 ok1 wk => ?_)
  generalize hPv : (fun (i : Nat) (σ2 : L2.St) (H2 : Hp) => ∃ s Hb2 g2, StepO q (OwnP ρ σ) Hb H Hb2 H2 ∧ Same Hb1 Hb2 ∧ Ok X.K q Hb2 H2 g2 ∧ Sls X.K q Hb2 H2 (η s) σ2 ∧ (∀ p, OwnP (η s) σ2 p → OwnP ρ σ p ∨ H p = Option.none) ∧
    ((T.loopX (fun d s => (T.opt (dec d)).bind (tb s)) (ds.drop i) s).bind (endX k inj)).ok g2 (fun r g' => EnP X.K X.W q (OwnP ρ σ) Hb H C (ε r) g')) = Pv
  refine ⟨fun i m σ2 H2 => m = ds.length - i ∧ i ≤ ds.length ∧ Pv i σ2 H2, ⟨ds.length, rfl, Nat.zero_le _, ?_⟩, ?_⟩
  · subst hPv
    exact ⟨s0, Hb1, g1, .of s1, Same.refl _, ok1, (sl.step s1).le h0, fun p hp => .inl (hp.le h0), c1⟩
  rintro i m σ2 H2 ⟨rfl, hi', pv⟩
  rw [← hPv] at pv
  obtain ⟨s, Hb2, g2, s2, m2, ok2, sl2, ow2, c2⟩ := pv
  obtain ⟨wgo, wstop⟩ := wk i Hb2 H2 g2 m2 ok2
  have fin : ∀ (s : S) (σ3 : L2.St) (Hb3 H3 : Hp) (g3 : Nat), StepO q (OwnP ρ σ) Hb H Hb3 H3 → Ok X.K q Hb3 H3 g3 → Sls X.K q Hb3 H3 (η s) σ3 → (∀ p, OwnP (η s) σ3 p → OwnP ρ σ p ∨ H p = Option.none) →
      (k s).ok g3 (fun r g' => EnP X.K X.W q (OwnP ρ σ) Hb H C (ε r) g') → wSs X rest C σ3 H3 := fun s σ3 Hb3 H3 g3 s3 ok3 sl3 ow3 c3 =>
    hr s σ3 Hb3 H3 g3 C ok3 sl3 (T.ok_mono c3 fun r g' h => enP_after ok3 ⟨g, ok0⟩ s3 ow3 h)
  by_cases hlt : i < ds.length
  · refine .inr ?_
    obtain ⟨go, yl⟩ := wgo _ (List.getElem?_eq_getElem hlt)
    refine ⟨go, Pv (i + 1), fun σ' H' p => ⟨ds.length - (i + 1), by omega, rfl, hlt, p⟩, fun x H3 y => ?_⟩
    obtain ⟨Hb3, s3, ok3, dx⟩ := yl x H3 y
    rw [List.drop_eq_getElem_cons hlt] at c2
    have so3 : StepO q (OwnP ρ σ) Hb H Hb3 H3 := StepO.trans ok2 s2 ow2 (.of s3)
    have c3 := T.ok_bind.mp (T.ok_bind.mp c2)
    obtain ⟨b, eb, c3⟩ := opt_ok (T.ok_bind.mp c3)
    refine (dg s).run x ds[i] σ2 Hb3 H3 g2 _ b ok3 (sl2.step s3) dx eb fun σ3 sl3 l3 k3 => ?_
    have ow3 : ∀ p, OwnP (env s b) σ3 p → OwnP ρ σ p ∨ H p = Option.none := fun p ⟨j, ds', e1, e2⟩ => by
      obtain ⟨n, e3⟩ := (dg s).how b j ds' e1
      exact ow2 p ⟨j, ds', e3, by rw [← k3 j n]; exact e2⟩
    have own : ∀ {σ4 : L2.St} {ρ4 : List Sl}, (∀ p, OwnP ρ4 σ4 p → OwnP (env s b) σ3 p ∨ H3 p = Option.none) → ∀ p, OwnP ρ4 σ4 p → OwnP ρ σ p ∨ H p = Option.none := fun {σ4 ρ4} h p hp => by
      rcases h p hp with y | y
      · exact ow3 p y
      · refine Classical.byCases (fun z : OwnP ρ σ p => .inl z) fun z => .inr ?_
        cases e : H p with
        | none => rfl
        | some o => rw [so3.keep p o e (free_nq ok3 y) z] at y; cases y
    refine hb s b σ3 Hb3 H3 g2 _ ok3 sl3 (T.ok_mono c3 fun o g' h => ?_)
    cases o with
    | nx s' =>
      intro σ4 Hb4 H4 s4 ok4 sl4 ow4
      show Pv (i + 1) σ4 H4
      subst hPv
      exact ⟨s', Hb4, g', StepO.trans ok3 so3 ow3 s4, (m2.trans s3.ext).trans s4.ext, ok4, sl4, own ow4, T.ok_bind.mpr h⟩
    | ct s' =>
      intro σ4 Hb4 H4 s4 ok4 sl4 ow4
      show Pv (i + 1) σ4 H4
      subst hPv
      exact ⟨s', Hb4, g', StepO.trans ok3 so3 ow3 s4, (m2.trans s3.ext).trans s4.ext, ok4, sl4, own ow4, T.ok_bind.mpr h⟩
    | bk s' =>
      intro σ4 Hb4 H4 s4 ok4 sl4 ow4
      exact fin s' σ4 Hb4 H4 g' (StepO.trans ok3 so3 ow3 s4) ok4 sl4 (own ow4) h
    | out r =>
      have h : EnP X.K X.W q (OwnP ρ σ) Hb H C (ε (inj r)) g' := h
      rw [hi] at h
      exact out_any (C := C) (e := ε0 r) (ho r) rfl (enP_after ok3 ⟨g, ok0⟩ so3 ow3 h)
  · have e : i = ds.length := by omega
    subst e
    refine .inl ⟨wstop (Nat.le_refl _), ?_⟩
    rw [List.drop_length] at c2
    exact fin s σ2 Hb2 H2 g2 s2 ok2 sl2 ow2 c2
/-- while c: body -/
theorem ds_whileX (n : Nat) {tc : S → T Bool} {tb : S → T (OX S R)} {k : S → T R'} (ho : ∀ r, isOut (ε0 r) = true) (h0 : leR (η s0) ρ) (hc : ∀ s, DT X q (η s) c (tc s)) (hb : ∀ s, DS X q (η s) body (tb s) (enOX η ε0)) (hr : ∀ s, DS X q (η s) rest (k s) ε) (hi : ∀ r, ε (inj r) = ε0 r) :
    DS X q ρ (.While c body [] pos :: rest) ((T.whileX tc tb n s0).bind (endX k inj)) ε := fun σ Hb H g C ok0 sl ht => by
  refine ⟨tSeq (tWhile (wT X c) (wSs X body)) (wSs X rest), fun z => pss_cons (ps_while z.own pt_w pss_w) pss_w, ?_⟩
  generalize hPv : (fun (i : Nat) (σ2 : L2.St) (H2 : Hp) => ∃ s Hb2 g2, StepO q (OwnP ρ σ) Hb H Hb2 H2 ∧ Ok X.K q Hb2 H2 g2 ∧ Sls X.K q Hb2 H2 (η s) σ2 ∧ (∀ p, OwnP (η s) σ2 p → OwnP ρ σ p ∨ H p = Option.none) ∧
    ((T.whileX tc tb i s).bind (endX k inj)).ok g2 (fun r g' => EnP X.K X.W q (OwnP ρ σ) Hb H C (ε r) g')) = Pv
  refine ⟨Pv, ⟨n, ?_⟩, fun i σ2 H2 pv => ?_⟩
  · subst hPv
    exact ⟨s0, Hb, g, .refl, ok0, sl.le h0, fun p hp => .inl (hp.le h0), ht⟩
  rw [← hPv] at pv
  obtain ⟨s, Hb2, g2, s2, ok2, sl2, ow2, c2⟩ := pv
  have fin : ∀ (s : S) (σ3 : L2.St) (Hb3 H3 : Hp) (g3 : Nat), StepO q (OwnP ρ σ) Hb H Hb3 H3 → Ok X.K q Hb3 H3 g3 → Sls X.K q Hb3 H3 (η s) σ3 → (∀ p, OwnP (η s) σ3 p → OwnP ρ σ p ∨ H p = Option.none) →
      (k s).ok g3 (fun r g' => EnP X.K X.W q (OwnP ρ σ) Hb H C (ε r) g') → wSs X rest C σ3 H3 := fun s σ3 Hb3 H3 g3 s3 ok3 sl3 ow3 c3 =>
    hr s σ3 Hb3 H3 g3 C ok3 sl3 (T.ok_mono c3 fun r g' h => enP_after ok3 ⟨g, ok0⟩ s3 ow3 h)
  cases i with
  | zero => exact (T.ok_bind.mp c2).elim
  | succ i =>
    have c2 := T.ok_bind.mp (T.ok_bind.mp c2)
    refine (hc s).run ok2 sl2 c2 fun b g3 Hb3 H3 c3 s3 ok3 sl3 => ?_
    have so3 : StepO q (OwnP ρ σ) Hb H Hb3 H3 := StepO.trans ok2 s2 ow2 (.of s3)
    have ow3 := ow2
    cases b with
    | false =>
      refine iteF ?_
      exact fin s σ2 Hb3 H3 g3 so3 ok3 sl3 ow3 c3
    | true =>
      refine iteT ⟨Pv i, fun σ' H' p => ⟨i, Nat.lt_succ_self i, p⟩, ?_⟩
      have c3 := T.ok_bind.mp c3
      have own : ∀ {σ4 : L2.St} {ρ4 : List Sl}, (∀ p, OwnP ρ4 σ4 p → OwnP (η s) σ2 p ∨ H3 p = Option.none) → ∀ p, OwnP ρ4 σ4 p → OwnP ρ σ p ∨ H p = Option.none := fun {σ4 ρ4} h p hp => by
        rcases h p hp with y | y
        · exact ow3 p y
        · refine Classical.byCases (fun z : OwnP ρ σ p => .inl z) fun z => .inr ?_
          cases e : H p with
          | none => rfl
          | some o => rw [so3.keep p o e (free_nq ok3 y) z] at y; cases y
      refine hb s σ2 Hb3 H3 g3 _ ok3 sl3 (T.ok_mono c3 fun o g' h => ?_)
      cases o with
      | nx s' =>
        intro σ4 Hb4 H4 s4 ok4 sl4 ow4
        show Pv i σ4 H4
        subst hPv
        exact ⟨s', Hb4, g', StepO.trans ok3 so3 ow3 s4, ok4, sl4, own ow4, T.ok_bind.mpr h⟩
      | ct s' =>
        intro σ4 Hb4 H4 s4 ok4 sl4 ow4
        show Pv i σ4 H4
        subst hPv
        exact ⟨s', Hb4, g', StepO.trans ok3 so3 ow3 s4, ok4, sl4, own ow4, T.ok_bind.mpr h⟩
      | bk s' =>
        intro σ4 Hb4 H4 s4 ok4 sl4 ow4
        exact fin s' σ4 Hb4 H4 g' (StepO.trans ok3 so3 ow3 s4) ok4 sl4 (own ow4) h
      | out r =>
        have h : EnP X.K X.W q (OwnP ρ σ) Hb H C (ε (inj r)) g' := h
        rw [hi] at h
        exact out_any (C := C) (e := ε0 r) (ho r) rfl (enP_after ok3 ⟨g, ok0⟩ so3 ow3 h)
end
end DD
end T_DX2

section T_DX3
set_option Elab.async false
set_option linter.all false
set_option maxRecDepth 100000
set_option maxHeartbeats 1000000
set_option autoImplicit false
/-! more rules: xs[::-1], list-valued if, min, xs.index, xs[i] = e, four targets, calls of more arguments -/
namespace DD
open PySem PySem.Spec L2
open PyProof.Rows hiding St

section
variable {X : Ctx} {q : Option Addr} {ρ : List Sl} {pos p p2 p3 : Pos} {x y : Str} {e e1 e2 e3 e4 e5 e6 c : Expr} {k : Nat} {t t1 t2 t3 t4 t5 t6 : T D}
def revLD : D → T (List D)
  | .list ds => .ret ds.reverse
  | _ => .fail
theorem df_revL (h : DX X q ρ e t) : DF X q ρ (.Subscript e (.Slice none none (some (.UnaryOp .USub (.Constant (.int 1) k p) p2)) p3) pos) (t.bind revLD) := fun σ Hb H g Q ok0 sl ht => by
  refine ⟨tRevL X.K (wE X e), fun z => pe_revL pe_w, ?_⟩
  refine h.run ok0 sl (T.ok_bind.mp ht) fun d g1 v Hb1 H1 c1 s1 ok1 sl1 d1 => ?_
  cases d1 with
  | lst e1 a1 => exact ⟨_, _, rfl, SqL.of (ok1.sub _ _ e1), fun l hl => c1 l _ Hb1 _ (s1.trans ok1 (.own hl)) (ok1.own hl) (ok1.sub.free hl) (step_free ok0 s1 (free_nq ok1 hl) hl) upd_same (DnAll.rev a1)⟩
  | _ => exact c1.elim
theorem df_if {a b : Expr} {tc : T Bool} {ta tb : T (List D)} (hc : DT X q ρ c tc) (ha : DF X q ρ a ta) (hb : DF X q ρ b tb) : DF X q ρ (.IfExp c a b pos) (tc.bind fun k => if k then ta else tb) := fun σ Hb H g Q ok0 sl ht => by
  refine ⟨_, fun z => pe_ifExp pt_w pe_w pe_w, ?_⟩
  refine hc.run ok0 sl (T.ok_bind.mp ht) fun k g1 Hb1 H1 c1 s1 ok1 sl1 => ?_
  cases k with
  | true => exact iteT (ha σ Hb1 H1 g1 Q ok1 sl1 (T.ok_mono c1 fun d g' h => pf_after ok0 ok1 s1 h))
  | false => exact iteF (hb σ Hb1 H1 g1 Q ok1 sl1 (T.ok_mono c1 fun d g' h => pf_after ok0 ok1 s1 h))
/-- min of two ints -/
def min2D : List D → T D
  | [.int i, .int j] => .ret (.int (if j < i then j else i))
  | _ => .fail
theorem dc_min2 : DC X q (.builtin "min") min2D := fun xs ds Hb H g Q ok0 hd ht => by
  unfold min2D at ht
  split at ht
  · rename_i i j
    cases hd with
    | cons h1 hd =>
      cases hd with
      | cons h2 hd =>
        cases hd
        cases h1
        cases h2
        exact ⟨_, fun z => call_min2 rfl, i, j, rfl, ht _ Hb H .refl ok0 (.int _)⟩
  · exact ht.elim
theorem dx_min2 (hg : Gb X "min") (hm : X.mg "min" = none) (h1 : DX X q ρ e1 t1) (h2 : DX X q ρ e2 t2)
    (he1 : ∀ env : Env, starEach [e1, e2] env = (false, eval e1 env) :: starEach [e2] env := by intro _; rfl) (he2 : ∀ env : Env, starEach [e2] env = (false, eval e2 env) :: starEach [] env := by intro _; rfl) (hpl : ∀ env : Env, (backTo pos (starEach [e2] env)).any (·.1) = false := by intro _; rfl) :
    DX X q ρ (.Call (.Name "min" p) [e1, e2] [] pos) (t1.bind fun a => t2.bind fun b => min2D [a, b]) := by
  have h := dx_callB (p := p) (pos := pos) dc_min2 hg hm (by decide +kernel) (da_cons h1 (da_cons h2 da_nil he2) he1) (by decide) (by decide) he1 hpl
  simp only [T.bind_assoc, T.ret_bind] at h
  exact h
/-- xs.index(e) -/
def indexL (ds : List D) (d : D) : Option Nat := ds.findIdx? fun z => PyData.eqv z d
def indexD : D → D → T D
  | .list ds, d => .need (SeqAt.shaped (.list ds) && SeqAt.shaped d && noDcts ds && noDct d) (match indexL ds d with | some j => .ret (.int (j : Nat)) | none => .fail)
  | _, _ => .fail
theorem dx_index {o : Expr} {to : T D} {ap cp : Pos} (hu : X.A.units + 65 < cLine) (ho : DX X q ρ o to) (h : DX X q ρ e t)
    (hbase : ∀ env : Env, attributeBase o "index" env (eval o env) = eval o env := by intro _; rfl)
    (hfew : ∀ env : Env, ((backTo cp (starEach [e] env)).all (fun x => !x.1) && (backToKw cp (keywordEach [] env)).all (fun x => x.1.isSome)
      && decide ([e].length + ([] : List Keyword).length + (if ([] : List Keyword).isEmpty then 0 else 1) < 30)) = true := by intro _; rfl)
    (hline : (ap.endLine == cp.line) = true := by rfl) (hs : ∀ env : Env, starEach [e] env = (false, eval e env) :: starEach [] env := by intro _; rfl) (hpl : ∀ env : Env, (backTo cp (starEach [] env)).any (·.1) = false := by intro _; rfl) :
    DX X q ρ (.Call (.Attribute o "index" ap) [e] [] cp) (to.bind fun a => t.bind fun d => indexD a d) := fun σ Hb H g Q ok0 sl ht => by
  refine ⟨tBM X.K "list" (rIndexD X.K) (wE X o) (tCons (wE X e) tNil), fun z => pe_bm (X := X.at z) PySem.F.plainAttrs_list PySem.F.slot_list_index PySem.F.type_list_index (mt_indexD hu) pe_w (pa_cons pe_w pa_nil (hs _)) (hbase _) (hfew _) hline (hs _) (hpl _), ?_⟩
  refine ho.run ok0 sl (T.ok_bind.mp ht) fun d g1 v Hb1 H1 c1 s1 ok1 sl1 d1 => ?_
  cases d1 with
  | lst f1 a1 =>
    refine ⟨.inl ⟨rfl, _, SqL.of (ok1.sub _ _ f1)⟩, ?_⟩
    refine h.run ok1 sl1 (T.ok_bind.mp c1) fun d' g2 v' Hb2 H2 c2 s2 ok2 sl2 d2 => ?_
    obtain ⟨hz, c2⟩ := T.ok_need c2
    rw [Bool.and_eq_true, Bool.and_eq_true, Bool.and_eq_true] at hz
    split at c2
    · rename_i j ej
      unfold indexL at ej
      obtain ⟨hj, h1, h2⟩ := List.findIdx?_eq_some_iff_getElem.mp ej
      have f2 := ok2.sub _ _ (s2.ext _ _ f1)
      have a2 := dnAll_mono (s2.ext.trans ok2.sub) _ _ a1
      refine ⟨_, v', d', _, j, _, rfl, rfl, .lst (SqL.of f2) (DnAll.dp _ _ hz.1.2 a2), Dn.dp _ _ hz.2 (dn_mono ok2.sub _ _ d2), hz.1.1.1, hz.1.1.2, List.getElem?_eq_getElem hj, h1, fun m z' hm e => ?_, c2 _ Hb2 H2 (s1.trans ok1 s2) ok2 (.int _)⟩
      have := h2 m hm
      rw [List.getElem?_eq_getElem (Nat.lt_trans hm hj)] at e
      cases e
      simpa using this
    · exact c2.elim
  | _ => exact (T.ok_bind.mp c1 |> fun h => by
      exfalso
      revert h
      intro h
      obtain ⟨a, g', z⟩ := T.ok_some h
      exact z.elim)
end
section
variable {K : PySem.W.Frag} {q : Option Addr} {Hb H Hb1 H1 : Hp} {ρ : List Sl} {σ : L2.St} {g g1 : Nat}
/-- the list that slot i owns is another one now -/
theorem own_new {i : Nat} {ds ds' : List D} {p : Addr} {vs vs' : List V} (ok0 : Ok K q Hb H g) (sl : Sls K q Hb H ρ σ) (er : ρ[i]? = some (Sl.ow ds)) (e1 : σ[i]? = some (some (.ref p))) (h1 : H p = some (.lst vs)) (h2 : Hb p = Option.none) (h4 : q ≠ some p)
    (s1 : Step q Hb H Hb1 H1) (ok1 : Ok K q Hb1 H1 g1) (f3 : DnAll K Hb1 vs' ds') :
    StepO q (OwnP ρ σ) Hb H Hb1 (upd H1 p (.lst vs')) ∧ Ok K q Hb1 (upd H1 p (.lst vs')) g1 ∧ Sls K q Hb1 (upd H1 p (.lst vs')) (ρ.set i (.ow ds')) σ ∧ ∀ p', OwnP (ρ.set i (.ow ds')) σ p' → OwnP ρ σ p' := by
  have sl1 := sl.step s1
  have f2 : Hb1 p = Option.none := s1.stay _ _ h1 h2
  have hO : OwnP ρ σ p := ⟨i, ds, er, e1⟩
  have hir : i < ρ.length := (List.getElem?_eq_some_iff.mp er).1
  refine ⟨⟨s1.ext, fun b o hb n nO => by rw [upd_ne (fun (y : b = p) => nO (by rw [y]; exact hO))]; exact s1.keep b o hb n, fun b o hb n _ => s1.stay b o hb n⟩, ⟨fun b u hb => ?_, fun a ha => ⟨(ok1.pool a ha).1, (ok1.pool a ha).2.keep (Same.refl _) fun u hu => by rw [upd_ne (fun y => h4 (by rw [ha, y]))]; exact hu⟩⟩, ⟨by rw [List.length_set]; exact sl.len, fun j sl' ej => ?_, fun j k a b p' e2 e3 e4 e5 => ?_⟩, fun p' ⟨j, a, z1, z2⟩ => ?_⟩
  · rw [upd_ne (fun y => by rw [y, f2] at hb; cases hb)]
    exact ok1.sub _ _ hb
  · by_cases hj : i = j
    · subst hj
      rw [List.getElem?_set_self hir] at ej
      cases ej
      exact ⟨_, e1, p, _, rfl, upd_same, f2, f3, h4⟩
    · rw [List.getElem?_set_ne hj] at ej
      obtain ⟨s, e2, r⟩ := sl1.rel j sl' ej
      refine ⟨s, e2, ?_⟩
      cases sl' with
      | un => trivial
      | va d => exact r
      | po => exact r
      | fz ns => exact r
      | ow es =>
        obtain ⟨p', vs2, y1, y2, y3, y4, y5⟩ := r
        refine ⟨p', vs2, y1, ?_, y3, y4, y5⟩
        rw [upd_ne (fun z => hj (sl.sep i j ds es p er ej e1 (by rw [e2, y1, z])))]
        exact y2
  · have look : ∀ (j : Nat) (es : List D), (ρ.set i (Sl.ow ds'))[j]? = some (Sl.ow es) → ∃ es', ρ[j]? = some (Sl.ow es') := fun j es ej => by
      by_cases hj : i = j
      · subst hj; exact ⟨ds, er⟩
      · rw [List.getElem?_set_ne hj] at ej; exact ⟨es, ej⟩
    obtain ⟨a1, b1⟩ := look j a e2
    obtain ⟨a2, b2⟩ := look k b e3
    exact sl.sep j k a1 a2 p' b1 b2 e4 e5
  · by_cases hj : i = j
    · subst hj
      exact ⟨i, ds, er, z2⟩
    · rw [List.getElem?_set_ne hj] at z1
      exact ⟨j, a, z1, z2⟩
end
section
variable {X : Ctx} {q : Option Addr} {ρ : List Sl} {R : Type} {ε : R → En} {rest : List Stmt} {pos : Pos}
def putL (ds : List D) : D → D → T (List D)
  | .int k, d => match ixN ds.length k with
    | some j => .ret (ds.set j d)
    | none => .fail
  | _, _ => .fail
theorem dnAll_set {K : PySem.W.Frag} {H : Hp} {v : V} {d : D} : ∀ {vs : List V} {ds : List D} (j : Nat), DnAll K H vs ds → Dn K H v d → DnAll K H (vs.set j v) (ds.set j d)
  | _, _, _, .nil, _ => .nil
  | _, _, 0, .cons _ t, h => .cons h t
  | _, _, j + 1, .cons h1 t, h => .cons h1 (dnAll_set j t h)
/-- x[i] = e, x's own list -/
theorem ds_put (i : Nat) {ds : List D} {x : Str} {px sp : Pos} {e ie : Expr} {t ti : T D} {k : List D → T R} (er : ρ[i]? = some (Sl.ow ds)) (hN : X.N[i]? = some x) (hv : Vis X.sc x) (h : DX X q ρ e t) (hi : DX X q ρ ie ti)
    (hk : ∀ ds', DS X q (ρ.set i (.ow ds')) rest (k ds') ε) (hd : (x == ("__debug__" : Str)) = false := by decide) (hcd : (x == ("__classdict__" : Str)) = false := by decide)
    (ha : ∀ (env : Env) v, assign (.Subscript (.Name x px) ie sp) env v = (do
      let ov ← holding [v] (eval (.Name x px) env)
      let iv ← holding [v, ov] (eval ie env)
      standAt sp
      holding [v, ov, iv] (setItem ov iv v)
      release [v, ov, iv] []) := by intro _ _; rfl)
    (hs : ∀ env : Env, swapsWithSole [.Subscript (.Name x px) ie sp] e pos.line env = pure false := by intro _; rfl) (hw : ∀ env : Env, swappedStores [.Subscript (.Name x px) ie sp] e env = pure none := by intro _; rfl) (h1 : ∀ env : Env, (assignEach [.Subscript (.Name x px) ie sp] env).map (·.2) = [assign (.Subscript (.Name x px) ie sp) env] := by intro _; rfl) :
    DS X q ρ (.Assign [.Subscript (.Name x px) ie sp] e pos :: rest) (t.bind fun d => ti.bind fun j => (putL ds j d).bind k) ε := fun σ Hb H g C ok0 sl ht => by
  refine ⟨tSeq (tAsg (wE X e) (gSub (tVar i) (wE X ie) rSetL)) (wSs X rest), fun z => pss_cons (ps_asg pe_w (pg_sub (pe_var hN (by rw [z.hsc]; exact hv) hd hcd) pe_w set_list (ha _)) (hs _) (hw _) (h1 _)) pss_w, ?_⟩
  obtain ⟨s, e1, r⟩ := sl.rel i _ er
  obtain ⟨p, vs, rfl, g1', g2', g3', g4'⟩ := r
  refine h.run ok0 sl (T.ok_bind.mp ht) fun d g1 v Hb1 H1 c1 s1 ok1 sl1 d1 => ?_
  refine ⟨_, e1, ?_⟩
  refine hi.run ok1 sl1 (T.ok_bind.mp c1) fun d' g2 v' Hb2 H2 c2 s2 ok2 sl2 d2 => ?_
  cases d2 with
  | int kk =>
    simp only [putL] at c2
    split at c2
    · rename_i j ej
      have s12 := s1.trans ok1 s2
      have f1 : H2 p = some (.lst vs) := s12.keep _ _ g1' g4'
      have f3 := dnAll_mono s12.ext _ _ g3'
      refine ⟨p, vs, kk, j, rfl, rfl, f1, by rw [DnAll.len f3]; exact ej, ?_⟩
      obtain ⟨so, ok3, sl3, ow3⟩ := own_new (ds' := ds.set j d) ok0 sl er e1 g1' g2' g4' s12 ok2 (dnAll_set j f3 (dn_mono s2.ext _ _ d1))
      exact hk _ σ Hb2 _ g2 C ok3 sl3 (T.ok_mono c2 fun r g' h => enP_after ok3 ⟨g, ok0⟩ so (fun p' hp => .inl (ow3 p' hp)) h)
    · exact c2.elim
  | _ => exact c2.elim
end
end DD
end T_DX3

section T_DX4
set_option Elab.async false
set_option linter.all false
set_option maxRecDepth 100000
set_option maxHeartbeats 1000000
set_option autoImplicit false
/-! calls of more arguments, four targets, a try -/
namespace DD
open PySem PySem.Spec L2
open PyProof.Rows hiding St
def ar5 (m : D → D → D → D → D → T D) : List D → T D | [a, b, c, d, e] => m a b c d e | _ => .fail
def xr5 (m : D → D → D → D → D → T Rx) : List D → T Rx | [a, b, c, d, e] => m a b c d e | _ => .fail
def ar6 (m : D → D → D → D → D → D → T D) : List D → T D | [a, b, c, d, e, f] => m a b c d e f | _ => .fail
def xr6 (m : D → D → D → D → D → D → T Rx) : List D → T Rx | [a, b, c, d, e, f] => m a b c d e f | _ => .fail
def xr1 (m : D → T Rx) : List D → T Rx | [a] => m a | _ => .fail
def xr2 (m : D → D → T Rx) : List D → T Rx | [a, b] => m a b | _ => .fail
def xr3 (m : D → D → D → T Rx) : List D → T Rx | [a, b, c] => m a b c | _ => .fail
def xr4 (m : D → D → D → D → T Rx) : List D → T Rx | [a, b, c, d] => m a b c d | _ => .fail
section
variable {X : Ctx} {q : Option Addr} {ρ : List Sl} {pos p p2 : Pos} {x y : Str} {k : Nat} {e1 e2 e3 e4 e5 e6 : Expr} {t1 t2 t3 t4 t5 t6 : T D} {xc : XC}
theorem dx_call4 {m : D → D → D → D → T D} (F : Fd X.P X.w X.K X.mg k x (spI X.K 4 (ar4 m))) (hr : Room k X.A) (hg : Gb X x) (h1 : DX X q ρ e1 t1) (h2 : DX X q ρ e2 t2) (h3 : DX X q ρ e3 t3) (h4 : DX X q ρ e4 t4) (hdb : (x == ("__debug__" : Str)) = false := by decide)
    (he1 : ∀ env : Env, starEach [e1, e2, e3, e4] env = (false, eval e1 env) :: starEach [e2, e3, e4] env := by intro _; rfl) (he2 : ∀ env : Env, starEach [e2, e3, e4] env = (false, eval e2 env) :: starEach [e3, e4] env := by intro _; rfl) (he3 : ∀ env : Env, starEach [e3, e4] env = (false, eval e3 env) :: starEach [e4] env := by intro _; rfl) (he4 : ∀ env : Env, starEach [e4] env = (false, eval e4 env) :: starEach [] env := by intro _; rfl) (hpl : ∀ env : Env, (backTo pos (starEach [e2, e3, e4] env)).any (·.1) = false := by intro _; rfl) :
    DX X q ρ (.Call (.Name x p) [e1, e2, e3, e4] [] pos) (t1.bind fun a => t2.bind fun b => t3.bind fun c => t4.bind fun d => m a b c d) := by
  have h := dx_call (p := p) (pos := pos) F hr hg (da_cons h1 (da_cons h2 (da_cons h3 (da_cons h4 da_nil he4) he3) he2) he1) (fun g C h => by
    simp only [T.ret_bind, T.bind_assoc] at h ⊢
    exact T.ok_bind.mpr (T.ok_mono (T.ok_bind.mp h) fun x1 g1 h => T.ok_bind.mpr (T.ok_mono (T.ok_bind.mp h) fun x2 g2 h => T.ok_bind.mpr (T.ok_mono (T.ok_bind.mp h) fun x3 g3 h => T.ok_bind.mpr (T.ok_mono (T.ok_bind.mp h) fun x4 g4 h => ⟨rfl, h⟩))))) hdb he1 hpl
  simp only [T.bind_assoc, T.ret_bind] at h
  exact h
theorem dx_call5 {m : D → D → D → D → D → T D} (F : Fd X.P X.w X.K X.mg k x (spI X.K 5 (ar5 m))) (hr : Room k X.A) (hg : Gb X x) (h1 : DX X q ρ e1 t1) (h2 : DX X q ρ e2 t2) (h3 : DX X q ρ e3 t3) (h4 : DX X q ρ e4 t4) (h5 : DX X q ρ e5 t5) (hdb : (x == ("__debug__" : Str)) = false := by decide)
    (he1 : ∀ env : Env, starEach [e1, e2, e3, e4, e5] env = (false, eval e1 env) :: starEach [e2, e3, e4, e5] env := by intro _; rfl) (he2 : ∀ env : Env, starEach [e2, e3, e4, e5] env = (false, eval e2 env) :: starEach [e3, e4, e5] env := by intro _; rfl) (he3 : ∀ env : Env, starEach [e3, e4, e5] env = (false, eval e3 env) :: starEach [e4, e5] env := by intro _; rfl) (he4 : ∀ env : Env, starEach [e4, e5] env = (false, eval e4 env) :: starEach [e5] env := by intro _; rfl) (he5 : ∀ env : Env, starEach [e5] env = (false, eval e5 env) :: starEach [] env := by intro _; rfl) (hpl : ∀ env : Env, (backTo pos (starEach [e2, e3, e4, e5] env)).any (·.1) = false := by intro _; rfl) :
    DX X q ρ (.Call (.Name x p) [e1, e2, e3, e4, e5] [] pos) (t1.bind fun a => t2.bind fun b => t3.bind fun c => t4.bind fun d => t5.bind fun e => m a b c d e) := by
  have h := dx_call (p := p) (pos := pos) F hr hg (da_cons h1 (da_cons h2 (da_cons h3 (da_cons h4 (da_cons h5 da_nil he5) he4) he3) he2) he1) (fun g C h => by
    simp only [T.ret_bind, T.bind_assoc] at h ⊢
    exact T.ok_bind.mpr (T.ok_mono (T.ok_bind.mp h) fun x1 g1 h => T.ok_bind.mpr (T.ok_mono (T.ok_bind.mp h) fun x2 g2 h => T.ok_bind.mpr (T.ok_mono (T.ok_bind.mp h) fun x3 g3 h => T.ok_bind.mpr (T.ok_mono (T.ok_bind.mp h) fun x4 g4 h => T.ok_bind.mpr (T.ok_mono (T.ok_bind.mp h) fun x5 g5 h => ⟨rfl, h⟩)))))) hdb he1 hpl
  simp only [T.bind_assoc, T.ret_bind] at h
  exact h
theorem dx_call6 {m : D → D → D → D → D → D → T D} (F : Fd X.P X.w X.K X.mg k x (spI X.K 6 (ar6 m))) (hr : Room k X.A) (hg : Gb X x) (h1 : DX X q ρ e1 t1) (h2 : DX X q ρ e2 t2) (h3 : DX X q ρ e3 t3) (h4 : DX X q ρ e4 t4) (h5 : DX X q ρ e5 t5) (h6 : DX X q ρ e6 t6) (hdb : (x == ("__debug__" : Str)) = false := by decide)
    (he1 : ∀ env : Env, starEach [e1, e2, e3, e4, e5, e6] env = (false, eval e1 env) :: starEach [e2, e3, e4, e5, e6] env := by intro _; rfl) (he2 : ∀ env : Env, starEach [e2, e3, e4, e5, e6] env = (false, eval e2 env) :: starEach [e3, e4, e5, e6] env := by intro _; rfl) (he3 : ∀ env : Env, starEach [e3, e4, e5, e6] env = (false, eval e3 env) :: starEach [e4, e5, e6] env := by intro _; rfl) (he4 : ∀ env : Env, starEach [e4, e5, e6] env = (false, eval e4 env) :: starEach [e5, e6] env := by intro _; rfl) (he5 : ∀ env : Env, starEach [e5, e6] env = (false, eval e5 env) :: starEach [e6] env := by intro _; rfl) (he6 : ∀ env : Env, starEach [e6] env = (false, eval e6 env) :: starEach [] env := by intro _; rfl) (hpl : ∀ env : Env, (backTo pos (starEach [e2, e3, e4, e5, e6] env)).any (·.1) = false := by intro _; rfl) :
    DX X q ρ (.Call (.Name x p) [e1, e2, e3, e4, e5, e6] [] pos) (t1.bind fun a => t2.bind fun b => t3.bind fun c => t4.bind fun d => t5.bind fun e => t6.bind fun f => m a b c d e f) := by
  have h := dx_call (p := p) (pos := pos) F hr hg (da_cons h1 (da_cons h2 (da_cons h3 (da_cons h4 (da_cons h5 (da_cons h6 da_nil he6) he5) he4) he3) he2) he1) (fun g C h => by
    simp only [T.ret_bind, T.bind_assoc] at h ⊢
    exact T.ok_bind.mpr (T.ok_mono (T.ok_bind.mp h) fun x1 g1 h => T.ok_bind.mpr (T.ok_mono (T.ok_bind.mp h) fun x2 g2 h => T.ok_bind.mpr (T.ok_mono (T.ok_bind.mp h) fun x3 g3 h => T.ok_bind.mpr (T.ok_mono (T.ok_bind.mp h) fun x4 g4 h => T.ok_bind.mpr (T.ok_mono (T.ok_bind.mp h) fun x5 g5 h => T.ok_bind.mpr (T.ok_mono (T.ok_bind.mp h) fun x6 g6 h => ⟨rfl, h⟩))))))) hdb he1 hpl
  simp only [T.bind_assoc, T.ret_bind] at h
  exact h
theorem dxe_call1 {m : D → T Rx} (F : FdE X.P X.w X.K X.mg k x (spE X.K xc 1 (xr1 m))) (hr : Room k X.A) (hg : Gb X x) (h1 : DX X q ρ e1 t1) (hdb : (x == ("__debug__" : Str)) = false := by decide)
    (he1 : ∀ env : Env, starEach [e1] env = (false, eval e1 env) :: starEach [] env := by intro _; rfl) (hpl : ∀ env : Env, (backTo pos (starEach [] env)).any (·.1) = false := by intro _; rfl) :
    DXE X q ρ xc (.Call (.Name x p) [e1] [] pos) (t1.bind fun a => m a) := by
  have h := dxe_call (p := p) (pos := pos) F hr hg (da_cons h1 da_nil he1) (fun g C h => by
    simp only [T.ret_bind, T.bind_assoc] at h ⊢
    exact T.ok_bind.mpr (T.ok_mono (T.ok_bind.mp h) fun x1 g1 h => ⟨rfl, h⟩)) hdb he1 hpl
  simp only [T.bind_assoc, T.ret_bind] at h
  exact h
theorem dxe_call2 {m : D → D → T Rx} (F : FdE X.P X.w X.K X.mg k x (spE X.K xc 2 (xr2 m))) (hr : Room k X.A) (hg : Gb X x) (h1 : DX X q ρ e1 t1) (h2 : DX X q ρ e2 t2) (hdb : (x == ("__debug__" : Str)) = false := by decide)
    (he1 : ∀ env : Env, starEach [e1, e2] env = (false, eval e1 env) :: starEach [e2] env := by intro _; rfl) (he2 : ∀ env : Env, starEach [e2] env = (false, eval e2 env) :: starEach [] env := by intro _; rfl) (hpl : ∀ env : Env, (backTo pos (starEach [e2] env)).any (·.1) = false := by intro _; rfl) :
    DXE X q ρ xc (.Call (.Name x p) [e1, e2] [] pos) (t1.bind fun a => t2.bind fun b => m a b) := by
  have h := dxe_call (p := p) (pos := pos) F hr hg (da_cons h1 (da_cons h2 da_nil he2) he1) (fun g C h => by
    simp only [T.ret_bind, T.bind_assoc] at h ⊢
    exact T.ok_bind.mpr (T.ok_mono (T.ok_bind.mp h) fun x1 g1 h => T.ok_bind.mpr (T.ok_mono (T.ok_bind.mp h) fun x2 g2 h => ⟨rfl, h⟩))) hdb he1 hpl
  simp only [T.bind_assoc, T.ret_bind] at h
  exact h
theorem dxe_call3 {m : D → D → D → T Rx} (F : FdE X.P X.w X.K X.mg k x (spE X.K xc 3 (xr3 m))) (hr : Room k X.A) (hg : Gb X x) (h1 : DX X q ρ e1 t1) (h2 : DX X q ρ e2 t2) (h3 : DX X q ρ e3 t3) (hdb : (x == ("__debug__" : Str)) = false := by decide)
    (he1 : ∀ env : Env, starEach [e1, e2, e3] env = (false, eval e1 env) :: starEach [e2, e3] env := by intro _; rfl) (he2 : ∀ env : Env, starEach [e2, e3] env = (false, eval e2 env) :: starEach [e3] env := by intro _; rfl) (he3 : ∀ env : Env, starEach [e3] env = (false, eval e3 env) :: starEach [] env := by intro _; rfl) (hpl : ∀ env : Env, (backTo pos (starEach [e2, e3] env)).any (·.1) = false := by intro _; rfl) :
    DXE X q ρ xc (.Call (.Name x p) [e1, e2, e3] [] pos) (t1.bind fun a => t2.bind fun b => t3.bind fun c => m a b c) := by
  have h := dxe_call (p := p) (pos := pos) F hr hg (da_cons h1 (da_cons h2 (da_cons h3 da_nil he3) he2) he1) (fun g C h => by
    simp only [T.ret_bind, T.bind_assoc] at h ⊢
    exact T.ok_bind.mpr (T.ok_mono (T.ok_bind.mp h) fun x1 g1 h => T.ok_bind.mpr (T.ok_mono (T.ok_bind.mp h) fun x2 g2 h => T.ok_bind.mpr (T.ok_mono (T.ok_bind.mp h) fun x3 g3 h => ⟨rfl, h⟩)))) hdb he1 hpl
  simp only [T.bind_assoc, T.ret_bind] at h
  exact h
theorem dxe_call4 {m : D → D → D → D → T Rx} (F : FdE X.P X.w X.K X.mg k x (spE X.K xc 4 (xr4 m))) (hr : Room k X.A) (hg : Gb X x) (h1 : DX X q ρ e1 t1) (h2 : DX X q ρ e2 t2) (h3 : DX X q ρ e3 t3) (h4 : DX X q ρ e4 t4) (hdb : (x == ("__debug__" : Str)) = false := by decide)
    (he1 : ∀ env : Env, starEach [e1, e2, e3, e4] env = (false, eval e1 env) :: starEach [e2, e3, e4] env := by intro _; rfl) (he2 : ∀ env : Env, starEach [e2, e3, e4] env = (false, eval e2 env) :: starEach [e3, e4] env := by intro _; rfl) (he3 : ∀ env : Env, starEach [e3, e4] env = (false, eval e3 env) :: starEach [e4] env := by intro _; rfl) (he4 : ∀ env : Env, starEach [e4] env = (false, eval e4 env) :: starEach [] env := by intro _; rfl) (hpl : ∀ env : Env, (backTo pos (starEach [e2, e3, e4] env)).any (·.1) = false := by intro _; rfl) :
    DXE X q ρ xc (.Call (.Name x p) [e1, e2, e3, e4] [] pos) (t1.bind fun a => t2.bind fun b => t3.bind fun c => t4.bind fun d => m a b c d) := by
  have h := dxe_call (p := p) (pos := pos) F hr hg (da_cons h1 (da_cons h2 (da_cons h3 (da_cons h4 da_nil he4) he3) he2) he1) (fun g C h => by
    simp only [T.ret_bind, T.bind_assoc] at h ⊢
    exact T.ok_bind.mpr (T.ok_mono (T.ok_bind.mp h) fun x1 g1 h => T.ok_bind.mpr (T.ok_mono (T.ok_bind.mp h) fun x2 g2 h => T.ok_bind.mpr (T.ok_mono (T.ok_bind.mp h) fun x3 g3 h => T.ok_bind.mpr (T.ok_mono (T.ok_bind.mp h) fun x4 g4 h => ⟨rfl, h⟩))))) hdb he1 hpl
  simp only [T.bind_assoc, T.ret_bind] at h
  exact h
theorem dxe_call5 {m : D → D → D → D → D → T Rx} (F : FdE X.P X.w X.K X.mg k x (spE X.K xc 5 (xr5 m))) (hr : Room k X.A) (hg : Gb X x) (h1 : DX X q ρ e1 t1) (h2 : DX X q ρ e2 t2) (h3 : DX X q ρ e3 t3) (h4 : DX X q ρ e4 t4) (h5 : DX X q ρ e5 t5) (hdb : (x == ("__debug__" : Str)) = false := by decide)
    (he1 : ∀ env : Env, starEach [e1, e2, e3, e4, e5] env = (false, eval e1 env) :: starEach [e2, e3, e4, e5] env := by intro _; rfl) (he2 : ∀ env : Env, starEach [e2, e3, e4, e5] env = (false, eval e2 env) :: starEach [e3, e4, e5] env := by intro _; rfl) (he3 : ∀ env : Env, starEach [e3, e4, e5] env = (false, eval e3 env) :: starEach [e4, e5] env := by intro _; rfl) (he4 : ∀ env : Env, starEach [e4, e5] env = (false, eval e4 env) :: starEach [e5] env := by intro _; rfl) (he5 : ∀ env : Env, starEach [e5] env = (false, eval e5 env) :: starEach [] env := by intro _; rfl) (hpl : ∀ env : Env, (backTo pos (starEach [e2, e3, e4, e5] env)).any (·.1) = false := by intro _; rfl) :
    DXE X q ρ xc (.Call (.Name x p) [e1, e2, e3, e4, e5] [] pos) (t1.bind fun a => t2.bind fun b => t3.bind fun c => t4.bind fun d => t5.bind fun e => m a b c d e) := by
  have h := dxe_call (p := p) (pos := pos) F hr hg (da_cons h1 (da_cons h2 (da_cons h3 (da_cons h4 (da_cons h5 da_nil he5) he4) he3) he2) he1) (fun g C h => by
    simp only [T.ret_bind, T.bind_assoc] at h ⊢
    exact T.ok_bind.mpr (T.ok_mono (T.ok_bind.mp h) fun x1 g1 h => T.ok_bind.mpr (T.ok_mono (T.ok_bind.mp h) fun x2 g2 h => T.ok_bind.mpr (T.ok_mono (T.ok_bind.mp h) fun x3 g3 h => T.ok_bind.mpr (T.ok_mono (T.ok_bind.mp h) fun x4 g4 h => T.ok_bind.mpr (T.ok_mono (T.ok_bind.mp h) fun x5 g5 h => ⟨rfl, h⟩)))))) hdb he1 hpl
  simp only [T.bind_assoc, T.ret_bind] at h
  exact h
theorem dx_callP3 (i : Nat) {m : D → D → D → T D} (F : Fd X.P X.w X.K X.mg k x (spP X.K 3 (ar3 m))) (hr : Room k X.A) (hg : Gb X x) (hp : ρ[i]? = some Sl.po) (hN : X.N[i]? = some y) (hv : Vis X.sc y) (h1 : DX X q ρ e1 t1) (h2 : DX X q ρ e2 t2) (h3 : DX X q ρ e3 t3)
    (hdb : (x == ("__debug__" : Str)) = false := by decide) (hd : (y == ("__debug__" : Str)) = false := by decide) (hcd : (y == ("__classdict__" : Str)) = false := by decide)
    (he : ∀ env : Env, starEach [.Name y p2, e1, e2, e3] env = (false, eval (.Name y p2) env) :: starEach [e1, e2, e3] env := by intro _; rfl) (he1 : ∀ env : Env, starEach [e1, e2, e3] env = (false, eval e1 env) :: starEach [e2, e3] env := by intro _; rfl) (he2 : ∀ env : Env, starEach [e2, e3] env = (false, eval e2 env) :: starEach [e3] env := by intro _; rfl) (he3 : ∀ env : Env, starEach [e3] env = (false, eval e3 env) :: starEach [] env := by intro _; rfl) (hpl : ∀ env : Env, (backTo pos (starEach [e1, e2, e3] env)).any (·.1) = false := by intro _; rfl) :
    DX X q ρ (.Call (.Name x p) [.Name y p2, e1, e2, e3] [] pos) (t1.bind fun a => t2.bind fun b => t3.bind fun c => m a b c) := by
  have h := dx_callP (p := p) (p2 := p2) (pos := pos) i F hr hg hp hN hv (da_cons h1 (da_cons h2 (da_cons h3 da_nil he3) he2) he1) (fun g C h => by
    simp only [T.ret_bind, T.bind_assoc] at h ⊢
    exact T.ok_bind.mpr (T.ok_mono (T.ok_bind.mp h) fun x1 g1 h => T.ok_bind.mpr (T.ok_mono (T.ok_bind.mp h) fun x2 g2 h => T.ok_bind.mpr (T.ok_mono (T.ok_bind.mp h) fun x3 g3 h => ⟨rfl, h⟩)))) hdb hd hcd he hpl
  simp only [T.bind_assoc, T.ret_bind] at h
  exact h
theorem dx_callP4 (i : Nat) {m : D → D → D → D → T D} (F : Fd X.P X.w X.K X.mg k x (spP X.K 4 (ar4 m))) (hr : Room k X.A) (hg : Gb X x) (hp : ρ[i]? = some Sl.po) (hN : X.N[i]? = some y) (hv : Vis X.sc y) (h1 : DX X q ρ e1 t1) (h2 : DX X q ρ e2 t2) (h3 : DX X q ρ e3 t3) (h4 : DX X q ρ e4 t4)
    (hdb : (x == ("__debug__" : Str)) = false := by decide) (hd : (y == ("__debug__" : Str)) = false := by decide) (hcd : (y == ("__classdict__" : Str)) = false := by decide)
    (he : ∀ env : Env, starEach [.Name y p2, e1, e2, e3, e4] env = (false, eval (.Name y p2) env) :: starEach [e1, e2, e3, e4] env := by intro _; rfl) (he1 : ∀ env : Env, starEach [e1, e2, e3, e4] env = (false, eval e1 env) :: starEach [e2, e3, e4] env := by intro _; rfl) (he2 : ∀ env : Env, starEach [e2, e3, e4] env = (false, eval e2 env) :: starEach [e3, e4] env := by intro _; rfl) (he3 : ∀ env : Env, starEach [e3, e4] env = (false, eval e3 env) :: starEach [e4] env := by intro _; rfl) (he4 : ∀ env : Env, starEach [e4] env = (false, eval e4 env) :: starEach [] env := by intro _; rfl) (hpl : ∀ env : Env, (backTo pos (starEach [e1, e2, e3, e4] env)).any (·.1) = false := by intro _; rfl) :
    DX X q ρ (.Call (.Name x p) [.Name y p2, e1, e2, e3, e4] [] pos) (t1.bind fun a => t2.bind fun b => t3.bind fun c => t4.bind fun d => m a b c d) := by
  have h := dx_callP (p := p) (p2 := p2) (pos := pos) i F hr hg hp hN hv (da_cons h1 (da_cons h2 (da_cons h3 (da_cons h4 da_nil he4) he3) he2) he1) (fun g C h => by
    simp only [T.ret_bind, T.bind_assoc] at h ⊢
    exact T.ok_bind.mpr (T.ok_mono (T.ok_bind.mp h) fun x1 g1 h => T.ok_bind.mpr (T.ok_mono (T.ok_bind.mp h) fun x2 g2 h => T.ok_bind.mpr (T.ok_mono (T.ok_bind.mp h) fun x3 g3 h => T.ok_bind.mpr (T.ok_mono (T.ok_bind.mp h) fun x4 g4 h => ⟨rfl, h⟩))))) hdb hd hcd he hpl
  simp only [T.bind_assoc, T.ret_bind] at h
  exact h
theorem dx_callP5 (i : Nat) {m : D → D → D → D → D → T D} (F : Fd X.P X.w X.K X.mg k x (spP X.K 5 (ar5 m))) (hr : Room k X.A) (hg : Gb X x) (hp : ρ[i]? = some Sl.po) (hN : X.N[i]? = some y) (hv : Vis X.sc y) (h1 : DX X q ρ e1 t1) (h2 : DX X q ρ e2 t2) (h3 : DX X q ρ e3 t3) (h4 : DX X q ρ e4 t4) (h5 : DX X q ρ e5 t5)
    (hdb : (x == ("__debug__" : Str)) = false := by decide) (hd : (y == ("__debug__" : Str)) = false := by decide) (hcd : (y == ("__classdict__" : Str)) = false := by decide)
    (he : ∀ env : Env, starEach [.Name y p2, e1, e2, e3, e4, e5] env = (false, eval (.Name y p2) env) :: starEach [e1, e2, e3, e4, e5] env := by intro _; rfl) (he1 : ∀ env : Env, starEach [e1, e2, e3, e4, e5] env = (false, eval e1 env) :: starEach [e2, e3, e4, e5] env := by intro _; rfl) (he2 : ∀ env : Env, starEach [e2, e3, e4, e5] env = (false, eval e2 env) :: starEach [e3, e4, e5] env := by intro _; rfl) (he3 : ∀ env : Env, starEach [e3, e4, e5] env = (false, eval e3 env) :: starEach [e4, e5] env := by intro _; rfl) (he4 : ∀ env : Env, starEach [e4, e5] env = (false, eval e4 env) :: starEach [e5] env := by intro _; rfl) (he5 : ∀ env : Env, starEach [e5] env = (false, eval e5 env) :: starEach [] env := by intro _; rfl) (hpl : ∀ env : Env, (backTo pos (starEach [e1, e2, e3, e4, e5] env)).any (·.1) = false := by intro _; rfl) :
    DX X q ρ (.Call (.Name x p) [.Name y p2, e1, e2, e3, e4, e5] [] pos) (t1.bind fun a => t2.bind fun b => t3.bind fun c => t4.bind fun d => t5.bind fun e => m a b c d e) := by
  have h := dx_callP (p := p) (p2 := p2) (pos := pos) i F hr hg hp hN hv (da_cons h1 (da_cons h2 (da_cons h3 (da_cons h4 (da_cons h5 da_nil he5) he4) he3) he2) he1) (fun g C h => by
    simp only [T.ret_bind, T.bind_assoc] at h ⊢
    exact T.ok_bind.mpr (T.ok_mono (T.ok_bind.mp h) fun x1 g1 h => T.ok_bind.mpr (T.ok_mono (T.ok_bind.mp h) fun x2 g2 h => T.ok_bind.mpr (T.ok_mono (T.ok_bind.mp h) fun x3 g3 h => T.ok_bind.mpr (T.ok_mono (T.ok_bind.mp h) fun x4 g4 h => T.ok_bind.mpr (T.ok_mono (T.ok_bind.mp h) fun x5 g5 h => ⟨rfl, h⟩)))))) hdb hd hcd he hpl
  simp only [T.bind_assoc, T.ret_bind] at h
  exact h
end
section
variable {X : Ctx} {q : Option Addr} {ρ : List Sl} {pos p : Pos} {x : Str} {k : Nat}
theorem dx_call0 {m : T D} (F : Fd X.P X.w X.K X.mg k x (spI X.K 0 (ar0 m))) (hr : Room k X.A) (hg : Gb X x) (hdb : (x == ("__debug__" : Str)) = false := by decide) : DX X q ρ (.Call (.Name x p) [] [] pos) m := fun σ Hb H g Q ok0 sl ht => by
  obtain ⟨f, fd, ps, hm, hk, hb, F⟩ := F.ex
  refine ⟨tCall (spI X.K 0 (ar0 m)) [] E0 tNil, fun z => pe_call0 (F _) hr (hg.gl z) hm hk hb .nil pass0 hdb, ?_⟩
  exact ⟨q, Hb, g, [], ok0, .nil, rfl, ht⟩
section
variable {π1 π2 π3 π4 : Type} {ix1 ix2 ix3 ix4 : List Nat} {t1 t2 t3 t4 : Expr} {dec1 : D → Option π1} {dec2 : D → Option π2} {dec3 : D → Option π3} {dec4 : D → Option π4} {env1 : π1 → List Sl} {env2 : π1 → π2 → List Sl} {env3 : π1 → π2 → π3 → List Sl} {env4 : π1 → π2 → π3 → π4 → List Sl}
def quadO (dec1 : D → Option π1) (dec2 : D → Option π2) (dec3 : D → Option π3) (dec4 : D → Option π4) : D → Option (π1 × π2 × π3 × π4)
  | .tuple [x, y, z, w] => (dec1 x).bind fun b1 => (dec2 y).bind fun b2 => (dec3 z).bind fun b3 => (dec4 w).bind fun b4 => some (b1, b2, b3, b4)
  | _ => none
theorem quadO_some {d : D} {b : π1 × π2 × π3 × π4} (e : quadO dec1 dec2 dec3 dec4 d = some b) : ∃ x y z w, d = .tuple [x, y, z, w] ∧ dec1 x = some b.1 ∧ dec2 y = some b.2.1 ∧ dec3 z = some b.2.2.1 ∧ dec4 w = some b.2.2.2 := by
  unfold quadO at e
  split at e
  · rename_i x y z w
    obtain ⟨b1, h1, e⟩ := Option.bind_eq_some_iff.mp e
    obtain ⟨b2, h2, e⟩ := Option.bind_eq_some_iff.mp e
    obtain ⟨b3, h3, e⟩ := Option.bind_eq_some_iff.mp e
    obtain ⟨b4, h4, e⟩ := Option.bind_eq_some_iff.mp e
    cases e
    exact ⟨x, y, z, w, rfl, h1, h2, h3, h4⟩
  · cases e
theorem dg_4 (h1 : DG X q ρ ix1 t1 dec1 env1) (h2 : ∀ b, DG X q (env1 b) ix2 t2 dec2 (env2 b)) (h3 : ∀ b c, DG X q (env2 b c) ix3 t3 dec3 (env3 b c)) (h4 : ∀ b c d, DG X q (env3 b c d) ix4 t4 dec4 (env4 b c d))
    (hs1 : ∀ env : Env, (assignEach [t1, t2, t3, t4] env).map (·.2) = assign t1 env :: (assignEach [t2, t3, t4] env).map (·.2) := by intro _; rfl) (hs2 : ∀ env : Env, (assignEach [t2, t3, t4] env).map (·.2) = assign t2 env :: (assignEach [t3, t4] env).map (·.2) := by intro _; rfl)
    (hs3 : ∀ env : Env, (assignEach [t3, t4] env).map (·.2) = assign t3 env :: (assignEach [t4] env).map (·.2) := by intro _; rfl) (hs4 : ∀ env : Env, (assignEach [t4] env).map (·.2) = assign t4 env :: (assignEach [] env).map (·.2) := by intro _; rfl)
    (hn : ∀ env : Env, (assignEach [t1, t2, t3, t4] env).length = 4 := by intro _; rfl) (hst : ∀ env : Env, (assignEach [t1, t2, t3, t4] env).findIdx? (·.1) = none := by intro _; rfl) :
    DG X q ρ (ix1 ++ (ix2 ++ (ix3 ++ ix4))) (.Tuple [t1, t2, t3, t4] k pos) (quadO dec1 dec2 dec3 dec4) fun b => env4 b.1 b.2.1 b.2.2.1 b.2.2.2 := by
  refine ⟨fun v d σ Hb H g Q b ok0 sl hd e ht => ?_, fun b i ds e => ?_⟩
  rotate_left
  · obtain ⟨n4, e4⟩ := (h4 b.1 b.2.1 b.2.2.1).how b.2.2.2 i ds e
    obtain ⟨n3, e3⟩ := (h3 b.1 b.2.1).how b.2.2.1 i ds e4
    obtain ⟨n2, e2⟩ := (h2 b.1).how b.2.1 i ds e3
    obtain ⟨n1, e1⟩ := h1.how b.1 i ds e2
    exact ⟨by simp only [List.mem_append, not_or]; exact ⟨n1, n2, n3, n4⟩, e1⟩
  obtain ⟨x, y, z, w, rfl, e1, e2, e3, e4⟩ := quadO_some e
  refine ⟨gTup X.K 4 (gCons (wG X t1) (gCons (wG X t2) (gCons (wG X t3) (gCons (wG X t4) gNil)))), fun z => pg_tup rfl (pgs_cons pg_w (pgs_cons pg_w (pgs_cons pg_w (pgs_cons pg_w pgs_nil (hs4 _)) (hs3 _)) (hs2 _)) (hs1 _)) (hn _) (hst _), ?_⟩
  cases hd with
  | tup hq ha =>
    cases ha with
    | cons a1 ha =>
      cases ha with
      | cons a2 ha =>
        cases ha with
        | cons a3 ha =>
          cases ha with
          | cons a4 ha =>
            cases ha
            refine ⟨_, _, rfl, sqT_mono ok0.sub hq, rfl, _, _, rfl, h1.run _ _ σ Hb H g _ _ ok0 sl a1 e1 fun σ1 sl1 l1 k1 => ?_⟩
            refine ⟨_, _, rfl, (h2 b.1).run _ _ σ1 Hb H g _ _ ok0 sl1 a2 e2 fun σ2 sl2 l2 k2 => ?_⟩
            refine ⟨_, _, rfl, (h3 b.1 b.2.1).run _ _ σ2 Hb H g _ _ ok0 sl2 a3 e3 fun σ3 sl3 l3 k3 => ?_⟩
            refine ⟨_, _, rfl, (h4 b.1 b.2.1 b.2.2.1).run _ _ σ3 Hb H g _ _ ok0 sl3 a4 e4 fun σ4 sl4 l4 k4 => ?_⟩
            refine ⟨rfl, ht _ sl4 (l4.trans (l3.trans (l2.trans l1))) fun i hi => ?_⟩
            simp only [List.mem_append, not_or] at hi
            rw [k4 i hi.2.2.2, k3 i hi.2.2.1, k2 i hi.2.1, k1 i hi.1]
end
end
/-! ### try: f(..); return b1 -- except x as n: if n.f != s: return b2 -/
section
variable {X : Ctx} {q : Option Addr} {ρ : List Sl} {R : Type} {ε : R → En} {inj : D → R} {rest : List Stmt} {pos pos' ep rp rp2 ip np p1 p2 p3 p4 p5 p6 : Pos} {xc : XC} {n x f : Str} {i j1 j2 j3 : Nat} {C : Addr} {call : Expr} {b1 b2 : Bool} {s : Str} {t : T Rx} {k : T R}
def tryR (x s : Str) (b1 b2 : Bool) (inj : D → R) (k : T R) : Rx → T R
  | .v _ => .ret (inj (.bool b1))
  | .x nm d => .need (decide (nm = x)) ((neD d (.str s)).bind fun b => if b then .ret (inj (.bool b2)) else k)
theorem ds_try1 {kk : Nat} (hr : Room kk X.A) (hfr : X.fr = true) (hN : X.N.Nodup) (hi : X.N[i]? = some n) (hln : X.sc.names.lookup n = some .local) (Tx : ExG X.P X.K X.mg x C f) (hx : xc x = (C, f)) (hg : Gb X x)
    (hcall : ∀ W : WX, DXE { X with W := W } q ρ xc call t) (hinj : ∀ d, ε (inj d) = .rt d) (hk : DS X q (ρ.set i .un) rest k ε) (hir : i < ρ.length)
    (hdx : (x == ("__debug__" : Str)) = false := by decide) (hdb : (n == ("__debug__" : Str)) = false := by decide) (hcd : (n == ("__classdict__" : Str)) = false := by decide)
    (hsw : ∀ env : Env, swapsWith call none ep.line env = pure false := by intro _; rfl) (hb : ∀ env : Env, attributeBase (.Name n p1) f env (eval (.Name n p1) env) = eval (.Name n p1) env := by intro _; rfl)
    (hm : behindInMarks .NotEq (.Constant (.str s) j3 p4) = false := by first | exact nomark _ | rfl | with_unfolding_all rfl) :
    DS X q ρ (.Try [.Expr call ep, .Return (some (.Constant (.bool b1) j1 p5)) rp] [.ExceptHandler (some (.Name x np)) (some n) [.If (.Compare (.Attribute (.Name n p1) f p2) [.NotEq] [.Constant (.str s) j3 p4] p3) [.Return (some (.Constant (.bool b2) j2 p6)) rp2] [] ip] pos'] [] [] pos :: rest)
      (t.bind (tryR x s b1 b2 inj k)) ε := fun σ Hb H g Cc ok0 sl ht => by
  let tb : WX → TS := fun W => tSeq (tDrop (wE { X with W := W } call)) (tSeq (tRet (tC (.bl b1))) tNext)
  let ts : Addr → Value → Option Addr → TS := fun a cls d => tSeq (tIfS (tTest (tOp (rNeD X.K) (tXf a cls d C f (tVar i)) (tC (.str s)))) (tSeq (tRet (tC (.bl b2))) tNext) tNext) tNext
  refine ⟨tSeq (fun D σ H => tb (wAs X.K (.ref C) i ts X.W D) D σ H) (wSs X rest), fun z => pss_cons (ps_try_as (X := X.at z) (z.hfr hfr).1 (z.hfr hfr).2 hN hi (by show z.env.scope.names.lookup n = _; rw [z.hsc]; exact hln) ⟨hg.gl z, hdx, .inl Tx.g⟩ z.tk (fun W pn xe tk own => ?_) (fun a oe cls d pn hz hf => ?_)) pss_w, ?_⟩
  · exact pss_cons (ps_expr (pe_w (X := { X with W := W }) (z := ⟨z.base, z.s_0, z.H_0, z.env, z.outer, z.stack, z.ex, pn, xe, z.hsc, own, tk, z.hfr⟩)) (hsw _)) (pss_cons (ps_ret pe_bl) pss_nil)
  · exact pss_cons (ps_if (pt_cmpR (op_neD (X := (X.at z).suite a ((a, oe) :: pn)) (by show X.A.units + 64 < cLine; exact r64 hr)) (pe_xf (X := X.at z) Tx.xf Tx.noN hz hf (pe_var hi (by show Vis z.env.scope n; rw [z.hsc]; exact .inl hln) hdb hcd) (hb _)) pe_str hm) (pss_cons (ps_ret pe_bl) pss_nil) pss_nil) pss_nil
  · show wE { X with W := wAs X.K (.ref C) i ts X.W { Cc with nx := wSs X rest Cc } } call σ H fun _ H1 => Cc.rt (.bl b1) H1
    refine hcall _ σ Hb H g _ ok0 sl (T.ok_mono (T.ok_bind.mp ht) fun r g' c => ?_)
    cases r with
    | v d =>
      intro v Hb' H' s1 ok1 dv
      have c : EnP X.K X.W q (OwnP ρ σ) Hb H Cc (ε (inj (.bool b1))) g' := c
      rw [hinj] at c
      exact c _ Hb' H' (.of s1) ok1 (.bl b1)
    | x nm d =>
      intro v dd Hb' H' s1 ok1 dv e
      obtain ⟨hnm, c0⟩ := T.ok_need c
      clear c
      have hnm := of_decide_eq_true hnm
      subst hnm
      rw [hx] at e ⊢
      have hil : i < σ.length := by rw [← sl.len]; exact hir
      refine ⟨true, Tx.te, fun _ a ha => ?_, fun e => nomatch e⟩
      have c2 : ((neD d (.str s)).bind fun b => if b then T.ret (inj (.bool b2)) else k).ok g' (fun r g'' => EnP X.K X.W q (OwnP ρ σ) Hb H Cc (ε r) g'') := c0
      have c3 : (T.need (SeqAt.shaped d && SeqAt.shaped (.str s)) (.ret (!PyData.eqv d (.str s)))).ok g' (fun b g' => (if b then T.ret (inj (.bool b2)) else k).ok g' (fun r g'' => EnP X.K X.W q (OwnP ρ σ) Hb H Cc (ε r) g'')) := T.ok_bind.mp c2
      obtain ⟨hz, c⟩ := T.ok_need c3
      have c : (if (!PyData.eqv d (.str s)) = true then T.ret (inj (.bool b2)) else k).ok g' (fun r g'' => EnP X.K X.W q (OwnP ρ σ) Hb H Cc (ε r) g'') := c
      rw [Bool.and_eq_true] at hz
      refine ⟨.ref a, List.getElem?_set_self hil, rfl, rfl, dd, _, v, rfl, e, by simp [List.lookup], ?_⟩
      refine ⟨d, .str s, Dn.dp _ _ (shaped_noDct hz.1) (dn_mono ok1.sub _ _ dv), .str s, hz.1, hz.2, ⟨_, rfl, ?_⟩⟩
      cases hb2 : (!PyData.eqv d (.str s)) with
      | true =>
        refine iteT ?_
        rw [hb2] at c
        have c : EnP X.K X.W q (OwnP ρ σ) Hb H Cc (ε (inj (.bool b2))) g' := c
        rw [hinj] at c
        exact c _ Hb' H' (.of s1) ok1 (.bl b2)
      | false =>
        refine iteF ?_
        rw [hb2] at c
        show wSs X rest Cc ((σ.set i (some (.ref a))).set i none) H'
        rw [List.set_set]
        refine hk _ Hb' H' g' Cc ok1 ((sl.step s1).setUn) (T.ok_mono c fun r g'' h => enP_after ok1 ⟨g, ok0⟩ (.of s1) (fun p hp => .inl ?_) h)
        obtain ⟨j, ds, e1, e2⟩ := hp
        by_cases hj : i = j
        · subst hj
          rw [List.getElem?_set] at e1
          split at e1 <;> (try split at e1) <;> simp_all
        · rw [List.getElem?_set_ne hj] at e1 e2
          exact ⟨j, ds, e1, e2⟩
end
end DD
end T_DX4

section T_DX5
set_option Elab.async false
set_option linter.all false
set_option maxRecDepth 100000
set_option maxHeartbeats 1000000
set_option autoImplicit false
/-! in and not in an own list -/
namespace DD
open PySem PySem.Spec L2
open PyProof.Rows hiding St
section
variable {X : Ctx} {q : Option Addr} {ρ : List Sl} {pos p : Pos} {e : Expr} {t : T D}
def inL (ds : List D) (d : D) : T Bool := .need (SeqAt.shaped d && SeqAt.shaped (.list ds)) (.ret (anyD ds d))
def ninL (ds : List D) (d : D) : T Bool := .need (SeqAt.shaped d && SeqAt.shaped (.list ds)) (.ret (!anyD ds d))
theorem dt_ninOw (i : Nat) {ds : List D} {x : Str} (hu : X.A.units + 65 < cLine) (er : ρ[i]? = some (Sl.ow ds)) (hN : X.N[i]? = some x) (hv : Vis X.sc x) (h : DX X q ρ e t) (hm : behindInMarks .NotIn (.Name x p) = false := by first | exact nomark _ | rfl | with_unfolding_all rfl)
    (hd : (x == ("__debug__" : Str)) = false := by decide) (hcd : (x == ("__classdict__" : Str)) = false := by decide) : DT X q ρ (.Compare e [.NotIn] [.Name x p] pos) (t.bind fun d => ninL ds d) := fun σ Hb H g Q ok0 sl ht => by
  refine ⟨tTest (tOp (rNotInD X.K) (wE X e) (tVar i)), fun z => pt_cmpR (op_notInD hu) pe_w (pe_var hN (by rw [z.hsc]; exact hv) hd hcd) hm, ?_⟩
  refine h.run ok0 sl (T.ok_bind.mp ht) fun d g1 v Hb1 H1 c1 s1 ok1 sl1 d1 => ?_
  obtain ⟨s, e1, pp, vs, e2, h1, h2, h3, h4⟩ := sl1.rel i _ er
  subst e2
  obtain ⟨hz, c1⟩ := T.ok_need c1
  rw [Bool.and_eq_true] at hz
  have nd : noDcts ds = true := by
    have := shaped_noDct hz.2
    unfold noDct at this
    exact this
  exact ⟨_, e1, _, _, Dn.dp _ _ (shaped_noDct hz.1) (dn_mono ok1.sub _ _ d1), .lst (SqL.of h1) (DnAll.dp _ _ nd (dnAll_mono ok1.sub _ _ h3)), hz.1, hz.2, _, rfl, c1 Hb1 H1 s1 ok1⟩
theorem dt_inOw (i : Nat) {ds : List D} {x : Str} (hu : X.A.units + 65 < cLine) (er : ρ[i]? = some (Sl.ow ds)) (hN : X.N[i]? = some x) (hv : Vis X.sc x) (h : DX X q ρ e t) (hm : behindInMarks .In (.Name x p) = false := by first | exact nomark _ | rfl | with_unfolding_all rfl)
    (hd : (x == ("__debug__" : Str)) = false := by decide) (hcd : (x == ("__classdict__" : Str)) = false := by decide) : DT X q ρ (.Compare e [.In] [.Name x p] pos) (t.bind fun d => inL ds d) := fun σ Hb H g Q ok0 sl ht => by
  refine ⟨tTest (tOp (rInD X.K) (wE X e) (tVar i)), fun z => pt_cmpR (op_inD hu) pe_w (pe_var hN (by rw [z.hsc]; exact hv) hd hcd) hm, ?_⟩
  refine h.run ok0 sl (T.ok_bind.mp ht) fun d g1 v Hb1 H1 c1 s1 ok1 sl1 d1 => ?_
  obtain ⟨s, e1, pp, vs, e2, h1, h2, h3, h4⟩ := sl1.rel i _ er
  subst e2
  obtain ⟨hz, c1⟩ := T.ok_need c1
  rw [Bool.and_eq_true] at hz
  have nd : noDcts ds = true := by
    have := shaped_noDct hz.2
    unfold noDct at this
    exact this
  exact ⟨_, e1, _, _, Dn.dp _ _ (shaped_noDct hz.1) (dn_mono ok1.sub _ _ d1), .lst (SqL.of h1) (DnAll.dp _ _ nd (dnAll_mono ok1.sub _ _ h3)), hz.1, hz.2, _, rfl, c1 Hb1 H1 s1 ok1⟩
theorem r1 {k : Nat} {A : Around} (hr : Room k A) : A.units + 1 < cLine := by have := hr.un; omega
/-- len of a dict -/
def lenKD : D → T D
  | .dict ds => .ret (.int ds.length)
  | _ => .fail
end
end DD
end T_DX5

section T_DX6
set_option Elab.async false
set_option linter.all false
set_option maxRecDepth 100000
set_option maxHeartbeats 1000000
set_option autoImplicit false
/-! defs with defaults, called with all arguments; what the top holds of an own error's class -/
namespace DD
open PySem PySem.Spec L2
open PyProof.Rows hiding St
section
variable {P : Program} {w : World} {K : PySem.W.Frag} {mg : Str → Option Value} {x qual : Str} {st : Stmt} {f : Addr} {fd : FuncData} {N ps : List Str} {k n : Nat} {xc : XC} {dvs : List V} {kws : List (Str × V)}
theorem fn_deepV {m : List D → T D} (F : FunD K x qual (defArgs st) (defBody st) (defScope st) dvs kws f fd) (S : FnScope N ps (defScope st)) (hps : ps.length = n) (body : ∀ A q ds, Room k A → ds.length = n → DS (bodyX P w K mg A N st) q (argSl N ds) (defBody st) (m ds) En.rt) (base : Heap) :
    FnOk P w K mg base CX0 (k + 1) f fd ps (spI K n m) := by
  refine F.ok S (fun vs H Q E ⟨q, Hb, g, ds, _, h1, h2, _⟩ => by rw [DnAll.len h1, h2, hps]) (fun cdv A outer s H vs Q E hr ⟨q, Hb, g, ds, ok0, h1, h2, h3⟩ => ?_)
  have noow : ∀ p, ¬ OwnP (argSl N ds) (L2.start N vs) p := fun p ⟨i, ds', e, _⟩ => argSl_now ds i ds' e
  obtain ⟨u, hu, q1⟩ := body (A.deeper (envOfC qual (defScope st) s.heap.objs.size f cdv)) q ds hr h2 (L2.start N vs) Hb H g { nx := fun _ H' => Q .non H', rt := Q } ok0 (sls_start h1)
    (T.ok_mono h3 fun d g' h v Hb' H' so ok' dv => h v Hb' H' ⟨so.ext, fun b o hb n => so.keep b o hb n (noow b), fun b o hb n => so.stay b o hb n (noow b)⟩ ok' dv)
  exact ⟨u, (show PSs (cxOf CX0 P w K mg base N qual (defScope st) f cdv A outer s H E).nox (defBody st) u from hu (.top base s H (envOfC qual (defScope st) s.heap.objs.size f cdv) outer rfl rfl rfl)).nox, q1⟩
theorem fn_deepEV {m : List D → T Rx} (F : FunD K x qual (defArgs st) (defBody st) (defScope st) dvs kws f fd) (S : FnScope N ps (defScope st)) (hps : ps.length = n) (body : ∀ A E q ds, Room k A → ds.length = n → DS (bodyXE P w K mg A N st E) q (argSl N ds) (defBody st) (m ds) (enR xc)) (base : Heap) :
    FnOk P w K mg base (L2.CX P w) (k + 1) f fd ps (spE K xc n m) := by
  refine F.ok S (fun vs H Q E ⟨q, Hb, g, ds, _, h1, h2, _⟩ => by rw [DnAll.len h1, h2, hps]) (fun cdv A outer s H vs Q E hr ⟨q, Hb, g, ds, ok0, h1, h2, h3⟩ => ?_)
  have noow : ∀ p, ¬ OwnP (argSl N ds) (L2.start N vs) p := fun p ⟨i, ds', e, _⟩ => argSl_now ds i ds' e
  have un : ∀ {Hb' H' : Hp}, StepO q (OwnP (argSl N ds) (L2.start N vs)) Hb H Hb' H' → Step q Hb H Hb' H' := fun so => ⟨so.ext, fun b o hb n => so.keep b o hb n (noow b), fun b o hb n => so.stay b o hb n (noow b)⟩
  obtain ⟨u, hu, q1⟩ := body (A.deeper (envOfC qual (defScope st) s.heap.objs.size f cdv)) E q ds hr h2 (L2.start N vs) Hb H g { nx := fun _ H' => Q .non H', rt := Q } ok0 (sls_start h1)
    (T.ok_mono h3 fun r g' h => by
      cases r with
      | v d => exact fun v Hb' H' so ok' dv => h v Hb' H' (un so) ok' dv
      | x nm d => exact fun v dd σ Hb' H' so ok' dv e => h v dd Hb' H' (un so) ok' dv e)
  exact ⟨u, hu (.topE E base s H (envOfC qual (defScope st) s.heap.objs.size f cdv) outer rfl rfl rfl), q1⟩
/-- all arguments are written, one default stands -/
theorem binds_all {vd : V} (F : FunD K x qual (defArgs st) (defBody st) (defScope st) [vd] [] f fd)
    (h : ∀ (T : Addr) (kV doc pm : Value) (an : Option Addr) (cdv ct : Value) (us : List Value) (it : Value), us.length = ps.length →
      ∃ k, bindArgs (PySem.W.fnOf x qual (defArgs st) (defBody st) (defScope st) (.ref T) kV doc pm an cdv ct) ⟨us, []⟩ = seqItems? (.ref T) >>= k ∧ k (some #[it]) = pure (ps.zip us)) : Binds K fd ps [] := by
  obtain ⟨ds, hv, hb⟩ := F.binds1 (ps := ps) ps.length 1 (by simp) rfl (fun T kV doc pm an cdv ct us its hl hi => by
    match its, hi with
    | [it], _ =>
      obtain ⟨k, e1, e2⟩ := h T kV doc pm an cdv ct us it hl
      refine ⟨k, e1, ?_⟩
      show k (some #[it]) = _
      rw [e2]
      simp)
  cases hv
  exact hb
theorem fun_one {E T : Addr} {kV doc pm cdv ct oc oc2 : Value} {an od od2 : Option Addr} {osl sl2 : Array (Option Value)} {m : Nat} (l : K.lookup f = some ⟨oc, od, .func (PySem.W.fnOf x qual (defArgs st) (defBody st) (defScope st) (.ref T) kV doc pm an cdv ct), osl⟩)
    (lT : K.lookup T = some ⟨oc2, od2, .seq #[.ref E] m, sl2⟩) (c : PySem.W.codeIn K cdv qual = true) (k : PySem.W.keepIn K (.ref f) = true) :
    FunD K x qual (defArgs st) (defBody st) (defScope st) [.ref E] [] f (PySem.W.fnOf x qual (defArgs st) (defBody st) (defScope st) (.ref T) kV doc pm an cdv ct) :=
  ⟨⟨oc, od, .ref T, kV, doc, pm, an, cdv, ct, osl, rfl, l, c, .inr ⟨by simp, T, _, [.ref E], m, rfl, lT, rfl, .cons rfl .nil⟩, .inl rfl⟩, k⟩
/-- a recursive def, no room left -/
theorem fn_zero {CX : CXT} {base : Heap} {ps : List Str} {m : List D → T D} (hm : ∀ ds g C, (m ds).ok g C → False) (n : Nat) : FnOk P w K mg base CX k f fd ps (spI K n m) :=
  ⟨fun _ _ _ _ ⟨_, _, _, _, _, _, _, h⟩ => (hm _ _ _ h).elim, fun _ _ _ _ _ _ _ _ _ _ _ _ _ ⟨_, _, _, _, _, _, _, h⟩ => (hm _ _ _ h).elim⟩
end
/-- an error of the class at S is what «except S» names -/
theorem exm_self {K : PySem.W.Frag} {S : Addr} (h1 : PySem.W.subIn K (.ref S) (.type "BaseException") = some true) (h2 : PySem.W.isClsIn K S = true) (h3 : PySem.W.typeIn K (.ref S) = some (.type "type")) (h4 : PySem.W.subIn K (.ref S) (.ref S) = some true) :
    PySem.W.exmOne K (.ref S) (.ref S) = some true := by
  have e1 : (PySem.W.subIn K (.ref S) (.type "BaseException") == some true) = true := by rw [h1] <;> rfl
  have e2 : ((PySem.W.clsIn K S).isSome && PySem.W.typeIn K (.ref S) == some (.type "type")) = true := by
    have h2' : (PySem.W.clsIn K S).isSome = true := h2
    rw [h2', h3] <;> rfl
  show (if (PySem.W.subIn K (.ref S) (.type "BaseException") == some true) = true then (if ((PySem.W.clsIn K S).isSome && PySem.W.typeIn K (.ref S) == some (.type "type")) = true then PySem.W.subIn K (.ref S) (.ref S) else none) else none) = some true
  rw [if_pos e1, if_pos e2]
  exact h4
theorem fld_side : XS.FldOk ("side" : Str) := ⟨fun _ _ _ _ _ _ _ _ _ _ _ _ _ _ _ _ _ _ _ _ _ => by first | rfl | with_unfolding_all rfl, rfl, rfl, rfl, by decide, fun _ _ => rfl, fun _ _ => rfl, by decide, fun _ _ _ _ => by first | rfl | with_unfolding_all rfl⟩
theorem fld_match : XS.FldOk ("match" : Str) := ⟨fun _ _ _ _ _ _ _ _ _ _ _ _ _ _ _ _ _ _ _ _ _ => by first | rfl | with_unfolding_all rfl, rfl, rfl, rfl, by decide, fun _ _ => rfl, fun _ _ => rfl, by decide, fun _ _ _ _ => by first | rfl | with_unfolding_all rfl⟩
theorem fld_matches : XS.FldOk ("matches" : Str) := ⟨fun _ _ _ _ _ _ _ _ _ _ _ _ _ _ _ _ _ _ _ _ _ => by first | rfl | with_unfolding_all rfl, rfl, rfl, rfl, by decide, fun _ _ => rfl, fun _ _ => rfl, by decide, fun _ _ _ _ => by first | rfl | with_unfolding_all rfl⟩
end DD
end T_DX6

section T_DX7
set_option Elab.async false
set_option linter.all false
set_option maxRecDepth 100000
set_option maxHeartbeats 1000000
set_option autoImplicit false
/-! x is True, x anything -/
namespace DD
open PySem PySem.Spec L2
open PyProof.Rows hiding St
def isB : D → D → T Bool
  | x, .none => .ret (isNon x)
  | x, .bool b => .ret (match x with | .bool a => a == b | _ => false)
  | _, _ => .fail
/-- a value of ours that is no built-in's own -/
def ownV : V → Bool
  | .non => true
  | .bl _ => true
  | .int _ => true
  | .str _ => true
  | .ref _ => true
  | _ => false
def isBl (x : V) (b : Bool) : Bool := match x with
  | .bl a => a == b
  | _ => false
theorem op_isA {X : Cx} : OpR X (compareOp .Is) (fun x y H Q => ∃ b, y = .bl b ∧ ownV x = true ∧ Q (.bl (isBl x b)) H) := by
  intro pins s σ H x y v u Q I rx ry h
  obtain ⟨b, rfl, ho, q⟩ := h
  obtain rfl : u = Value.bool b := ry
  cases x with
  | non => obtain rfl : v = Value.none := rx; exact wpAny_pure ⟨.bl false, H, I, rfl, q⟩
  | bl a => obtain rfl : v = Value.bool a := rx; exact wpAny_pure ⟨.bl (isBl (.bl a) b), H, I, by show Value.bool _ = Value.bool _; congr 1; cases a <;> cases b <;> rfl, q⟩
  | int i => obtain ⟨t, rfl⟩ := rx; exact wpAny_pure ⟨.bl false, H, I, rfl, q⟩
  | str x => obtain ⟨t, rfl⟩ := rx; exact wpAny_pure ⟨.bl false, H, I, rfl, q⟩
  | ref a => obtain rfl : v = Value.ref a := rx; exact wpAny_pure ⟨.bl false, H, I, rfl, q⟩
  | _ => cases ho
theorem do_isB {X : Ctx} {q : Option Addr} : DOB X q (compareOp .Is) isB := fun x y dx dy Hb H g Q ok0 h1 h2 ht => by
  cases h2 with
  | non =>
    have ht : ((T.ret (isNon dx)).bind fun b => T.ret (PyData.bool b)).ok g (PD X.K q Hb H Q) := by cases h1 <;> exact ht
    exact ⟨_, fun z => op_isN, rfl, by rw [isNon_dn h1]; exact ht _ Hb H .refl ok0 (.bl _)⟩
  | bl b =>
    refine ⟨_, fun z => op_isA, b, rfl, by cases h1 <;> rfl, ?_⟩
    cases h1 <;> exact ht _ Hb H .refl ok0 (.bl _)
  | _ => cases h1 <;> exact ht.elim
end DD
end T_DX7

section T_PL
set_option Elab.async false
set_option linter.all false
set_option maxRecDepth 1000000
set_option maxHeartbeats 1000000
set_option autoImplicit false
namespace DD
open PySem
/-! ### values and costs of trees -/
def T.val {α : Type} : T α → Option α
  | .ret a => some a
  | _ => none
theorem T.val_eq {α : Type} {t : T α} {a : α} (h : T.val t = some a) : t = .ret a := by
  cases t <;> simp only [T.val] at h <;> first | (cases h; done) | (cases h; rfl)
/-! equal data, as a test -/
mutual
def sameD : D → D → Bool
  | .none, .none => true
  | .bool a, .bool b => a == b
  | .int a, .int b => a == b
  | .str a, .str b => decide (a = b)
  | .list a, .list b => sameL a b
  | .tuple a, .tuple b => sameL a b
  | _, _ => false
def sameL : List D → List D → Bool
  | [], [] => true
  | a :: l, b :: m => sameD a b && sameL l m
  | _, _ => false
end
mutual
theorem sameD_eq : ∀ {a b : D}, sameD a b = true → a = b
  | .none, .none, _ => rfl
  | .bool a, .bool b, h => by simp only [sameD, beq_iff_eq] at h; rw [h]
  | .int a, .int b, h => by simp only [sameD, beq_iff_eq] at h; rw [h]
  | .str a, .str b, h => by simp only [sameD, decide_eq_true_eq] at h; rw [h]
  | .list a, .list b, h => by simp only [sameD] at h; rw [sameL_eq h]
  | .tuple a, .tuple b, h => by simp only [sameD] at h; rw [sameL_eq h]
theorem sameL_eq : ∀ {a b : List D}, sameL a b = true → a = b
  | [], [], _ => rfl
  | a :: l, b :: m, h => by
    simp only [sameL, Bool.and_eq_true] at h
    rw [sameD_eq h.1, sameL_eq h.2]
end
def T.is (t : T D) (d : D) : Bool := match T.val t with
  | some e => sameD e d
  | none => false
theorem T.is_eq {t : T D} {d : D} (h : t.is d = true) : t = .ret d := by
  unfold T.is at h
  split at h
  · rename_i e q
    rw [T.val_eq q, sameD_eq h]
  · cases h
/-- c steps at most, and every end is good -/
def T.okc {α : Type} (t : T α) (c : Nat) (Q : α → Prop) : Prop := ∀ g, t.ok (g + c) fun a g' => Q a ∧ g ≤ g'
section
variable {α β : Type} {t : T α} {f : α → T β} {c c' : Nat} {Q : α → Prop} {R : β → Prop}
theorem T.okc_ret {a : α} (h : Q a) : (T.ret a).okc 0 Q := fun g => ⟨h, Nat.le_refl _⟩
theorem T.okc_mono (h : t.okc c Q) {Q' : α → Prop} (k : ∀ a, Q a → Q' a) : t.okc c Q' := fun g => T.ok_mono (h g) fun a g' z => ⟨k a z.1, z.2⟩
theorem T.okc_le (h : t.okc c Q) (k : c ≤ c') : t.okc c' Q := fun g => by
  have := h (g + (c' - c))
  rw [show g + (c' - c) + c = g + c' by omega] at this
  exact T.ok_mono this fun a g' z => ⟨z.1, by omega⟩
theorem T.okc_bind (h : t.okc c Q) (k : ∀ a, Q a → (f a).okc c' R) : (t.bind f).okc (c' + c) R := fun g => by
  rw [← Nat.add_assoc]
  refine T.ok_bind.mpr (T.ok_mono (h (g + c')) fun a g' z => ?_)
  have := k a z.1 (g' - c')
  rw [show g' - c' + c' = g' by omega] at this
  exact T.ok_mono this fun b g2 y => ⟨y.1, by omega⟩
theorem T.okc_next (h : t.okc c Q) : (T.next t).okc (c + 1) Q := fun g => ⟨g + c, by omega, h g⟩
theorem T.all_okc {p : α → Bool} : ∀ {t : T α} {c : Nat}, T.all p t c = true → t.okc c fun a => p a = true := by
  intro t
  induction t with
  | ret a => exact fun h g => ⟨h, by omega⟩
  | fail => intro c h; simp [T.all] at h
  | draw n k ih =>
    intro c h
    cases c with
    | zero => simp [T.all] at h
    | succ c =>
      simp only [T.all, Bool.and_eq_true, decide_eq_true_eq, List.all_eq_true] at h
      exact fun g => ⟨h.1, h.2.1, g + c, by omega, fun v hv => ih v (h.2.2 v (List.mem_range.mpr hv)) g⟩
  | next k ih =>
    intro c h
    cases c with
    | zero => simp [T.all] at h
    | succ c => exact fun g => ⟨g + c, by omega, ih (by simpa [T.all] using h) g⟩
end
/-! ### loops and comprehensions without draws -/
theorem foldM_app {f : D → List D → T (List D)} {e : D → List D} : ∀ {ds s : List D}, s.length + (ds.flatMap e).length < 16777216 → (∀ d ∈ ds, ∀ s' : List D, s'.length + (e d).length < 16777216 → f d s' = .ret (s' ++ e d)) → T.foldM f ds s = .ret (s ++ ds.flatMap e)
  | [], s, _, _ => by rw [List.flatMap_nil, List.append_nil] <;> rfl
  | d :: ds, s, hb, h => by
    rw [List.flatMap_cons, List.length_append] at hb
    show (f d s).bind _ = _
    rw [h d List.mem_cons_self s (by omega), T.ret_bind, foldM_app (by rw [List.length_append]; omega) fun d' hd => h d' (List.mem_cons_of_mem _ hd), List.flatMap_cons, List.append_assoc]
theorem filtM_some {te : D → T D} {e : D → D} : ∀ {ds : List D}, (∀ d ∈ ds, te d = .ret (e d)) → T.filtM (itemT some (fun _ => T.ret true) te) ds = .ret (ds.map e)
  | [], _ => rfl
  | d :: ds, h => by
    show (itemT some (fun _ => T.ret true) te d).bind _ = _
    rw [show itemT some (fun _ => T.ret true) te d = .ret (some (e d)) by
      show (te d).bind _ = _
      rw [h d List.mem_cons_self] <;> rfl]
    rw [T.ret_bind, filtM_some fun d' hd => h d' (List.mem_cons_of_mem _ hd)] <;> rfl
theorem filtM_cond {tc : D → T Bool} {te : D → T D} {c : D → Bool} : ∀ {ds : List D}, (∀ d ∈ ds, tc d = .ret (c d)) → (∀ d ∈ ds, te d = .ret d) → T.filtM (itemT some tc te) ds = .ret (ds.filter c)
  | [], _, _ => rfl
  | d :: ds, h, k => by
    show (itemT some tc te d).bind _ = _
    have ih := filtM_cond (ds := ds) (fun d' hd => h d' (List.mem_cons_of_mem _ hd)) fun d' hd => k d' (List.mem_cons_of_mem _ hd)
    cases q : c d with
    | true =>
      rw [show itemT some tc te d = .ret (some d) by unfold itemT; rw [show T.opt (some d) = T.ret d from rfl, T.ret_bind, h d List.mem_cons_self, q, T.ret_bind, if_pos rfl, k d List.mem_cons_self] <;> rfl]
      rw [T.ret_bind, ih, List.filter_cons_of_pos q] <;> rfl
    | false =>
      rw [show itemT some tc te d = .ret none by unfold itemT; rw [show T.opt (some d) = T.ret d from rfl, T.ret_bind, h d List.mem_cons_self, q, T.ret_bind] <;> rfl]
      rw [T.ret_bind, ih, List.filter_cons_of_neg (by rw [q]; exact Bool.false_ne_true)] <;> rfl
theorem lc_some {te : D → T D} {e : D → D} {ds : List D} (hl : ds.length < 16777216) (h : ∀ d ∈ ds, te d = .ret (e d)) : lcT (.ret ds) some (fun _ => T.ret true) te = .ret (ds.map e) := by
  unfold lcT
  rw [T.ret_bind, T.chk_pos _ hl, filtM_some h]
theorem lc_cond {tc : D → T Bool} {te : D → T D} {c : D → Bool} {ds : List D} (hl : ds.length < 16777216) (h : ∀ d ∈ ds, tc d = .ret (c d)) (k : ∀ d ∈ ds, te d = .ret d) : lcT (.ret ds) some tc te = .ret (ds.filter c) := by
  unfold lcT
  rw [T.ret_bind, T.chk_pos _ hl, filtM_cond h k]
theorem flatM_eq {f : D → T (List D)} {e : D → List D} : ∀ {ds : List D}, (∀ d ∈ ds, f d = .ret (e d)) → T.flatM f ds = .ret (ds.flatMap e)
  | [], _ => rfl
  | d :: ds, h => by
    show (f d).bind _ = _
    rw [h d List.mem_cons_self, T.ret_bind, flatM_eq fun d' hd => h d' (List.mem_cons_of_mem _ hd), T.ret_bind, List.flatMap_cons]
/-! ### sound data -/
theorem canLay_mem : ∀ {ds : List D}, (∀ d ∈ ds, PyData.canLay0 d = true) → PyData.canLayAll0 ds = true
  | [], _ => by simp only [PyData.canLayAll0]
  | d :: ds, h => by simp only [PyData.canLayAll0, h d List.mem_cons_self, canLay_mem fun x hx => h x (List.mem_cons_of_mem _ hx), Bool.and_self]
theorem depth_mem {n : Nat} : ∀ {ds : List D}, (∀ d ∈ ds, PyData.depth d ≤ n) → PyData.depthAll ds ≤ n
  | [], _ => by simp only [PyData.depthAll]; omega
  | d :: ds, h => by
    have h1 := h d List.mem_cons_self
    have h2 := depth_mem fun x hx => h x (List.mem_cons_of_mem _ hx)
    simp only [PyData.depthAll]
    omega
def shp (n : Nat) (d : D) : Bool := PyData.canLay0 d && decide (PyData.depth d ≤ n)
theorem shp_list {n : Nat} {ds : List D} (h : ∀ d ∈ ds, shp n d = true) : shp (n + 1) (.list ds) = true := by
  unfold shp at h ⊢
  simp only [Bool.and_eq_true, decide_eq_true_eq] at h ⊢
  refine ⟨by simp only [PyData.canLay0]; exact canLay_mem fun d hd => (h d hd).1, ?_⟩
  have := depth_mem fun d hd => (h d hd).2
  simp only [PyData.depth]
  omega
theorem shp_tup {n : Nat} {ds : List D} (h : ∀ d ∈ ds, shp n d = true) : shp (n + 1) (.tuple ds) = true := by
  unfold shp at h ⊢
  simp only [Bool.and_eq_true, decide_eq_true_eq] at h ⊢
  refine ⟨by simp only [PyData.canLay0]; exact canLay_mem fun d hd => (h d hd).1, ?_⟩
  have := depth_mem fun d hd => (h d hd).2
  simp only [PyData.depth]
  omega
theorem shp_shaped {n : Nat} {d : D} (h : shp n d = true) (hn : n ≤ 64) : SeqAt.shaped d = true := by
  unfold shp at h
  unfold SeqAt.shaped
  simp only [Bool.and_eq_true, decide_eq_true_eq] at h ⊢
  exact ⟨h.1, by omega⟩
theorem shp_eqv {n : Nat} {d : D} (h : shp n d = true) : PyData.eqv d d = true := by
  unfold shp at h
  rw [Bool.and_eq_true] at h
  exact SeqAt.eqv_refl d h.1

open L2
theorem T.okc_draw {α : Type} {n : Nat} {k : Nat → T α} {c : Nat} {Q : α → Prop} (h1 : 0 < n) (h2 : n < 1073741824) (h : ∀ v, v < n → (k v).okc c Q) : (T.draw n k).okc (c + 1) Q := fun g => ⟨h1, h2, g + c, by omega, fun v hv => h v hv g⟩
theorem okc_drawD {n : Int} (h : (decide (0 < n) && decide (n < 1073741824)) = true) : (drawD (.int n)).okc 1 fun d => ∃ v : Nat, d = .int v ∧ (v : Int) < n := by
  show T.okc (T.need (decide (0 < n) && decide (n < 1073741824)) (.draw n.toNat fun v => .ret (PyData.int (v : Nat)))) 1 _
  rw [show T.need (decide (0 < n) && decide (n < 1073741824)) (.draw n.toNat fun v => .ret (PyData.int (v : Nat))) = .draw n.toNat fun v => .ret (PyData.int (v : Nat)) by rw [h] <;> rfl]
  rw [Bool.and_eq_true, decide_eq_true_eq, decide_eq_true_eq] at h
  exact T.okc_draw (by omega) (by omega) fun v hv => T.okc_ret ⟨v, rfl, by omega⟩
theorem okc_nextD : nextD.okc 1 fun _ => True := T.okc_next (T.okc_ret trivial)
/-- a value that is told -/
theorem T.okc_eq {α : Type} {t : T α} {a : α} {Q : α → Prop} (h : t = .ret a) (q : Q a) : t.okc 0 Q := by rw [h]; exact T.okc_ret q
theorem eqD_ret {x y : D} (h1 : SeqAt.shaped x = true) (h2 : SeqAt.shaped y = true) : eqD x y = .ret (PyData.eqv x y) := by
  unfold eqD; rw [h1, h2] <;> rfl
theorem neD_ret {x y : D} (h1 : SeqAt.shaped x = true) (h2 : SeqAt.shaped y = true) : neD x y = .ret (!PyData.eqv x y) := by
  unfold neD; rw [h1, h2] <;> rfl
theorem inD_tret {x : D} {ds : List D} (h1 : SeqAt.shaped x = true) (h2 : SeqAt.shaped (.tuple ds) = true) : inD x (.tuple ds) = .ret (anyD ds x) := by
  rw [inD_tup, h1, h2] <;> rfl
theorem inD_lret {x : D} {ds : List D} (h1 : SeqAt.shaped x = true) (h2 : SeqAt.shaped (.list ds) = true) : inD x (.list ds) = .ret (anyD ds x) := by
  rw [inD_list, h1, h2] <;> rfl
theorem opt_some {α : Type} (a : α) : T.opt (some a) = .ret a := rfl
/-- a sum over a list -/
theorem foldM_sum {α : Type} {f : D → D → T D} {e : α → D} {v : α → Int} : ∀ (l : List α) (s : Int), (∀ a ∈ l, ∀ s : Int, f (e a) (.int s) = .ret (.int (s + v a))) → T.foldM f (l.map e) (.int s) = .ret (.int (s + (l.map v).sum))
  | [], s, _ => by rw [List.map_nil, List.map_nil, List.sum_nil, Int.add_zero] <;> rfl
  | a :: l, s, h => by
    show (f (e a) (.int s)).bind _ = _
    rw [h a List.mem_cons_self s, T.ret_bind]
    show T.foldM f (l.map e) _ = _
    rw [foldM_sum l (s + v a) fun b hb => h b (List.mem_cons_of_mem _ hb), List.map_cons, List.sum_cons, Int.add_assoc]
/-- the first that tells something -/
theorem loopM_find {f : D → Unit → T (O Unit)} {g : D → Option D} : ∀ (l : List D), (∀ d ∈ l, f d () = .ret (match g d with | some r => .rt r | none => .nx ())) → T.loopM f l () = .ret (match l.findSome? g with | some r => .rt r | none => .nx ())
  | [], _ => rfl
  | d :: l, h => by
    show (f d ()).bind _ = _
    rw [h d List.mem_cons_self, List.findSome?_cons]
    cases e : g d with
    | none => rw [T.ret_bind]; exact loopM_find l fun b hb => h b (List.mem_cons_of_mem _ hb)
    | some r => rfl
theorem range2_ret {i j : Int} (h : (big62 i && big62 j) = true) : range2 (.int i) (.int j) = .ret (rangeL i j) := by
  show T.need _ _ = _
  rw [h] <;> rfl
theorem range1_ret {j : Int} (h : big62 j = true) : range1 (.int j) = .ret (rangeL 0 j) := by
  show T.need _ _ = _
  rw [h] <;> rfl
theorem at_nat {ds : List D} {k : Nat} {d : D} (h : ds[k]? = some d) : atI ds (k : Int) = some d := by
  have hk : k < ds.length := (List.getElem?_eq_some_iff.mp h).1
  unfold atI ixN
  rw [if_pos (by omega), if_pos (by omega)]
  show ds[(k : Int).toNat]? = _
  rw [Int.toNat_natCast]; exact h
theorem ix_tnat {ds : List D} {k : Nat} {d : D} (h : ds[k]? = some d) : ixD (.tuple ds) (.int (k : Nat)) = .ret d := by
  simp only [ixD, at_nat h]
theorem ix_lnat {ds : List D} {k : Nat} {d : D} (h : ds[k]? = some d) : ixD (.list ds) (.int (k : Nat)) = .ret d := by
  simp only [ixD, at_nat h]
end DD
end T_PL

section T_PR
set_option Elab.async false
set_option linter.all false
set_option maxRecDepth 1000000
set_option maxHeartbeats 1000000
set_option autoImplicit false
/-! the ranking, plainly: books, tables, what a key tells, in lists of whole numbers -/
namespace RK
open PySem DD L2
def N8 : List Str := [("ann" : Str), ("bob" : Str), ("cid" : Str), ("dov" : Str), ("eve" : Str), ("fay" : Str), ("gus" : Str), ("hal" : Str)]
def nm (i : Nat) : Str := N8.getD i ("ann" : Str)
def sd (i : Nat) : D := .str (nm i)
inductive Ms where
  | pt | df | gl | wn | tk | ag | aw
  deriving DecidableEq
def Ms.s : Ms → Str
  | .pt => ("points" : Str)
  | .df => ("difference" : Str)
  | .gl => ("goals" : Str)
  | .wn => ("wins" : Str)
  | .tk => ("taken" : Str)
  | .ag => ("awaygoals" : Str)
  | .aw => ("awaywins" : Str)
def scs (b : Bool) : Str := if b then ("all" : Str) else ("among" : Str)
def eK (k : Ms × Bool) : D := .tuple [.str k.1.s, .str (scs k.2)]
def eM (m : Nat × Nat × Int) : D := .tuple [sd m.1, sd m.2.1, .int m.2.2]
def eR : Option (Int × Int) → D
  | none => .none
  | some r => .tuple [.int r.1, .int r.2]
def eP (p : Int × Int × Int) : D := .tuple [.int p.1, .int p.2.1, .int p.2.2]
structure Bk where
  p : Int × Int × Int
  ks : List (Ms × Bool)
  anew : Bool
def eB (b : Bk) : D := .tuple [.str ("book" : Str), eP b.p, .tuple (b.ks.map eK), .str (if b.anew then ("anew" : Str) else ("on" : Str))]
structure Tb where
  ns : List Nat
  ms : List (Nat × Nat × Int)
  rs : List (Option (Int × Int))
def eT (t : Tb) : D := .tuple [.str ("table" : Str), .tuple [.str ("fixtures" : Str), .tuple (t.ns.map sd), .tuple (t.ms.map eM)], .tuple (t.rs.map eR)]
def eS (s : List (Nat × Int)) : D := .tuple (s.map fun p => .tuple [sd p.1, .int p.2])
/-- a good table -/
structure Tb.Ok (t : Tb) : Prop where
  n8 : ∀ i ∈ t.ns, i < 8
  asc : t.ns.Pairwise (· < ·)
  two : 2 ≤ t.ns.length
  six : t.ns.length ≤ 6
  len : t.ms.length = t.rs.length
  m8 : ∀ m ∈ t.ms, m.1 < 8 ∧ m.2.1 < 8
  few : t.ms.length < 1000
def SOk (s : List (Nat × Int)) : Prop := s.length < 1000 ∧ ∀ p ∈ s, p.1 < 8
structure LOk (l : List Nat) : Prop where
  n8 : ∀ i ∈ l, i < 8
  asc : l.Pairwise (· < ·)
  ne : l ≠ []
  six : l.length ≤ 6

/-! ### equality of names and words -/
theorem sd_eqv : ∀ i < 8, ∀ j < 8, PyData.eqv (sd i) (sd j) = decide (i = j) := by decide +kernel
theorem sd_sh : ∀ i < 8, SeqAt.shaped (sd i) = true := by decide +kernel
theorem sd_shp : ∀ i < 8, shp 0 (sd i) = true := by decide +kernel
theorem nm_inj : ∀ i < 8, ∀ j < 8, nm i = nm j → i = j := by decide +kernel
theorem sides_sh {l : List Nat} (h : ∀ i ∈ l, i < 8) : SeqAt.shaped (.tuple (l.map sd)) = true := shp_shaped (n := 1) (shp_tup fun d hd => by
  obtain ⟨i, hi, rfl⟩ := List.mem_map.mp hd
  exact sd_shp i (h i hi)) (by decide)
theorem sides_shL {l : List Nat} (h : ∀ i ∈ l, i < 8) : SeqAt.shaped (.list (l.map sd)) = true := shp_shaped (n := 1) (shp_list fun d hd => by
  obtain ⟨i, hi, rfl⟩ := List.mem_map.mp hd
  exact sd_shp i (h i hi)) (by decide)
theorem anyD_sd {l : List Nat} {i : Nat} (h : ∀ j ∈ l, j < 8) (hi : i < 8) : anyD (l.map sd) (sd i) = decide (i ∈ l) := by
  unfold anyD
  induction l with
  | nil => rfl
  | cons j l ih =>
    rw [List.map_cons, List.any_cons, ih fun x hx => h x (List.mem_cons_of_mem _ hx), sd_eqv j (h j List.mem_cons_self) i hi]
    by_cases e : j = i
    · subst e; simp
    · simp [e, Ne.symm e]
theorem in_sides {l : List Nat} {i : Nat} (h : ∀ j ∈ l, j < 8) (hi : i < 8) : inD (sd i) (.tuple (l.map sd)) = .ret (decide (i ∈ l)) := by
  rw [inD_tret (sd_sh i hi) (sides_sh h), anyD_sd h hi]
theorem in_sidesL {l : List Nat} {i : Nat} (h : ∀ j ∈ l, j < 8) (hi : i < 8) : inD (sd i) (.list (l.map sd)) = .ret (decide (i ∈ l)) := by
  rw [inD_lret (sd_sh i hi) (sides_shL h), anyD_sd h hi]
theorem eq_sd {i j : Nat} (hi : i < 8) (hj : j < 8) : eqD (sd i) (sd j) = .ret (decide (i = j)) := by rw [eqD_ret (sd_sh i hi) (sd_sh j hj), sd_eqv i hi j hj]
/-- two texts, by what they are -/
theorem eq_str (a b : Str) (ha : SeqAt.shaped (.str a) = true) (hb : SeqAt.shaped (.str b) = true) : eqD (.str a) (.str b) = .ret (PyData.eqv (.str a) (.str b)) := eqD_ret ha hb
theorem ms_sh (m : Ms) : SeqAt.shaped (.str m.s) = true := by cases m <;> decide +kernel
theorem ms_eq (m k : Ms) : eqD (.str m.s) (.str k.s) = .ret (decide (m = k)) := by
  rw [eqD_ret (ms_sh m) (ms_sh k)]
  congr 1
  cases m <;> cases k <;> decide +kernel
theorem sc_all (b : Bool) : eqD (.str (scs b)) (.str ("all" : Str)) = .ret b := by
  rw [eqD_ret (by cases b <;> decide +kernel) (by decide +kernel)]
  congr 1
  cases b <;> decide +kernel
theorem ms_wins (m : Ms) : inD (.str m.s) (.tuple [.str ("wins" : Str), .str ("awaywins" : Str)]) = .ret (decide (m = .wn ∨ m = .aw)) := by
  rw [inD_tret (ms_sh m) (by decide +kernel)]
  congr 1
  cases m <;> decide +kernel
theorem int_eq (a b : Int) : eqD (.int a) (.int b) = .ret (decide (a = b)) := by
  first
    | (rw [eqD_ret rfl rfl]; done)
    | (rw [eqD_ret rfl rfl]; congr 1; done)
    | (rw [eqD_ret rfl rfl]; congr 1; simp only [PyData.eqv])
theorem int_ne (a b : Int) : neD (.int a) (.int b) = .ret (!decide (a = b)) := by
  first
    | (rw [neD_ret rfl rfl]; done)
    | (rw [neD_ret rfl rfl]; congr 1; done)
    | (rw [neD_ret rfl rfl]; congr 1; simp only [PyData.eqv])
theorem key_ptall (k : Ms × Bool) : PyData.eqv (eK k) (.tuple [.str ("points" : Str), .str ("all" : Str)]) = decide (k = (.pt, true)) := by
  obtain ⟨m, b⟩ := k
  cases m <;> cases b <;> decide +kernel
theorem key_sh (k : Ms × Bool) : SeqAt.shaped (eK k) = true := by
  obtain ⟨m, b⟩ := k
  cases m <;> cases b <;> decide +kernel
theorem key_eq (k : Ms × Bool) : eqD (eK k) (.tuple [.str ("points" : Str), .str ("all" : Str)]) = .ret (decide (k = (.pt, true))) := by rw [eqD_ret (key_sh k) (by decide +kernel), key_ptall]
theorem key_ne (k : Ms × Bool) : neD (eK k) (.tuple [.str ("points" : Str), .str ("all" : Str)]) = .ret (!decide (k = (.pt, true))) := by rw [neD_ret (key_sh k) (by decide +kernel), key_ptall]
theorem anew_eq (b : Bool) : eqD (.str (if b then ("anew" : Str) else ("on" : Str))) (.str ("anew" : Str)) = .ret b := by
  rw [eqD_ret (by cases b <;> decide +kernel) (by decide +kernel)]
  congr 1
  cases b <;> decide +kernel

/-! ### what a key tells of a side -/
def meas (p : Int × Int × Int) (m : Ms) (own oth : Int) (away : Bool) : Int := match m with
  | .pt => if oth < own then p.1 else if own = oth then p.2.1 else p.2.2
  | .wn => if oth < own then 1 else 0
  | .aw => if oth < own ∧ away = true then 1 else 0
  | .df => own - oth
  | .tk => oth
  | .gl => own
  | .ag => if away = true then own else 0
def inc (p : Int × Int × Int) (lot : List Nat) (k : Ms × Bool) (side : Nat) (m : Nat × Nat × Int) : Option (Int × Int) → Int
  | none => 0
  | some r => if (side = m.1 ∨ side = m.2.1) ∧ (k.2 = true ∨ (m.1 ∈ lot ∧ m.2.1 ∈ lot)) then (if side = m.1 then meas p k.1 r.1 r.2 false else meas p k.1 r.2 r.1 true) else 0
def val (b : Bk) (t : Tb) (lot : List Nat) (k : Ms × Bool) (side : Nat) : Int := ((t.ms.zip t.rs).map fun x => inc b.p lot k side x.1 x.2).sum
def strk (s : List (Nat × Int)) (k : Ms × Bool) (side : Nat) : Int := if k = (.pt, true) then ((s.filter fun p => decide (p.1 = side)).map (·.2)).sum else 0
def wor (b : Bk) (t : Tb) (s : List (Nat × Int)) (lot : List Nat) (k : Ms × Bool) (side : Nat) : Int := val b t lot k side - strk s k side
theorem zipD_map {α β : Type} (f : α → D) (g : β → D) : ∀ (l : List α) (m : List β), zipD (l.map f) (m.map g) = (l.zip m).map fun x => .tuple [f x.1, g x.2]
  | [], _ => by simp [zipD]
  | _ :: _, [] => by simp [zipD]
  | a :: l, b :: m => by simp only [List.map_cons, zipD, List.zip_cons_cons, zipD_map f g l m]
theorem zsT_map {α β : Type} (f : α → D) (g : β → D) {l : List α} {m : List β} (h : l.length = m.length) : zsTD (.tuple (l.map f)) (.tuple (m.map g)) = .ret ((l.zip m).map fun x => .tuple [f x.1, g x.2]) := by
  show T.need _ _ = _
  rw [List.length_map, List.length_map, h, beq_self_eq_true, zipD_map] <;> rfl

/-! ### comprehensions, dicts, sets, sorting -/
theorem filtM_map {α π : Type} {dec : D → Option π} {tc : π → T Bool} {te : π → T D} {e : α → D} {b : α → π} {c : α → Bool} {v : α → D} : ∀ {l : List α}, (∀ a ∈ l, dec (e a) = some (b a)) → (∀ a ∈ l, tc (b a) = .ret (c a)) → (∀ a ∈ l, c a = true → te (b a) = .ret (v a)) → T.filtM (itemT dec tc te) (l.map e) = .ret ((l.filter c).map v)
  | [], _, _, _ => rfl
  | a :: l, h1, h2, h3 => by
    show (itemT dec tc te (e a)).bind _ = _
    have ih := filtM_map (l := l) (fun b hb => h1 b (List.mem_cons_of_mem _ hb)) (fun b hb => h2 b (List.mem_cons_of_mem _ hb)) (fun b hb => h3 b (List.mem_cons_of_mem _ hb))
    unfold itemT
    rw [h1 a List.mem_cons_self, opt_some, T.ret_bind, h2 a List.mem_cons_self, T.ret_bind]
    cases q : c a with
    | true =>
      rw [if_pos rfl, h3 a List.mem_cons_self q, T.ret_bind, T.ret_bind]
      show (T.filtM (itemT dec tc te) (l.map e)).bind _ = _
      rw [ih, T.ret_bind, List.filter_cons_of_pos q] <;> rfl
    | false =>
      rw [if_neg Bool.false_ne_true, T.ret_bind]
      show (T.filtM (itemT dec tc te) (l.map e)).bind _ = _
      rw [ih, T.ret_bind, List.filter_cons_of_neg (by rw [q]; exact Bool.false_ne_true)] <;> rfl
theorem lc_map {α π : Type} {dec : D → Option π} {tc : π → T Bool} {te : π → T D} {e : α → D} {b : α → π} {c : α → Bool} {v : α → D} {l : List α} (hl : l.length < 16777216) (h1 : ∀ a ∈ l, dec (e a) = some (b a)) (h2 : ∀ a ∈ l, tc (b a) = .ret (c a)) (h3 : ∀ a ∈ l, c a = true → te (b a) = .ret (v a)) :
    lcT (.ret (l.map e)) dec tc te = .ret ((l.filter c).map v) := by
  unfold lcT
  rw [T.ret_bind, T.chk_pos _ (by rw [List.length_map]; exact hl), filtM_map h1 h2 h3]
/-- all of them -/
theorem lc_all {α π : Type} {dec : D → Option π} {te : π → T D} {e : α → D} {b : α → π} {v : α → D} {l : List α} (hl : l.length < 16777216) (h1 : ∀ a ∈ l, dec (e a) = some (b a)) (h3 : ∀ a ∈ l, te (b a) = .ret (v a)) :
    lcT (.ret (l.map e)) dec (fun _ => .ret true) te = .ret (l.map v) := by
  have h := lc_map (tc := fun _ => .ret true) (c := fun _ => true) (v := v) hl h1 (fun _ _ => rfl) fun a ha _ => h3 a ha
  rw [show List.filter (fun _ => true) l = l by simp] at h
  exact h
theorem sum_ints (l : List Int) : sumD (.list (l.map .int)) = .ret (.int l.sum) := by
  simp only [sumD, intsD_map]
def eD (lot : List Nat) (w : Nat → Int) : D := dctD (lot.map fun i => (Sum.inr (nm i), .int (w i)))
theorem putA_new {acc : List (Key × D)} {k : Key} {d : D} (h : ∀ p ∈ acc, p.1 ≠ k) : putA acc k d = acc ++ [(k, d)] := by
  unfold putA
  rw [if_neg]
  intro e
  obtain ⟨p, hp, e⟩ := List.any_eq_true.mp e
  exact h p hp (of_decide_eq_true e)
theorem dict_fold {f : D → List (Key × D) → T (List (Key × D))} {w : Nat → D} : ∀ (l : List Nat) (acc : List (Key × D)), l.Pairwise (· < ·) → (∀ i ∈ l, i < 8) → (∀ p ∈ acc, ∀ i ∈ l, p.1 ≠ Sum.inr (nm i)) → (∀ i ∈ l, ∀ acc, f (sd i) acc = .ret (putA acc (Sum.inr (nm i)) (w i))) →
    T.foldM f (l.map sd) acc = .ret (acc ++ l.map fun i => (Sum.inr (nm i), w i))
  | [], acc, _, _, _, _ => by rw [List.map_nil, List.map_nil, List.append_nil] <;> rfl
  | i :: l, acc, hp, h8, hn, hf => by
    show (f (sd i) acc).bind _ = _
    rw [hf i List.mem_cons_self, T.ret_bind, putA_new fun p hp => hn p hp i List.mem_cons_self]
    obtain ⟨h1, h2⟩ := List.pairwise_cons.mp hp
    show T.foldM f (l.map sd) _ = _
    rw [dict_fold l _ h2 (fun j hj => h8 j (List.mem_cons_of_mem _ hj)) (fun p hp j hj => ?_) fun j hj => hf j (List.mem_cons_of_mem _ hj), List.map_cons, List.append_assoc] <;> first | rfl | skip
    rcases List.mem_append.mp hp with hp | hp
    · exact hn p hp j (List.mem_cons_of_mem _ hj)
    · rw [List.mem_singleton.mp hp]
      intro e
      have e := nm_inj i (h8 i List.mem_cons_self) j (h8 j (List.mem_cons_of_mem _ hj)) (Sum.inr.inj e)
      exact absurd e (Nat.ne_of_lt (h1 j hj))
theorem valA_map {w : Nat → D} : ∀ (l : List Nat), (∀ i ∈ l, i < 8) → ∀ i ∈ l, valA (l.map fun i => (Sum.inr (nm i), w i)) (Sum.inr (nm i)) = some (w i)
  | j :: l, h8, i, hi => by
    unfold valA
    rw [List.map_cons, List.find?_cons]
    by_cases e : j = i
    · subst e
      simp
    · have ne : (Sum.inr (nm j) : Key) ≠ Sum.inr (nm i) := fun q => e (nm_inj j (h8 j List.mem_cons_self) i (h8 i hi) (Sum.inr.inj q))
      simp only [ne, decide_false]
      have hi' : i ∈ l := by
        rcases List.mem_cons.mp hi with q | q
        · exact absurd q.symm e
        · exact q
      have := valA_map (w := w) l (fun x hx => h8 x (List.mem_cons_of_mem _ hx)) i hi'
      unfold valA at this
      exact this
theorem dget_ok {lot : List Nat} {w : Nat → Int} {i : Nat} (h8 : ∀ i ∈ lot, i < 8) (hi : i ∈ lot) : dgetD (eD lot w) (sd i) = .ret (.int (w i)) := by
  unfold eD dctD sd
  show T.opt (valA (kdsOf _) (Sum.inr (nm i))) = _
  rw [kdsOf_map, valA_map (w := fun i => .int (w i)) lot h8 i hi] <;> rfl
theorem vals_ok (lot : List Nat) (w : Nat → Int) : valsD (eD lot w) = .ret ((lot.map w).map .int) := by
  unfold eD dctD
  show T.ret _ = _
  rw [List.map_map, List.map_map, List.map_map] <;> rfl
theorem keys_ok (lot : List Nat) (w : Nat → Int) : itemsK (eD lot w) = .ret (lot.map sd) := by
  unfold eD dctD
  show T.ret _ = _
  rw [List.map_map, List.map_map] <;> rfl
/-- sorting what is sorted -/
theorem srt_id : ∀ (l : List D), l.Pairwise (fun a b => leS a b = true) → srtD l = l
  | [], _ => rfl
  | x :: l, h => by
    obtain ⟨h1, h2⟩ := List.pairwise_cons.mp h
    show insD x (srtD l) = _
    rw [srt_id l h2]
    cases l with
    | nil => rfl
    | cons y l =>
      show (if leS x y then x :: y :: l else y :: insD x l) = _
      rw [if_pos (h1 y List.mem_cons_self)]
theorem sd_le : ∀ i < 8, ∀ j < 8, i < j → leS (sd i) (sd j) = true := by decide +kernel
theorem sd_alike : ∀ i < 8, ∀ j < 8, PySem.W.alike (sd i) (sd j) = true := by decide +kernel
theorem sort_sides {l : List Nat} (h8 : ∀ i ∈ l, i < 8) (hp : l.Pairwise (· < ·)) : sortedD (.list (l.map sd)) = .ret (l.map sd) := by
  have ok : okSort (l.map sd) = true := by
    unfold okSort alikeL
    simp only [Bool.and_eq_true, Bool.or_eq_true, List.all_eq_true, List.mem_map, forall_exists_index, and_imp, forall_apply_eq_imp_iff₂, decide_eq_true_eq]
    exact ⟨⟨fun i hi j hj => sd_alike i (h8 i hi) j (h8 j hj), .inr fun i hi => rfl⟩, fun i hi => Nat.zero_le _⟩
  show T.need _ _ = _
  rw [ok, srt_id] <;> first | rfl | skip
  refine List.pairwise_map.mpr (hp.imp_of_mem fun {i j} hi hj h => sd_le i (h8 i hi) j (h8 j hj) h)

/-! ### sets of whole numbers, sorted -/
theorem nk_ints : ∀ is : List Int, nkAll (is.map .int) = some (is.map .num)
  | [] => rfl
  | i :: is => by
    have ih := nk_ints is
    show (match nkD (.int i), nkAll (is.map .int) with | some k, some ks => some (k :: ks) | _, _ => none) = _
    rw [ih] <;> rfl
theorem ddK_nums (is : List Int) : ∃ js : List Int, ddK (is.map .num) = js.map .num ∧ (∀ x, x ∈ js ↔ x ∈ is) ∧ js.Nodup := by
  have key : ∀ k ∈ ddK (is.map .num), ∃ i : Int, k = .num i := fun k hk => by
    obtain ⟨i, _, rfl⟩ := List.mem_map.mp ((ddK_mem _ _).mp hk)
    exact ⟨i, rfl⟩
  have un : ∀ l : List NestedKey, (∀ k ∈ l, ∃ i : Int, k = .num i) → ∃ js : List Int, l = js.map .num := by
    intro l
    induction l with
    | nil => exact fun _ => ⟨[], rfl⟩
    | cons k l ih =>
      intro h
      obtain ⟨i, rfl⟩ := h k List.mem_cons_self
      obtain ⟨js, rfl⟩ := ih fun k hk => h k (List.mem_cons_of_mem _ hk)
      exact ⟨i :: js, rfl⟩
  obtain ⟨js, e⟩ := un _ key
  refine ⟨js, e, fun x => ?_, ?_⟩
  · have h := ddK_mem (is.map .num) (.num x)
    rw [e] at h
    simpa using h
  · have h := ddK_nodup (is.map .num)
    rw [e] at h
    exact (List.pairwise_map.mp h).imp fun {a b} n e => n (by rw [e])
theorem le_int (a b : Int) : leS (.int a) (.int b) = decide (a ≤ b) := by
  unfold leS
  rw [PySem.W.dataLt_int]
  by_cases h : a ≤ b
  · simp [h]
  · simp [h]; omega
def srI (is : List Int) : List Int := ((T.val (srtSetD (.list (is.map .int)))).bind intsD).getD []
theorem srI_ok {is : List Int} (h : is.length < 64) : srtSetD (.list (is.map .int)) = .ret ((srI is).map .int) ∧ srtSetD (.tuple (is.map .int)) = .ret ((srI is).map .int) ∧ (∀ x, x ∈ srI is ↔ x ∈ is) ∧ (srI is).Pairwise (· < ·) ∧
    lenSetD (.list (is.map .int)) = .ret (.int ((srI is).length : Nat)) ∧ (srI is).length < 64 := by
  obtain ⟨js, e, hm, hn⟩ := ddK_nums is
  have oset : okSet (is.map NestedKey.num) = true := by
    unfold okSet
    rw [List.length_map, decide_eq_true h, Bool.and_true, Bool.or_eq_true]
    exact .inl (List.all_eq_true.mpr fun k hk => by obtain ⟨i, _, rfl⟩ := List.mem_map.mp hk; rfl)
  have few : js.length < 64 := by
    have := ddK_few oset
    rw [e, List.length_map] at this
    exact this
  have set : setD (is.map .int) = .ret (js.map .num) := by
    unfold setD
    rw [nk_ints]
    show T.need (okSet (is.map .num)) (.ret (ddK (is.map .num))) = _
    rw [e, oset] <;> rfl
  have dat : (js.map NestedKey.num).map NestedKey.data = js.map PyData.int := by rw [List.map_map] <;> rfl
  have oks : okSort (js.map .int) = true := by
    unfold okSort alikeL
    simp only [Bool.and_eq_true, Bool.or_eq_true, List.all_eq_true, List.mem_map, forall_exists_index, and_imp, forall_apply_eq_imp_iff₂, decide_eq_true_eq]
    exact ⟨⟨fun i hi j hj => rfl, .inr fun i hi => rfl⟩, fun i hi => Nat.zero_le _⟩
  obtain ⟨ms, em, pm⟩ : ∃ ms : List Int, srtD (js.map .int) = ms.map .int ∧ ms.Perm js := by
    have p := srt_perm (js.map .int)
    have all : ∀ d ∈ srtD (js.map .int), ∃ i : Int, d = .int i := fun d hd => by
      obtain ⟨i, _, rfl⟩ := List.mem_map.mp (p.mem_iff.mp hd)
      exact ⟨i, rfl⟩
    have un : ∀ l : List D, (∀ k ∈ l, ∃ i : Int, k = .int i) → ∃ js : List Int, l = js.map .int := by
      intro l
      induction l with
      | nil => exact fun _ => ⟨[], rfl⟩
      | cons k l ih =>
        intro h
        obtain ⟨i, rfl⟩ := h k List.mem_cons_self
        obtain ⟨js, rfl⟩ := ih fun k hk => h k (List.mem_cons_of_mem _ hk)
        exact ⟨i :: js, rfl⟩
    obtain ⟨ms, em⟩ := un _ all
    refine ⟨ms, em, ?_⟩
    rw [em] at p
    have q := p.map (fun d : D => match d with | .int i => i | _ => 0)
    rw [List.map_map, List.map_map] at q
    simpa [Function.comp_def] using q
  have r1 : srtSetD (.list (is.map .int)) = .ret (ms.map .int) := by
    show (setD (is.map .int)).bind _ = _
    rw [set, T.ret_bind, dat, oks, em] <;> rfl
  have r2 : srtSetD (.tuple (is.map .int)) = .ret (ms.map .int) := by
    show (setD (is.map .int)).bind _ = _
    rw [set, T.ret_bind, dat, oks, em] <;> rfl
  have es : srI is = ms := by
    unfold srI
    rw [r1]
    show ((intsD (ms.map .int))).getD [] = _
    rw [intsD_map] <;> rfl
  rw [es]
  have pw : ms.Pairwise (· ≤ ·) := by
    have tr : ∀ a b c, leS a b = true → leS b c = true → leS a c = true := leS_total.trans
    have to : ∀ a b, (leS a b || leS b a) = true := fun a b => Bool.or_eq_true_iff.mpr (leS_total.total a b)
    have h := List.pairwise_mergeSort tr to (js.map PyData.int)
    rw [srt_merge, em] at h
    exact (List.pairwise_map.mp h).imp fun {a b} h => by rw [le_int] at h; exact of_decide_eq_true h
  have nd : ms.Nodup := pm.nodup_iff.mpr hn
  refine ⟨r1, r2, fun x => (pm.mem_iff).trans (hm x), ?_, ?_, by rw [pm.length_eq]; exact few⟩
  · have h2 : ms.Pairwise (fun a b => a ≤ b ∧ a ≠ b) := List.pairwise_and_iff.mpr ⟨pw, nd⟩
    exact h2.imp fun {a b} h => by omega
  · show (setD (is.map .int)).bind _ = _
    rw [set, T.ret_bind, List.length_map, pm.length_eq] <;> rfl

/-! ### groups, the first key that parts -/
def grp (lot : List Nat) (w : Nat → Int) (tk : Bool) : List (List Nat) := (if tk then srI (lot.map w) else (srI (lot.map w)).reverse).map fun n => lot.filter fun i => decide (w i = n)
def keyAt (b : Bk) (k : Nat) : Ms × Bool := b.ks.getD k (.pt, true)
def wk (b : Bk) (t : Tb) (s : List (Nat × Int)) (lot : List Nat) (k : Nat) : Nat → Int := wor b t s lot (keyAt b k)
def tkAt (b : Bk) (k : Nat) : Bool := decide ((keyAt b k).1 = .tk)
def partN (b : Bk) (t : Tb) (s : List (Nat × Int)) (lot : List Nat) (first : Nat) : Option Nat := ((List.range (b.ks.length - first)).map (first + ·)).find? fun k => decide (1 < (srI (lot.map (wk b t s lot k))).length)
theorem grp_len (lot : List Nat) (w : Nat → Int) (tk : Bool) : (grp lot w tk).length = (srI (lot.map w)).length := by
  unfold grp
  cases tk <;> simp
theorem filter_lok {l : List Nat} (h : ∀ i ∈ l, i < 8) (p : Nat → Bool) : ∀ i ∈ l.filter p, i < 8 := fun i hi => h i (List.mem_filter.mp hi).1
theorem mem_grp {lot : List Nat} {w : Nat → Int} {tk : Bool} (hl : lot.length < 64) {g : List Nat} : g ∈ grp lot w tk ↔ ∃ i ∈ lot, g = lot.filter fun j => decide (w j = w i) := by
  have hm := (srI_ok (is := lot.map w) (by rw [List.length_map]; exact hl)).2.2.1
  have hm' : ∀ n, n ∈ (if tk then srI (lot.map w) else (srI (lot.map w)).reverse) ↔ n ∈ lot.map w := fun n => by
    cases tk
    · simp only [Bool.false_eq_true, if_false, List.mem_reverse]; exact hm n
    · simp only [if_true]; exact hm n
  unfold grp
  constructor
  · intro h
    obtain ⟨n, hn, rfl⟩ := List.mem_map.mp h
    obtain ⟨i, hi, rfl⟩ := List.mem_map.mp ((hm' n).mp hn)
    exact ⟨i, hi, rfl⟩
  · rintro ⟨i, hi, rfl⟩
    exact List.mem_map.mpr ⟨w i, (hm' _).mpr (List.mem_map.mpr ⟨i, hi, rfl⟩), rfl⟩
/-- a loop over numbers that ends at the first that tells something -/
theorem range_from {a b : Nat} (ha : a ≤ 1000) (hb : b ≤ 1000) : range2 (.int (a : Nat)) (.int (b : Nat)) = .ret (((List.range (b - a)).map (a + ·)).map fun (k : Nat) => PyData.int (k : Nat)) := by
  rw [range2_ret (by unfold big62; simp; omega)]
  unfold rangeL
  rw [List.map_map, show ((b : Int) - (a : Int)).toNat = b - a by omega]
  congr 1
theorem range_nat {b : Nat} (hb : b ≤ 1000) : range1 (.int (b : Nat)) = .ret ((List.range b).map fun (k : Nat) => PyData.int (k : Nat)) := by
  rw [range1_ret (by unfold big62; simp; omega)]
  unfold rangeL
  rw [show ((b : Int) - 0).toNat = b by omega]
  congr 1
  exact List.map_congr_left fun i hi => by rw [Int.zero_add]
theorem loopM_first {f : D → Unit → T (O Unit)} {c : Nat → Bool} {r : Nat → D} : ∀ (l : List Nat), (∀ k ∈ l, f (.int (k : Nat)) () = .ret (if c k = true then .rt (r k) else .nx ())) → T.loopM f (l.map fun (k : Nat) => PyData.int (k : Nat)) () = .ret (match l.find? c with | some k => .rt (r k) | none => .nx ())
  | [], _ => rfl
  | k :: l, h => by
    show (f (.int (k : Nat)) ()).bind _ = _
    rw [h k List.mem_cons_self, List.find?_cons]
    cases e : c k with
    | false => rw [if_neg Bool.false_ne_true, T.ret_bind]; exact loopM_first l fun b hb => h b (List.mem_cons_of_mem _ hb)
    | true => rw [if_pos rfl] <;> rfl
end RK
end T_PR

section T_W_K02
set_option Elab.async false
set_option linter.all false
set_option maxRecDepth 100000
set_option maxHeartbeats 2000000
set_option autoImplicit false
namespace K02
open PySem PySem.Spec L2 DD
open PyProof.Rows hiding St
def top (i : Nat) : Stmt := PySem.Challenge.pw_leaguewise_k02_whole_reasons_of_places.main.body.getD i (.Pass ⟨0, 0, 0, 0⟩)
structure Gs (K : PySem.W.Frag) (mg : Str → Option Value) : Prop where
  b_bool : mg ("bool" : Str) = none
  b_dict : mg ("dict" : Str) = none
  b_int : mg ("int" : Str) = none
  b_isinstance : mg ("isinstance" : Str) = none
  b_len : mg ("len" : Str) = none
  b_list : mg ("list" : Str) = none
  b_min : mg ("min" : Str) = none
  b_range : mg ("range" : Str) = none
  b_set : mg ("set" : Str) = none
  b_sorted : mg ("sorted" : Str) = none
  b_str : mg ("str" : Str) = none
  b_sum : mg ("sum" : Str) = none
  b_tuple : mg ("tuple" : Str) = none
  b_zip : mg ("zip" : Str) = none
structure Gx (P : Program) (K : PySem.W.Frag) (mg : Str → Option Value) (xc : XC) : Prop where
  x_NoSide : ExG P K mg ("NoSide" : Str) (xc ("NoSide" : Str)).1 ("side" : Str)
  s_NoSide : (xc ("NoSide" : Str)).2 = ("side" : Str)
section
variable {P : Program} {w : World} {K : PySem.W.Frag} {mg : Str → Option Value} {xc : XC}
/-! ### seen_from -/
abbrev s_seen_from : Stmt := top 4
def N_seen_from : List Str := [("match" : Str), ("result" : Str), ("side" : Str)]
theorem sc_seen_from : FnScope N_seen_from [("match" : Str), ("result" : Str), ("side" : Str)] (defScope s_seen_from) := ⟨rfl, rfl, rfl, by decide +kernel, rfl, by decide +kernel, by decide +kernel⟩
def m_seen_from (a_match : D) (a_result : D) (a_side : D) : T D := ((T.b2 eqD (T.b2 ixD (T.ret a_match) (T.ret (.int 0))) (T.ret a_side)).bind fun k => if k then ((T.b2 ixD (T.ret a_result) (T.ret (.int 0))).bind fun a => (T.b2 ixD (T.ret a_result) (T.ret (.int 1))).bind fun b => (T.ret (.bool false)).bind fun c => T.ret (.tuple [a, b, c])) else ((T.b2 ixD (T.ret a_result) (T.ret (.int 1))).bind fun a => (T.b2 ixD (T.ret a_result) (T.ret (.int 0))).bind fun b => (T.ret (.bool true)).bind fun c => T.ret (.tuple [a, b, c])))
theorem d_seen_from (G : Gs K mg) : ∀ A q ds, Room 0 A → ds.length = 3 → DS (bodyX P w K mg A N_seen_from s_seen_from) q (argSl N_seen_from ds) (defBody s_seen_from) (ar3 m_seen_from ds) En.rt := fun A q ds hr hl => match ds, hl with
  | [a_match, a_result, a_side], _ => by
    have nd : (N_seen_from).Nodup := by decide +kernel
    exact (ds_at (ρ' := [.va a_match, .va a_result, .va a_side]) rfl (ds_ret (dx_ifExp (dt_cmp (do_eq (r64 hr)) (dx_ix (dx_va 0 rfl rfl (by first | exact .inl rfl | exact .inr (.inl rfl) | exact .inr (.inr rfl))) dx_int) (dx_va 2 rfl rfl (by first | exact .inl rfl | exact .inr (.inl rfl) | exact .inr (.inr rfl))) (by first | exact nomark _ | rfl | with_unfolding_all rfl)) (dx_tup3 (dx_ix (dx_va 1 rfl rfl (by first | exact .inl rfl | exact .inr (.inl rfl) | exact .inr (.inr rfl))) dx_int) (dx_ix (dx_va 1 rfl rfl (by first | exact .inl rfl | exact .inr (.inl rfl) | exact .inr (.inr rfl))) dx_int) dx_bl) (dx_tup3 (dx_ix (dx_va 1 rfl rfl (by first | exact .inl rfl | exact .inr (.inl rfl) | exact .inr (.inr rfl))) dx_int) (dx_ix (dx_va 1 rfl rfl (by first | exact .inl rfl | exact .inr (.inl rfl) | exact .inr (.inr rfl))) dx_int) dx_bl))))
/-! ### measured -/
abbrev s_measured : Stmt := top 5
def N_measured : List Str := [("book" : Str), ("measure" : Str), ("own" : Str), ("other" : Str), ("away" : Str)]
theorem sc_measured : FnScope N_measured [("book" : Str), ("measure" : Str), ("own" : Str), ("other" : Str), ("away" : Str)] (defScope s_measured) := ⟨rfl, rfl, rfl, by decide +kernel, rfl, by decide +kernel, by decide +kernel⟩
def m_measured (a_book : D) (a_measure : D) (a_own : D) (a_other : D) (a_away : D) : T D := ((T.b2 eqD (T.ret a_measure) (T.ret (.str ("points" : Str)))).bind fun k => if k then (T.b2 ixD (T.b2 ixD (T.ret a_book) (T.ret (.int 1))) ((T.b2 gtD (T.ret a_own) (T.ret a_other)).bind fun k => if k then (T.ret (.int 0)) else ((T.b2 eqD (T.ret a_own) (T.ret a_other)).bind fun k => if k then (T.ret (.int 1)) else (T.ret (.int 2))))) else ((T.b2 inD (T.ret a_measure) ((T.ret (.str ("wins" : Str))).bind fun a => (T.ret (.str ("awaywins" : Str))).bind fun b => T.ret (.tuple [a, b]))).bind fun k => if k then ((bo (andT (T.b2 gtD (T.ret a_own) (T.ret a_other)) (orT ((T.ret a_away).bind boolD) (T.b2 eqD (T.ret a_measure) (T.ret (.str ("wins" : Str))))))).bind intD) else ((T.b2 eqD (T.ret a_measure) (T.ret (.str ("difference" : Str)))).bind fun k => if k then (T.b2 subD (T.ret a_own) (T.ret a_other)) else ((T.b2 eqD (T.ret a_measure) (T.ret (.str ("taken" : Str)))).bind fun k => if k then (T.ret a_other) else ((orT ((T.ret a_away).bind truth) (T.b2 eqD (T.ret a_measure) (T.ret (.str ("goals" : Str))))).bind fun k => if k then (T.ret a_own) else (T.ret (.int 0)))))))
theorem d_measured (G : Gs K mg) : ∀ A q ds, Room 0 A → ds.length = 5 → DS (bodyX P w K mg A N_measured s_measured) q (argSl N_measured ds) (defBody s_measured) (ar5 m_measured ds) En.rt := fun A q ds hr hl => match ds, hl with
  | [a_book, a_measure, a_own, a_other, a_away], _ => by
    have nd : (N_measured).Nodup := by decide +kernel
    exact (ds_at (ρ' := [.va a_book, .va a_measure, .va a_own, .va a_other, .va a_away]) rfl (ds_ifr (dt_cmp (do_eq (r64 hr)) (dx_va 1 rfl rfl (by first | exact .inl rfl | exact .inr (.inl rfl) | exact .inr (.inr rfl))) dx_str (by first | exact nomark _ | rfl | with_unfolding_all rfl)) (ds_at (ρ' := [.va a_book, .va a_measure, .va a_own, .va a_other, .va a_away]) rfl (ds_ret (dx_ix (dx_ix (dx_va 0 rfl rfl (by first | exact .inl rfl | exact .inr (.inl rfl) | exact .inr (.inr rfl))) dx_int) (dx_ifExp (dt_cmp do_gt (dx_va 2 rfl rfl (by first | exact .inl rfl | exact .inr (.inl rfl) | exact .inr (.inr rfl))) (dx_va 3 rfl rfl (by first | exact .inl rfl | exact .inr (.inl rfl) | exact .inr (.inr rfl))) (by first | exact nomark _ | rfl | with_unfolding_all rfl)) dx_int (dx_ifExp (dt_cmp (do_eq (r64 hr)) (dx_va 2 rfl rfl (by first | exact .inl rfl | exact .inr (.inl rfl) | exact .inr (.inr rfl))) (dx_va 3 rfl rfl (by first | exact .inl rfl | exact .inr (.inl rfl) | exact .inr (.inr rfl))) (by first | exact nomark _ | rfl | with_unfolding_all rfl)) dx_int dx_int))))) (ds_at (ρ' := [.va a_book, .va a_measure, .va a_own, .va a_other, .va a_away]) rfl (ds_ifr (dt_cmp (do_in (r65 hr)) (dx_va 1 rfl rfl (by first | exact .inl rfl | exact .inr (.inl rfl) | exact .inr (.inr rfl))) (dx_tup2 dx_str dx_str) (by first | exact nomark _ | rfl | with_unfolding_all rfl)) (ds_at (ρ' := [.va a_book, .va a_measure, .va a_own, .va a_other, .va a_away]) rfl (ds_ret (dx_ty1 dc_int (by rfl) G.b_int boot_int (dx_and (dx_cmpB do_gt (dx_va 2 rfl rfl (by first | exact .inl rfl | exact .inr (.inl rfl) | exact .inr (.inr rfl))) (dx_va 3 rfl rfl (by first | exact .inl rfl | exact .inr (.inl rfl) | exact .inr (.inr rfl))) (by first | exact nomark _ | rfl | with_unfolding_all rfl)) (dx_and1 (dx_or (dx_boolD (dx_va 4 rfl rfl (by first | exact .inl rfl | exact .inr (.inl rfl) | exact .inr (.inr rfl)))) (dx_or1 (dx_cmpB (do_eq (r64 hr)) (dx_va 1 rfl rfl (by first | exact .inl rfl | exact .inr (.inl rfl) | exact .inr (.inr rfl))) dx_str (by first | exact nomark _ | rfl | with_unfolding_all rfl))))))))) (ds_at (ρ' := [.va a_book, .va a_measure, .va a_own, .va a_other, .va a_away]) rfl (ds_ifr (dt_cmp (do_eq (r64 hr)) (dx_va 1 rfl rfl (by first | exact .inl rfl | exact .inr (.inl rfl) | exact .inr (.inr rfl))) dx_str (by first | exact nomark _ | rfl | with_unfolding_all rfl)) (ds_at (ρ' := [.va a_book, .va a_measure, .va a_own, .va a_other, .va a_away]) rfl (ds_ret (dx_op do_sub (dx_va 2 rfl rfl (by first | exact .inl rfl | exact .inr (.inl rfl) | exact .inr (.inr rfl))) (dx_va 3 rfl rfl (by first | exact .inl rfl | exact .inr (.inl rfl) | exact .inr (.inr rfl)))))) (ds_at (ρ' := [.va a_book, .va a_measure, .va a_own, .va a_other, .va a_away]) rfl (ds_ifr (dt_cmp (do_eq (r64 hr)) (dx_va 1 rfl rfl (by first | exact .inl rfl | exact .inr (.inl rfl) | exact .inr (.inr rfl))) dx_str (by first | exact nomark _ | rfl | with_unfolding_all rfl)) (ds_at (ρ' := [.va a_book, .va a_measure, .va a_own, .va a_other, .va a_away]) rfl (ds_ret (dx_va 3 rfl rfl (by first | exact .inl rfl | exact .inr (.inl rfl) | exact .inr (.inr rfl))))) (ds_at (ρ' := [.va a_book, .va a_measure, .va a_own, .va a_other, .va a_away]) rfl (ds_ret (dx_ifExp (dt_of_dw (dw_or (dt_truth (dx_va 4 rfl rfl (by first | exact .inl rfl | exact .inr (.inl rfl) | exact .inr (.inr rfl)))) (dw_or1 (dt_cmp (do_eq (r64 hr)) (dx_va 1 rfl rfl (by first | exact .inl rfl | exact .inr (.inl rfl) | exact .inr (.inr rfl))) dx_str (by first | exact nomark _ | rfl | with_unfolding_all rfl))))) (dx_va 2 rfl rfl (by first | exact .inl rfl | exact .inr (.inl rfl) | exact .inr (.inr rfl))) dx_int)))))))))))
/-! ### value_of -/
abbrev s_value_of : Stmt := top 6
def N_value_of : List Str := [("book" : Str), ("table" : Str), ("lot" : Str), ("key" : Str), ("side" : Str), ("measure" : Str), ("scope" : Str), ("total" : Str), ("own" : Str), ("other" : Str), ("away" : Str), ("match" : Str), ("result" : Str)]
theorem sc_value_of : FnScope N_value_of [("book" : Str), ("table" : Str), ("lot" : Str), ("key" : Str), ("side" : Str)] (defScope s_value_of) := ⟨rfl, rfl, rfl, by decide +kernel, rfl, by decide +kernel, by decide +kernel⟩
def m_value_of (a_book : D) (a_table : D) (a_lot : D) (a_key : D) (a_side : D) : T D := ((T.ret a_key).bind fun d => (T.opt ((pairO some some) d)).bind fun p2 => ((T.ret (.int 0)).bind fun total5 => ((T.b2 zsTD (T.b2 ixD (T.b2 ixD (T.ret a_table) (T.ret (.int 1))) (T.ret (.int 2))) (T.b2 ixD (T.ret a_table) (T.ret (.int 2)))).bind fun ds => (T.foldM (fun d (s6 : D) => (T.opt ((pairO some some) d)).bind fun p8 => ((andT (T.b2 nisD (T.ret p8.2) (T.ret .none)) (T.b2 inD (T.ret a_side) ((T.ret p8.1).bind fun x => (T.ret none : T (Option Int)).bind fun l => ((T.ret (.int 2)).bind partD).bind fun u => slD x l u))).bind fun k => if k then ((orT (T.b2 eqD (T.ret p2.2) (T.ret (.str ("all" : Str)))) (andT (T.b2 inD (T.b2 ixD (T.ret p8.1) (T.ret (.int 0))) (T.ret a_lot)) (T.b2 inD (T.b2 ixD (T.ret p8.1) (T.ret (.int 1))) (T.ret a_lot)))).bind fun k => if k then (((T.ret p8.1).bind fun a => (T.ret p8.2).bind fun b => (T.ret a_side).bind fun c => m_seen_from a b c).bind fun d => (T.opt ((tripO some some some) d)).bind fun p11 => ((T.b2 addD (T.ret s6) ((T.ret a_book).bind fun a => (T.ret p2.1).bind fun b => (T.ret p11.1).bind fun c => (T.ret p11.2.1).bind fun d => (T.ret p11.2.2).bind fun e => m_measured a b c d e)).bind fun total18 => (T.ret total18))) else (T.ret s6)) else (T.ret s6))) ds total5).bind fun s6 => (T.ret s6))))
theorem d_value_of (G : Gs K mg) (Fmeasured : Fd P w K mg 1 ("measured" : Str) (spI K 5 (ar5 m_measured))) (Fseen_from : Fd P w K mg 1 ("seen_from" : Str) (spI K 3 (ar3 m_seen_from))) : ∀ A q ds, Room 1 A → ds.length = 5 → DS (bodyX P w K mg A N_value_of s_value_of) q (argSl N_value_of ds) (defBody s_value_of) (ar5 m_value_of ds) En.rt := fun A q ds hr hl => match ds, hl with
  | [a_book, a_table, a_lot, a_key, a_side], _ => by
    have nd : (N_value_of).Nodup := by decide +kernel
    exact (ds_at (ρ' := [.va a_book, .va a_table, .va a_lot, .va a_key, .va a_side, .un, .un, .un, .un, .un, .un, .un, .un]) rfl (ds_asgT (dx_va 3 rfl rfl (by first | exact .inl rfl | exact .inr (.inl rfl) | exact .inr (.inr rfl))) (dg_2 (dg_nm 5 nd rfl (by first | exact .inl rfl | exact .inr rfl)) fun _ => (dg_nm 6 nd rfl (by first | exact .inl rfl | exact .inr rfl))) fun p2 => (ds_at (ρ' := [.va a_book, .va a_table, .va a_lot, .va a_key, .va a_side, .va p2.1, .va p2.2, .un, .un, .un, .un, .un, .un]) rfl (ds_asg (i := 7) (dxa nd rfl (by first | exact .inl rfl | exact .inr rfl) dx_int) fun total5 => (ds_at (ρ' := [.va a_book, .va a_table, .va a_lot, .va a_key, .va a_side, .va p2.1, .va p2.2, .va total5, .un, .un, .un, .un, .un]) rfl (ds_forN (S := D) (η := fun s6 => [.va a_book, .va a_table, .va a_lot, .va a_key, .va a_side, .va p2.1, .va p2.2, .va s6, .un, .un, .un, .un, .un]) (s0 := total5) (di_zsT (by rfl) G.b_zip (dx_ix (dx_ix (dx_va 1 rfl rfl (by first | exact .inl rfl | exact .inr (.inl rfl) | exact .inr (.inr rfl))) dx_int) dx_int) (dx_ix (dx_va 1 rfl rfl (by first | exact .inl rfl | exact .inr (.inl rfl) | exact .inr (.inr rfl))) dx_int)) (And.intro rfl (And.intro rfl (And.intro rfl (And.intro rfl (And.intro rfl (And.intro rfl (And.intro rfl (And.intro rfl (And.intro trivial (And.intro trivial (And.intro trivial (And.intro trivial (And.intro trivial trivial))))))))))))) (fun s6 => (dg_2 (dg_nm 11 nd rfl (by first | exact .inl rfl | exact .inr rfl)) fun _ => (dg_nm 12 nd rfl (by first | exact .inl rfl | exact .inr rfl)))) (fun s6 p8 => (ds_at (ρ' := [.va a_book, .va a_table, .va a_lot, .va a_key, .va a_side, .va p2.1, .va p2.2, .va s6, .un, .un, .un, .va p8.1, .va p8.2]) rfl (ds_ite (dt_of_dw (dw_and (dt_cmp do_nis (dx_va 12 rfl rfl (by first | exact .inl rfl | exact .inr (.inl rfl) | exact .inr (.inr rfl))) dx_non (by first | exact nomark _ | rfl | with_unfolding_all rfl)) (dw_and1 (dt_cmp (do_in (r65 hr)) (dx_va 4 rfl rfl (by first | exact .inl rfl | exact .inr (.inl rfl) | exact .inr (.inr rfl))) (dx_sl (dx_va 11 rfl rfl (by first | exact .inl rfl | exact .inr (.inl rfl) | exact .inr (.inr rfl))) dp_none (dp_some dx_int)) (by first | exact nomark _ | rfl | with_unfolding_all rfl))))) (ds_at (ρ' := [.va a_book, .va a_table, .va a_lot, .va a_key, .va a_side, .va p2.1, .va p2.2, .va s6, .un, .un, .un, .va p8.1, .va p8.2]) rfl (ds_ite (dt_of_dw (dw_or (dt_cmp (do_eq (r64 hr)) (dx_va 6 rfl rfl (by first | exact .inl rfl | exact .inr (.inl rfl) | exact .inr (.inr rfl))) dx_str (by first | exact nomark _ | rfl | with_unfolding_all rfl)) (dw_or1 (dt_of_dw (dw_and (dt_cmp (do_in (r65 hr)) (dx_ix (dx_va 11 rfl rfl (by first | exact .inl rfl | exact .inr (.inl rfl) | exact .inr (.inr rfl))) dx_int) (dx_va 2 rfl rfl (by first | exact .inl rfl | exact .inr (.inl rfl) | exact .inr (.inr rfl))) (by first | exact nomark _ | rfl | with_unfolding_all rfl)) (dw_and1 (dt_cmp (do_in (r65 hr)) (dx_ix (dx_va 11 rfl rfl (by first | exact .inl rfl | exact .inr (.inl rfl) | exact .inr (.inr rfl))) dx_int) (dx_va 2 rfl rfl (by first | exact .inl rfl | exact .inr (.inl rfl) | exact .inr (.inr rfl))) (by first | exact nomark _ | rfl | with_unfolding_all rfl)))))))) (ds_at (ρ' := [.va a_book, .va a_table, .va a_lot, .va a_key, .va a_side, .va p2.1, .va p2.2, .va s6, .un, .un, .un, .va p8.1, .va p8.2]) rfl (ds_asgT (dx_call3 Fseen_from (hr.mono (by decide)) (by rfl) (dx_va 11 rfl rfl (by first | exact .inl rfl | exact .inr (.inl rfl) | exact .inr (.inr rfl))) (dx_va 12 rfl rfl (by first | exact .inl rfl | exact .inr (.inl rfl) | exact .inr (.inr rfl))) (dx_va 4 rfl rfl (by first | exact .inl rfl | exact .inr (.inl rfl) | exact .inr (.inr rfl)))) (dg_3 (dg_nm 8 nd rfl (by first | exact .inl rfl | exact .inr rfl)) (fun _ => (dg_nm 9 nd rfl (by first | exact .inl rfl | exact .inr rfl))) fun _ _ => (dg_nm 10 nd rfl (by first | exact .inl rfl | exact .inr rfl))) fun p11 => (ds_at (ρ' := [.va a_book, .va a_table, .va a_lot, .va a_key, .va a_side, .va p2.1, .va p2.2, .va s6, .va p11.1, .va p11.2.1, .va p11.2.2, .va p8.1, .va p8.2]) rfl (ds_asg (i := 7) (dxa nd rfl (by first | exact .inl rfl | exact .inr rfl) (dx_op do_add (dx_va 7 rfl rfl (by first | exact .inl rfl | exact .inr (.inl rfl) | exact .inr (.inr rfl))) (dx_call5 Fmeasured (hr.mono (by decide)) (by rfl) (dx_va 0 rfl rfl (by first | exact .inl rfl | exact .inr (.inl rfl) | exact .inr (.inr rfl))) (dx_va 5 rfl rfl (by first | exact .inl rfl | exact .inr (.inl rfl) | exact .inr (.inr rfl))) (dx_va 8 rfl rfl (by first | exact .inl rfl | exact .inr (.inl rfl) | exact .inr (.inr rfl))) (dx_va 9 rfl rfl (by first | exact .inl rfl | exact .inr (.inl rfl) | exact .inr (.inr rfl))) (dx_va 10 rfl rfl (by first | exact .inl rfl | exact .inr (.inl rfl) | exact .inr (.inr rfl)))))) fun total18 => (ds_at (ρ' := [.va a_book, .va a_table, .va a_lot, .va a_key, .va a_side, .va p2.1, .va p2.2, .va total18, .va p11.1, .va p11.2.1, .va p11.2.2, .va p8.1, .va p8.2]) rfl (ds_nil rfl (And.intro rfl (And.intro rfl (And.intro rfl (And.intro rfl (And.intro rfl (And.intro rfl (And.intro rfl (And.intro rfl (And.intro trivial (And.intro trivial (And.intro trivial (And.intro trivial (And.intro trivial trivial))))))))))))))))))) (ds_at (ρ' := [.va a_book, .va a_table, .va a_lot, .va a_key, .va a_side, .va p2.1, .va p2.2, .va s6, .un, .un, .un, .va p8.1, .va p8.2]) rfl (ds_nil rfl (And.intro rfl (And.intro rfl (And.intro rfl (And.intro rfl (And.intro rfl (And.intro rfl (And.intro rfl (And.intro rfl (And.intro trivial (And.intro trivial (And.intro trivial (And.intro trivial (And.intro trivial trivial))))))))))))))))) (ds_at (ρ' := [.va a_book, .va a_table, .va a_lot, .va a_key, .va a_side, .va p2.1, .va p2.2, .va s6, .un, .un, .un, .va p8.1, .va p8.2]) rfl (ds_nil rfl (And.intro rfl (And.intro rfl (And.intro rfl (And.intro rfl (And.intro rfl (And.intro rfl (And.intro rfl (And.intro rfl (And.intro trivial (And.intro trivial (And.intro trivial (And.intro trivial (And.intro trivial trivial)))))))))))))))))) (fun s6 => (ds_at (ρ' := [.va a_book, .va a_table, .va a_lot, .va a_key, .va a_side, .va p2.1, .va p2.2, .va s6, .un, .un, .un, .un, .un]) rfl (ds_ret (dx_va 7 rfl rfl (by first | exact .inl rfl | exact .inr (.inl rfl) | exact .inr (.inr rfl))))))))))))
/-! ### struck_from -/
abbrev s_struck_from : Stmt := top 7
def N_struck_from : List Str := [("struck" : Str), ("key" : Str), ("side" : Str), ("name" : Str), ("number" : Str)]
theorem sc_struck_from : FnScope N_struck_from [("struck" : Str), ("key" : Str), ("side" : Str)] (defScope s_struck_from) := ⟨rfl, rfl, rfl, by decide +kernel, rfl, by decide +kernel, by decide +kernel⟩
def m_struck_from (a_struck : D) (a_key : D) (a_side : D) : T D := ((T.b2 neD (T.ret a_key) ((T.ret (.str ("points" : Str))).bind fun a => (T.ret (.str ("all" : Str))).bind fun b => T.ret (.tuple [a, b]))).bind fun k => if k then (T.ret (.int 0)) else (((lcT ((T.ret a_struck).bind itemsT) (pairO some some) (fun p2 => (T.b2 eqD (T.ret p2.1) (T.ret a_side))) fun p2 => (T.ret p2.2)).bind fun ds => T.ret (.list ds)).bind sumD))
theorem d_struck_from (G : Gs K mg) : ∀ A q ds, Room 0 A → ds.length = 3 → DS (bodyX P w K mg A N_struck_from s_struck_from) q (argSl N_struck_from ds) (defBody s_struck_from) (ar3 m_struck_from ds) En.rt := fun A q ds hr hl => match ds, hl with
  | [a_struck, a_key, a_side], _ => by
    have nd : (N_struck_from).Nodup := by decide +kernel
    exact (ds_at (ρ' := [.va a_struck, .va a_key, .va a_side, .un, .un]) rfl (ds_ifr (dt_cmp (do_ne (r64 hr)) (dx_va 1 rfl rfl (by first | exact .inl rfl | exact .inr (.inl rfl) | exact .inr (.inr rfl))) (dx_tup2 dx_str dx_str) (by first | exact nomark _ | rfl | with_unfolding_all rfl)) (ds_at (ρ' := [.va a_struck, .va a_key, .va a_side, .un, .un]) rfl (ds_ret dx_int)) (ds_at (ρ' := [.va a_struck, .va a_key, .va a_side, .un, .un]) rfl (ds_ret (dx_b1 dc_sum (by rfl) G.b_sum boot_sum (dx_of_df (df_lc (own := [(("name" : Str), 3), (("number" : Str), 4)]) nd (di_tup (dx_va 0 rfl rfl (by first | exact .inl rfl | exact .inr (.inl rfl) | exact .inr (.inr rfl)))) (by dsimp only [bodyX, bodyXE, Ctx.blk]; decide +kernel) (dg_2 (dg_nm 3 nd rfl (by first | exact .inl rfl | exact .inr rfl)) fun _ => (dg_nm 4 nd rfl (by first | exact .inl rfl | exact .inr rfl))) (by decide) (fun p2 => (dts_one (dt_cmp (do_eq (r64 hr)) (dx_va 3 rfl rfl (by first | exact .inl rfl | exact .inr (.inl rfl) | exact .inr (.inr rfl))) (dx_va 2 rfl rfl (by first | exact .inl rfl | exact .inr (.inl rfl) | exact .inr (.inr rfl))) (by first | exact nomark _ | rfl | with_unfolding_all rfl)))) fun p2 => (dx_va 4 rfl rfl (by first | exact .inl rfl | exact .inr (.inl rfl) | exact .inr (.inr rfl))))))))))
/-! ### values -/
abbrev s_values : Stmt := top 8
def N_values : List Str := [("book" : Str), ("table" : Str), ("lot" : Str), ("key" : Str), ("struck" : Str), ("side" : Str)]
theorem sc_values : FnScope N_values [("book" : Str), ("table" : Str), ("lot" : Str), ("key" : Str), ("struck" : Str)] (defScope s_values) := ⟨rfl, rfl, rfl, by decide +kernel, rfl, by decide +kernel, by decide +kernel⟩
def m_values (a_book : D) (a_table : D) (a_lot : D) (a_key : D) (a_struck : D) : T D := (dcT ((T.ret a_lot).bind itemsT) some (fun side1 => (T.ret true)) (fun side1 => (T.ret side1)) fun side1 => (T.b2 subD ((T.ret a_book).bind fun a => (T.ret a_table).bind fun b => (T.ret a_lot).bind fun c => (T.ret a_key).bind fun d => (T.ret side1).bind fun e => m_value_of a b c d e) ((T.ret a_struck).bind fun a => (T.ret a_key).bind fun b => (T.ret side1).bind fun c => m_struck_from a b c)))
theorem d_values (G : Gs K mg) (Fstruck_from : Fd P w K mg 1 ("struck_from" : Str) (spI K 3 (ar3 m_struck_from))) (Fvalue_of : Fd P w K mg 2 ("value_of" : Str) (spI K 5 (ar5 m_value_of))) : ∀ A q ds, Room 2 A → ds.length = 5 → DS (bodyX P w K mg A N_values s_values) q (argSl N_values ds) (defBody s_values) (ar5 m_values ds) En.rt := fun A q ds hr hl => match ds, hl with
  | [a_book, a_table, a_lot, a_key, a_struck], _ => by
    have nd : (N_values).Nodup := by decide +kernel
    exact (ds_at (ρ' := [.va a_book, .va a_table, .va a_lot, .va a_key, .va a_struck, .un]) rfl (ds_ret (dx_dc (own := [(("side" : Str), 5)]) nd (di_tup (dx_va 2 rfl rfl (by first | exact .inl rfl | exact .inr (.inl rfl) | exact .inr (.inr rfl)))) (by dsimp only [bodyX, bodyXE, Ctx.blk]; decide +kernel) (dg_nm 5 nd rfl (by first | exact .inl rfl | exact .inr rfl)) (by decide) (fun side1 => dts_nil) (fun side1 => (dx_va 5 rfl rfl (by first | exact .inl rfl | exact .inr (.inl rfl) | exact .inr (.inr rfl)))) fun side1 => (dx_op do_sub (dx_call5 Fvalue_of (hr.mono (by decide)) (by rfl) (dx_va 0 rfl rfl (by first | exact .inl rfl | exact .inr (.inl rfl) | exact .inr (.inr rfl))) (dx_va 1 rfl rfl (by first | exact .inl rfl | exact .inr (.inl rfl) | exact .inr (.inr rfl))) (dx_va 2 rfl rfl (by first | exact .inl rfl | exact .inr (.inl rfl) | exact .inr (.inr rfl))) (dx_va 3 rfl rfl (by first | exact .inl rfl | exact .inr (.inl rfl) | exact .inr (.inr rfl))) (dx_va 5 rfl rfl (by first | exact .inl rfl | exact .inr (.inl rfl) | exact .inr (.inr rfl)))) (dx_call3 Fstruck_from (hr.mono (by decide)) (by rfl) (dx_va 4 rfl rfl (by first | exact .inl rfl | exact .inr (.inl rfl) | exact .inr (.inr rfl))) (dx_va 3 rfl rfl (by first | exact .inl rfl | exact .inr (.inl rfl) | exact .inr (.inr rfl))) (dx_va 5 rfl rfl (by first | exact .inl rfl | exact .inr (.inl rfl) | exact .inr (.inr rfl))))))))
/-! ### groups -/
abbrev s_groups : Stmt := top 9
def N_groups : List Str := [("told" : Str), ("key" : Str), ("numbers" : Str), ("number" : Str), ("side" : Str)]
theorem sc_groups : FnScope N_groups [("told" : Str), ("key" : Str)] (defScope s_groups) := ⟨rfl, rfl, rfl, by decide +kernel, rfl, by decide +kernel, by decide +kernel⟩
def m_groups (a_told : D) (a_key : D) : T D := ((((((T.ret a_told).bind valsD).bind fun ds => T.ret (.list ds)).bind srtSetD).bind fun ds => T.ret (.list ds)).bind fun numbers1 => (((T.b2 eqD (T.b2 ixD (T.ret a_key) (T.ret (.int 0))) (T.ret (.str ("taken" : Str)))).bind fun k => if k then (T.ret numbers1) else (((T.ret numbers1).bind revLD).bind fun ds => T.ret (.list ds))).bind fun numbers2 => ((lcT ((T.ret numbers2).bind itemsL) some (fun number3 => (T.ret true)) fun number3 => (((((lcT ((T.ret a_told).bind itemsK) some (fun side4 => (T.b2 eqD (T.b2 dgetD (T.ret a_told) (T.ret side4)) (T.ret number3))) fun side4 => (T.ret side4)).bind fun ds => T.ret (.list ds)).bind sortedD).bind fun ds => T.ret (.list ds)).bind tupleD)).bind fun ds => T.ret (.list ds))))
theorem d_groups (G : Gs K mg) : ∀ A q ds, Room 0 A → ds.length = 2 → DS (bodyX P w K mg A N_groups s_groups) q (argSl N_groups ds) (defBody s_groups) (ar2 m_groups ds) En.rt := fun A q ds hr hl => match ds, hl with
  | [a_told, a_key], _ => by
    have nd : (N_groups).Nodup := by decide +kernel
    exact (ds_at (ρ' := [.va a_told, .va a_key, .un, .un, .un]) rfl (ds_asg (i := 2) (dxa nd rfl (by first | exact .inl rfl | exact .inr rfl) (dx_of_df (df_srtSet (r64 hr) (by rfl) G.b_sorted (by rfl) G.b_set (dx_of_df (df_vals (by rfl) G.b_list (dx_va 0 rfl rfl (by first | exact .inl rfl | exact .inr (.inl rfl) | exact .inr (.inr rfl)))))))) fun numbers1 => (ds_at (ρ' := [.va a_told, .va a_key, .va numbers1, .un, .un]) rfl (ds_asg (i := 2) (dxa nd rfl (by first | exact .inl rfl | exact .inr rfl) (dx_ifExp (dt_cmp (do_eq (r64 hr)) (dx_ix (dx_va 1 rfl rfl (by first | exact .inl rfl | exact .inr (.inl rfl) | exact .inr (.inr rfl))) dx_int) dx_str (by first | exact nomark _ | rfl | with_unfolding_all rfl)) (dx_va 2 rfl rfl (by first | exact .inl rfl | exact .inr (.inl rfl) | exact .inr (.inr rfl))) (dx_of_df (df_revL (dx_va 2 rfl rfl (by first | exact .inl rfl | exact .inr (.inl rfl) | exact .inr (.inr rfl))))))) fun numbers2 => (ds_at (ρ' := [.va a_told, .va a_key, .va numbers2, .un, .un]) rfl (ds_ret (dx_of_df (df_lc (own := [(("number" : Str), 3)]) nd (di_list (dx_va 2 rfl rfl (by first | exact .inl rfl | exact .inr (.inl rfl) | exact .inr (.inr rfl)))) (by dsimp only [bodyX, bodyXE, Ctx.blk]; decide +kernel) (dg_nm 3 nd rfl (by first | exact .inl rfl | exact .inr rfl)) (by decide) (fun number3 => dts_nil) fun number3 => (dx_ty1 dc_tuple (by rfl) G.b_tuple boot_tuple (dx_of_df (df_sorted (r64 hr) (by rfl) G.b_sorted (dx_of_df (df_lc (own := [(("side" : Str), 4)]) nd (di_keys (dx_va 0 rfl rfl (by first | exact .inl rfl | exact .inr (.inl rfl) | exact .inr (.inr rfl)))) (by dsimp only [bodyX, bodyXE, Ctx.blk]; decide +kernel) (dg_nm 4 nd rfl (by first | exact .inl rfl | exact .inr rfl)) (by decide) (fun side4 => (dts_one (dt_cmp (do_eq (r64 hr)) (dx_dget (r1 hr) (dx_va 0 rfl rfl (by first | exact .inl rfl | exact .inr (.inl rfl) | exact .inr (.inr rfl))) (dx_va 4 rfl rfl (by first | exact .inl rfl | exact .inr (.inl rfl) | exact .inr (.inr rfl)))) (dx_va 3 rfl rfl (by first | exact .inl rfl | exact .inr (.inl rfl) | exact .inr (.inr rfl))) (by first | exact nomark _ | rfl | with_unfolding_all rfl)))) fun side4 => (dx_va 4 rfl rfl (by first | exact .inl rfl | exact .inr (.inl rfl) | exact .inr (.inr rfl))))))))))))))))
/-! ### parted -/
abbrev s_parted : Stmt := top 10
def N_parted : List Str := [("book" : Str), ("table" : Str), ("lot" : Str), ("first" : Str), ("struck" : Str), ("told" : Str), ("found" : Str), ("number" : Str)]
theorem sc_parted : FnScope N_parted [("book" : Str), ("table" : Str), ("lot" : Str), ("first" : Str), ("struck" : Str)] (defScope s_parted) := ⟨rfl, rfl, rfl, by decide +kernel, rfl, by decide +kernel, by decide +kernel⟩
def m_parted (a_book : D) (a_table : D) (a_lot : D) (a_first : D) (a_struck : D) : T D := ((T.b2 range2 (T.ret a_first) ((T.b2 ixD (T.ret a_book) (T.ret (.int 2))).bind lenD)).bind fun ds => (T.loopM (S := Unit) (fun d s1 => (T.opt (some d)).bind fun number2 => (((T.ret a_book).bind fun a => (T.ret a_table).bind fun b => (T.ret a_lot).bind fun c => (T.b2 ixD (T.b2 ixD (T.ret a_book) (T.ret (.int 2))) (T.ret number2)).bind fun d => (T.ret a_struck).bind fun e => m_values a b c d e).bind fun told3 => (((T.ret told3).bind fun a => (T.b2 ixD (T.b2 ixD (T.ret a_book) (T.ret (.int 2))) (T.ret number2)).bind fun b => m_groups a b).bind fun found4 => ((T.b2 gtD ((T.ret found4).bind lenD) (T.ret (.int 1))).bind fun k => if k then ((((T.ret number2).bind fun a => (T.ret found4).bind fun b => (T.ret told3).bind fun c => T.ret (.tuple [a, b, c])).bind fun d => T.ret (.rt d)) : T (Xx (Unit))).bind fun r => T.ret r.o else (T.ret (.nx ())))))) ds ()).bind (endO (fun s1 => (T.ret .none)) (fun d => d)))
theorem d_parted (G : Gs K mg) (Fgroups : Fd P w K mg 1 ("groups" : Str) (spI K 2 (ar2 m_groups))) (Fvalues : Fd P w K mg 3 ("values" : Str) (spI K 5 (ar5 m_values))) : ∀ A q ds, Room 3 A → ds.length = 5 → DS (bodyX P w K mg A N_parted s_parted) q (argSl N_parted ds) (defBody s_parted) (ar5 m_parted ds) En.rt := fun A q ds hr hl => match ds, hl with
  | [a_book, a_table, a_lot, a_first, a_struck], _ => by
    have nd : (N_parted).Nodup := by decide +kernel
    exact (ds_at (ρ' := [.va a_book, .va a_table, .va a_lot, .va a_first, .va a_struck, .un, .un, .un]) rfl (ds_forO (S := Unit) (η := fun s1 => [.va a_book, .va a_table, .va a_lot, .va a_first, .va a_struck, .un, .un, .un]) (s0 := ()) (inj := (fun d => d)) (di_range2 (by rfl) G.b_range (dx_va 3 rfl rfl (by first | exact .inl rfl | exact .inr (.inl rfl) | exact .inr (.inr rfl))) (dx_b1 dc_len (by rfl) G.b_len PySem.boot_len (dx_ix (dx_va 0 rfl rfl (by first | exact .inl rfl | exact .inr (.inl rfl) | exact .inr (.inr rfl))) dx_int))) (And.intro rfl (And.intro rfl (And.intro rfl (And.intro rfl (And.intro rfl (And.intro trivial (And.intro trivial (And.intro trivial trivial)))))))) (fun s1 => (dg_nm 7 nd rfl (by first | exact .inl rfl | exact .inr rfl))) (fun s1 number2 => (ds_at (ρ' := [.va a_book, .va a_table, .va a_lot, .va a_first, .va a_struck, .un, .un, .va number2]) rfl (ds_asg (i := 5) (dxa nd rfl (by first | exact .inl rfl | exact .inr rfl) (dx_call5 Fvalues (hr.mono (by decide)) (by rfl) (dx_va 0 rfl rfl (by first | exact .inl rfl | exact .inr (.inl rfl) | exact .inr (.inr rfl))) (dx_va 1 rfl rfl (by first | exact .inl rfl | exact .inr (.inl rfl) | exact .inr (.inr rfl))) (dx_va 2 rfl rfl (by first | exact .inl rfl | exact .inr (.inl rfl) | exact .inr (.inr rfl))) (dx_ix (dx_ix (dx_va 0 rfl rfl (by first | exact .inl rfl | exact .inr (.inl rfl) | exact .inr (.inr rfl))) dx_int) (dx_va 7 rfl rfl (by first | exact .inl rfl | exact .inr (.inl rfl) | exact .inr (.inr rfl)))) (dx_va 4 rfl rfl (by first | exact .inl rfl | exact .inr (.inl rfl) | exact .inr (.inr rfl))))) fun told3 => (ds_at (ρ' := [.va a_book, .va a_table, .va a_lot, .va a_first, .va a_struck, .va told3, .un, .va number2]) rfl (ds_asg (i := 6) (dxa nd rfl (by first | exact .inl rfl | exact .inr rfl) (dx_call2 Fgroups (hr.mono (by decide)) (by rfl) (dx_va 5 rfl rfl (by first | exact .inl rfl | exact .inr (.inl rfl) | exact .inr (.inr rfl))) (dx_ix (dx_ix (dx_va 0 rfl rfl (by first | exact .inl rfl | exact .inr (.inl rfl) | exact .inr (.inr rfl))) dx_int) (dx_va 7 rfl rfl (by first | exact .inl rfl | exact .inr (.inl rfl) | exact .inr (.inr rfl)))))) fun found4 => (ds_at (ρ' := [.va a_book, .va a_table, .va a_lot, .va a_first, .va a_struck, .va told3, .va found4, .va number2]) rfl (ds_ifx (RA := Xx (Unit)) (εA := enX (fun (s1 : Unit) => [.va a_book, .va a_table, .va a_lot, .va a_first, .va a_struck, .un, .un, .un])) (conv := Xx.o) (dt_cmp do_gt (dx_b1 dc_len (by rfl) G.b_len PySem.boot_len (dx_va 6 rfl rfl (by first | exact .inl rfl | exact .inr (.inl rfl) | exact .inr (.inr rfl)))) dx_int (by first | exact nomark _ | rfl | with_unfolding_all rfl)) (ds_at (ρ' := [.va a_book, .va a_table, .va a_lot, .va a_first, .va a_struck, .va told3, .va found4, .va number2]) rfl (ds_retI (inj := Xx.rt) (fun _ => rfl) (dx_tup3 (dx_va 7 rfl rfl (by first | exact .inl rfl | exact .inr (.inl rfl) | exact .inr (.inr rfl))) (dx_va 6 rfl rfl (by first | exact .inl rfl | exact .inr (.inl rfl) | exact .inr (.inr rfl))) (dx_va 5 rfl rfl (by first | exact .inl rfl | exact .inr (.inl rfl) | exact .inr (.inr rfl)))))) enX_no enX_o (ds_at (ρ' := [.va a_book, .va a_table, .va a_lot, .va a_first, .va a_struck, .va told3, .va found4, .va number2]) rfl (ds_nil rfl (And.intro rfl (And.intro rfl (And.intro rfl (And.intro rfl (And.intro rfl (And.intro trivial (And.intro trivial (And.intro trivial trivial))))))))))))))))) (fun s1 => (ds_at (ρ' := [.va a_book, .va a_table, .va a_lot, .va a_first, .va a_struck, .un, .un, .un]) rfl (ds_ret dx_non))) (fun _ => rfl)))
/-! ### ranked -/
abbrev s_ranked : Stmt := top 11
def N_ranked : List Str := [("book" : Str), ("table" : Str), ("lot" : Str), ("first" : Str), ("struck" : Str), ("told" : Str), ("following" : Str), ("part" : Str), ("less" : Str)]
theorem sc_ranked : FnScope N_ranked [("book" : Str), ("table" : Str), ("lot" : Str), ("first" : Str), ("struck" : Str)] (defScope s_ranked) := ⟨rfl, rfl, rfl, by decide +kernel, rfl, by decide +kernel, by decide +kernel⟩
def b_ranked (self : D → D → D → D → D → T D) (a_book : D) (a_table : D) (a_lot : D) (a_first : D) (a_struck : D) : T D := (((T.b2 gtD ((T.ret a_lot).bind lenD) (T.ret (.int 1))).bind fun k => if k then ((T.ret a_book).bind fun a => (T.ret a_table).bind fun b => (T.ret a_lot).bind fun c => (T.ret a_first).bind fun d => (T.ret a_struck).bind fun e => m_parted a b c d e) else (T.ret .none)).bind fun told1 => ((T.b2 isB (T.ret told1) (T.ret .none)).bind fun k => if k then (((T.ret a_lot).bind fun a => T.ret [a]).bind fun ds => T.ret (.list ds)) else (((T.b2 eqD (T.b2 ixD (T.ret a_book) (T.ret (.int 3))) (T.ret (.str ("anew" : Str)))).bind fun k => if k then (T.ret (.int 0)) else (T.b2 addD (T.b2 ixD (T.ret told1) (T.ret (.int 0))) (T.ret (.int 1)))).bind fun following2 => ((lc2T ((T.b2 ixD (T.ret told1) (T.ret (.int 1))).bind itemsL) some (fun part3 => (T.ret true)) (fun part3 => (((T.ret a_book).bind fun a => (T.ret a_table).bind fun b => (T.ret part3).bind fun c => (T.ret following2).bind fun d => (T.ret a_struck).bind fun e => self a b c d e).bind itemsL)) (fun part3 => some) (fun part3 less4 => (T.ret true)) fun part3 less4 => (T.ret less4)).bind fun ds => T.ret (.list ds)))))
def m_ranked : Nat → D → D → D → D → D → T D
  | 0 => fun _ _ _ _ _ => .fail
  | n + 1 => b_ranked (m_ranked n)
theorem d_ranked (G : Gs K mg) (Fparted : Fd P w K mg 4 ("parted" : Str) (spI K 5 (ar5 m_parted))) {self : D → D → D → D → D → T D} {l : Nat} (hl : 4 ≤ l) (Franked : Fd P w K mg l ("ranked" : Str) (spI K 5 (ar5 self))) : ∀ A q ds, Room l A → ds.length = 5 → DS (bodyX P w K mg A N_ranked s_ranked) q (argSl N_ranked ds) (defBody s_ranked) (ar5 (b_ranked self) ds) En.rt := fun A q ds hr hq => match ds, hq with
  | [a_book, a_table, a_lot, a_first, a_struck], _ => by
    have nd : (N_ranked).Nodup := by decide +kernel
    exact (ds_at (ρ' := [.va a_book, .va a_table, .va a_lot, .va a_first, .va a_struck, .un, .un, .un, .un]) rfl (ds_asg (i := 5) (dxa nd rfl (by first | exact .inl rfl | exact .inr rfl) (dx_ifExp (dt_cmp do_gt (dx_b1 dc_len (by rfl) G.b_len PySem.boot_len (dx_va 2 rfl rfl (by first | exact .inl rfl | exact .inr (.inl rfl) | exact .inr (.inr rfl)))) dx_int (by first | exact nomark _ | rfl | with_unfolding_all rfl)) (dx_call5 Fparted (hr.mono (by omega)) (by rfl) (dx_va 0 rfl rfl (by first | exact .inl rfl | exact .inr (.inl rfl) | exact .inr (.inr rfl))) (dx_va 1 rfl rfl (by first | exact .inl rfl | exact .inr (.inl rfl) | exact .inr (.inr rfl))) (dx_va 2 rfl rfl (by first | exact .inl rfl | exact .inr (.inl rfl) | exact .inr (.inr rfl))) (dx_va 3 rfl rfl (by first | exact .inl rfl | exact .inr (.inl rfl) | exact .inr (.inr rfl))) (dx_va 4 rfl rfl (by first | exact .inl rfl | exact .inr (.inl rfl) | exact .inr (.inr rfl)))) dx_non)) fun told1 => (ds_at (ρ' := [.va a_book, .va a_table, .va a_lot, .va a_first, .va a_struck, .va told1, .un, .un, .un]) rfl (ds_ifr (dt_cmp do_isB (dx_va 5 rfl rfl (by first | exact .inl rfl | exact .inr (.inl rfl) | exact .inr (.inr rfl))) dx_non (by first | exact nomark _ | rfl | with_unfolding_all rfl)) (ds_at (ρ' := [.va a_book, .va a_table, .va a_lot, .va a_first, .va a_struck, .va told1, .un, .un, .un]) rfl (ds_ret (dx_of_df (df_lst1 (dx_va 2 rfl rfl (by first | exact .inl rfl | exact .inr (.inl rfl) | exact .inr (.inr rfl))))))) (ds_at (ρ' := [.va a_book, .va a_table, .va a_lot, .va a_first, .va a_struck, .va told1, .un, .un, .un]) rfl (ds_asg (i := 6) (dxa nd rfl (by first | exact .inl rfl | exact .inr rfl) (dx_ifExp (dt_cmp (do_eq (r64 hr)) (dx_ix (dx_va 0 rfl rfl (by first | exact .inl rfl | exact .inr (.inl rfl) | exact .inr (.inr rfl))) dx_int) dx_str (by first | exact nomark _ | rfl | with_unfolding_all rfl)) dx_int (dx_op do_add (dx_ix (dx_va 5 rfl rfl (by first | exact .inl rfl | exact .inr (.inl rfl) | exact .inr (.inr rfl))) dx_int) dx_int))) fun following2 => (ds_at (ρ' := [.va a_book, .va a_table, .va a_lot, .va a_first, .va a_struck, .va told1, .va following2, .un, .un]) rfl (ds_ret (dx_of_df (df_lc2 (own := [(("part" : Str), 7), (("less" : Str), 8)]) (vs1 := [8]) nd (di := (di_list (dx_ix (dx_va 5 rfl rfl (by first | exact .inl rfl | exact .inr (.inl rfl) | exact .inr (.inr rfl))) dx_int))) (bk := by dsimp only [bodyX, bodyXE, Ctx.blk]; decide +kernel) (hv := by decide) (dg := (dg_nm 7 nd rfl (by first | exact .inl rfl | exact .inr rfl))) (hix := by decide) (hc := fun part3 => dts_nil) (di1 := fun part3 => (di_list (dx_call5 Franked (hr.mono (by omega)) (by rfl) (dx_va 0 rfl rfl (by first | exact .inl rfl | exact .inr (.inl rfl) | exact .inr (.inr rfl))) (dx_va 1 rfl rfl (by first | exact .inl rfl | exact .inr (.inl rfl) | exact .inr (.inr rfl))) (dx_va 7 rfl rfl (by first | exact .inl rfl | exact .inr (.inl rfl) | exact .inr (.inr rfl))) (dx_va 6 rfl rfl (by first | exact .inl rfl | exact .inr (.inl rfl) | exact .inr (.inr rfl))) (dx_va 4 rfl rfl (by first | exact .inl rfl | exact .inr (.inl rfl) | exact .inr (.inr rfl)))))) (dg1 := fun part3 => (dg_nm 8 nd rfl (by first | exact .inl rfl | exact .inr rfl))) (hix1 := by decide) (hc1 := fun part3 less4 => dts_nil) (he := fun part3 less4 => (dx_va 8 rfl rfl (by first | exact .inl rfl | exact .inr (.inl rfl) | exact .inr (.inr rfl))))))))))))))
/-! ### rank -/
abbrev s_rank : Stmt := top 12
def N_rank : List Str := [("book" : Str), ("table" : Str), ("struck" : Str)]
theorem sc_rank : FnScope N_rank [("book" : Str), ("table" : Str), ("struck" : Str)] (defScope s_rank) := ⟨rfl, rfl, rfl, by decide +kernel, rfl, by decide +kernel, by decide +kernel⟩
def m_rank (a_book : D) (a_table : D) (a_struck : D) : T D := (((T.ret a_book).bind fun a => (T.ret a_table).bind fun b => (T.b2 ixD (T.b2 ixD (T.ret a_table) (T.ret (.int 1))) (T.ret (.int 1))).bind fun c => (T.ret (.int 0)).bind fun d => (T.ret a_struck).bind fun e => (m_ranked 8) a b c d e).bind tupleD)
theorem d_rank (G : Gs K mg) (Franked : Fd P w K mg 12 ("ranked" : Str) (spI K 5 (ar5 (m_ranked 8)))) : ∀ A q ds, Room 12 A → ds.length = 3 → DS (bodyX P w K mg A N_rank s_rank) q (argSl N_rank ds) (defBody s_rank) (ar3 m_rank ds) En.rt := fun A q ds hr hl => match ds, hl with
  | [a_book, a_table, a_struck], _ => by
    have nd : (N_rank).Nodup := by decide +kernel
    exact (ds_at (ρ' := [.va a_book, .va a_table, .va a_struck]) rfl (ds_ret (dx_ty1 dc_tuple (by rfl) G.b_tuple boot_tuple (dx_call5 Franked (hr.mono (by decide)) (by rfl) (dx_va 0 rfl rfl (by first | exact .inl rfl | exact .inr (.inl rfl) | exact .inr (.inr rfl))) (dx_va 1 rfl rfl (by first | exact .inl rfl | exact .inr (.inl rfl) | exact .inr (.inr rfl))) (dx_ix (dx_ix (dx_va 1 rfl rfl (by first | exact .inl rfl | exact .inr (.inl rfl) | exact .inr (.inr rfl))) dx_int) dx_int) dx_int (dx_va 2 rfl rfl (by first | exact .inl rfl | exact .inr (.inl rfl) | exact .inr (.inr rfl)))))))
/-! ### reason -/
abbrev s_reason : Stmt := top 13
def N_reason : List Str := [("book" : Str), ("table" : Str), ("one" : Str), ("other" : Str), ("struck" : Str), ("side" : Str), ("lot" : Str), ("first" : Str), ("told" : Str), ("number" : Str), ("found" : Str), ("numbers" : Str), ("part" : Str)]
theorem sc_reason : FnScope N_reason [("book" : Str), ("table" : Str), ("one" : Str), ("other" : Str), ("struck" : Str)] (defScope s_reason) := ⟨rfl, rfl, rfl, by decide +kernel, rfl, by decide +kernel, by decide +kernel⟩
def m_reason (a_book : D) (a_table : D) (a_one : D) (a_other : D) (a_struck : D) : T Rx := ((((T.ret a_one).bind fun a => (T.ret a_other).bind fun b => T.ret (.tuple [a, b])).bind itemsT).bind fun ds => (T.loopX (S := Unit) (R := Rx) (fun d s1 => (T.opt (some d)).bind fun side2 => ((T.b2 ninD (T.ret side2) (T.b2 ixD (T.b2 ixD (T.ret a_table) (T.ret (.int 1))) (T.ret (.int 1)))).bind fun k => if k then (((T.ret side2).bind fun d => T.ret (XX.out (Rx.x ("NoSide" : Str) d))) : T (XX (Unit) Rx)).bind fun r => T.ret r.o else (T.ret (.nx ())))) ds ()).bind (endX (fun s1 => ((T.b2 ixD (T.b2 ixD (T.ret a_table) (T.ret (.int 1))) (T.ret (.int 1))).bind fun lot3 => ((T.ret (.int 0)).bind fun first4 => ((T.whileX (S := D × D) (R := Rx) (fun s5 => ((T.ret (.bool true)).bind truth)) (fun s5 => (((T.ret a_book).bind fun a => (T.ret a_table).bind fun b => (T.ret s5.1).bind fun c => (T.ret s5.2).bind fun d => (T.ret a_struck).bind fun e => m_parted a b c d e).bind fun told6 => ((T.b2 isB (T.ret told6) (T.ret .none)).bind fun k => if k then ((((T.ret (.str ("level" : Str))).bind fun a => (T.ret s5.1).bind fun b => T.ret (.tuple [a, b])).bind fun d => T.ret (XX.out (Rx.v d))) : T (XX (D × D) Rx)).bind fun r => T.ret r.o else ((T.ret told6).bind fun d => (T.opt ((tripO some some some) d)).bind fun p7 => ((T.b2 neD (T.b2 dgetD (T.ret p7.2.2) (T.ret a_one)) (T.b2 dgetD (T.ret p7.2.2) (T.ret a_other))).bind fun k => if k then (((((T.ret (.str ("parted" : Str))).bind fun a => ((T.ret s5.1).bind fun a => ((T.ret p7.1).bind fun a => ((T.b2 dgetD (T.ret p7.2.2) (T.ret a_one)).bind fun a => ((T.b2 dgetD (T.ret p7.2.2) (T.ret a_other)).bind fun a => (T.ret []).bind fun as => T.ret (a :: as)).bind fun as => T.ret (a :: as)).bind fun as => T.ret (a :: as)).bind fun as => T.ret (a :: as)).bind fun as => T.ret (a :: as)).bind fun ds => T.chk ds.length (T.ret (.tuple ds))).bind fun d => T.ret (XX.out (Rx.v d))) : T (XX (D × D) Rx)).bind fun r => T.ret r.o else ((T.b2 ixD ((lcT ((T.ret p7.2.1).bind itemsL) some (fun part15 => (T.b2 inD (T.ret a_one) (T.ret part15))) fun part15 => (T.ret part15)).bind fun ds => T.ret (.list ds)) (T.ret (.int 0))).bind fun lot14 => (((T.b2 eqD (T.b2 ixD (T.ret a_book) (T.ret (.int 3))) (T.ret (.str ("anew" : Str)))).bind fun k => if k then (T.ret (.int 0)) else (T.b2 addD (T.ret p7.1) (T.ret (.int 1)))).bind fun first16 => (T.ret (.nx (lot14, first16)))))))))) 8 (lot3, first4)).bind (endX (fun s5 => (T.fail)) (fun r => r)))))) (fun r => r)))
theorem d_reason (G : Gs K mg) (GX : Gx P K mg xc) (Fparted : Fd P w K mg 4 ("parted" : Str) (spI K 5 (ar5 m_parted))) : ∀ A E q ds, Room 4 A → ds.length = 5 → DS (bodyXE P w K mg A N_reason s_reason E) q (argSl N_reason ds) (defBody s_reason) (xr5 m_reason ds) (enR xc) := fun A E q ds hr hl => match ds, hl with
  | [a_book, a_table, a_one, a_other, a_struck], _ => by
    have nd : (N_reason).Nodup := by decide +kernel
    exact (ds_at (ρ' := [.va a_book, .va a_table, .va a_one, .va a_other, .va a_struck, .un, .un, .un, .un, .un, .un, .un, .un]) rfl (ds_forX (S := Unit) (R := Rx) (ε0 := (enR xc)) (η := fun s1 => [.va a_book, .va a_table, .va a_one, .va a_other, .va a_struck, .un, .un, .un, .un, .un, .un, .un, .un]) (s0 := ()) (inj := (fun r => r)) enR_out (di_tup (dx_tup2 (dx_va 2 rfl rfl (by first | exact .inl rfl | exact .inr (.inl rfl) | exact .inr (.inr rfl))) (dx_va 3 rfl rfl (by first | exact .inl rfl | exact .inr (.inl rfl) | exact .inr (.inr rfl))))) (And.intro rfl (And.intro rfl (And.intro rfl (And.intro rfl (And.intro rfl (And.intro trivial (And.intro trivial (And.intro trivial (And.intro trivial (And.intro trivial (And.intro trivial (And.intro trivial (And.intro trivial trivial))))))))))))) (fun s1 => (dg_nm 5 nd rfl (by first | exact .inl rfl | exact .inr rfl))) (fun s1 side2 => (ds_at (ρ' := [.va a_book, .va a_table, .va a_one, .va a_other, .va a_struck, .va side2, .un, .un, .un, .un, .un, .un, .un]) rfl (ds_ifx (RA := XX (Unit) Rx) (εA := enXX (fun (s1 : Unit) => [.va a_book, .va a_table, .va a_one, .va a_other, .va a_struck, .un, .un, .un, .un, .un, .un, .un, .un]) (enR xc)) (conv := XX.o) (dt_cmp (do_nin (r65 hr)) (dx_va 5 rfl rfl (by first | exact .inl rfl | exact .inr (.inl rfl) | exact .inr (.inr rfl))) (dx_ix (dx_ix (dx_va 1 rfl rfl (by first | exact .inl rfl | exact .inr (.inl rfl) | exact .inr (.inr rfl))) dx_int) dx_int) (by first | exact nomark _ | rfl | with_unfolding_all rfl)) (ds_at (ρ' := [.va a_book, .va a_table, .va a_one, .va a_other, .va a_struck, .va side2, .un, .un, .un, .un, .un, .un, .un]) rfl (ds_raise (C := (xc ("NoSide" : Str)).1) (f := ("side" : Str)) (inj := fun d => XX.out (Rx.x ("NoSide" : Str) d)) (fun d => by show En.ex _ (xc ("NoSide" : Str)).2 _ = _; rw [GX.s_NoSide]) GX.x_NoSide hr (by rfl) (dx_va 5 rfl rfl (by first | exact .inl rfl | exact .inr (.inl rfl) | exact .inr (.inr rfl))))) (enXX_no enR_out) enXX_o (ds_at (ρ' := [.va a_book, .va a_table, .va a_one, .va a_other, .va a_struck, .va side2, .un, .un, .un, .un, .un, .un, .un]) rfl (ds_nil rfl (And.intro rfl (And.intro rfl (And.intro rfl (And.intro rfl (And.intro rfl (And.intro trivial (And.intro trivial (And.intro trivial (And.intro trivial (And.intro trivial (And.intro trivial (And.intro trivial (And.intro trivial trivial)))))))))))))))))) (fun s1 => (ds_at (ρ' := [.va a_book, .va a_table, .va a_one, .va a_other, .va a_struck, .un, .un, .un, .un, .un, .un, .un, .un]) rfl (ds_asg (i := 6) (dxa nd rfl (by first | exact .inl rfl | exact .inr rfl) (dx_ix (dx_ix (dx_va 1 rfl rfl (by first | exact .inl rfl | exact .inr (.inl rfl) | exact .inr (.inr rfl))) dx_int) dx_int)) fun lot3 => (ds_at (ρ' := [.va a_book, .va a_table, .va a_one, .va a_other, .va a_struck, .un, .va lot3, .un, .un, .un, .un, .un, .un]) rfl (ds_asg (i := 7) (dxa nd rfl (by first | exact .inl rfl | exact .inr rfl) dx_int) fun first4 => (ds_at (ρ' := [.va a_book, .va a_table, .va a_one, .va a_other, .va a_struck, .un, .va lot3, .va first4, .un, .un, .un, .un, .un]) rfl (ds_whileX (S := D × D) (R := Rx) (ε0 := (enR xc)) (η := fun s5 => [.va a_book, .va a_table, .va a_one, .va a_other, .va a_struck, .un, .va s5.1, .va s5.2, .un, .un, .un, .un, .un]) (s0 := (lot3, first4)) (inj := (fun r => r)) 8 enR_out (And.intro rfl (And.intro rfl (And.intro rfl (And.intro rfl (And.intro rfl (And.intro trivial (And.intro rfl (And.intro rfl (And.intro trivial (And.intro trivial (And.intro trivial (And.intro trivial (And.intro trivial trivial))))))))))))) (fun s5 => (dt_truth dx_bl)) (fun s5 => (ds_at (ρ' := [.va a_book, .va a_table, .va a_one, .va a_other, .va a_struck, .un, .va s5.1, .va s5.2, .un, .un, .un, .un, .un]) rfl (ds_asg (i := 8) (dxa nd rfl (by first | exact .inl rfl | exact .inr rfl) (dx_call5 Fparted (hr.mono (by decide)) (by rfl) (dx_va 0 rfl rfl (by first | exact .inl rfl | exact .inr (.inl rfl) | exact .inr (.inr rfl))) (dx_va 1 rfl rfl (by first | exact .inl rfl | exact .inr (.inl rfl) | exact .inr (.inr rfl))) (dx_va 6 rfl rfl (by first | exact .inl rfl | exact .inr (.inl rfl) | exact .inr (.inr rfl))) (dx_va 7 rfl rfl (by first | exact .inl rfl | exact .inr (.inl rfl) | exact .inr (.inr rfl))) (dx_va 4 rfl rfl (by first | exact .inl rfl | exact .inr (.inl rfl) | exact .inr (.inr rfl))))) fun told6 => (ds_at (ρ' := [.va a_book, .va a_table, .va a_one, .va a_other, .va a_struck, .un, .va s5.1, .va s5.2, .va told6, .un, .un, .un, .un]) rfl (ds_ifx (RA := XX (D × D) Rx) (εA := enXX (fun (s5 : D × D) => [.va a_book, .va a_table, .va a_one, .va a_other, .va a_struck, .un, .va s5.1, .va s5.2, .un, .un, .un, .un, .un]) (enR xc)) (conv := XX.o) (dt_cmp do_isB (dx_va 8 rfl rfl (by first | exact .inl rfl | exact .inr (.inl rfl) | exact .inr (.inr rfl))) dx_non (by first | exact nomark _ | rfl | with_unfolding_all rfl)) (ds_at (ρ' := [.va a_book, .va a_table, .va a_one, .va a_other, .va a_struck, .un, .va s5.1, .va s5.2, .va told6, .un, .un, .un, .un]) rfl (ds_retI (inj := fun d => XX.out (Rx.v d)) (fun _ => rfl) (dx_tup2 dx_str (dx_va 6 rfl rfl (by first | exact .inl rfl | exact .inr (.inl rfl) | exact .inr (.inr rfl)))))) (enXX_no enR_out) enXX_o (ds_at (ρ' := [.va a_book, .va a_table, .va a_one, .va a_other, .va a_struck, .un, .va s5.1, .va s5.2, .va told6, .un, .un, .un, .un]) rfl (ds_asgT (dx_va 8 rfl rfl (by first | exact .inl rfl | exact .inr (.inl rfl) | exact .inr (.inr rfl))) (dg_3 (dg_nm 9 nd rfl (by first | exact .inl rfl | exact .inr rfl)) (fun _ => (dg_nm 10 nd rfl (by first | exact .inl rfl | exact .inr rfl))) fun _ _ => (dg_nm 11 nd rfl (by first | exact .inl rfl | exact .inr rfl))) fun p7 => (ds_at (ρ' := [.va a_book, .va a_table, .va a_one, .va a_other, .va a_struck, .un, .va s5.1, .va s5.2, .va told6, .va p7.1, .va p7.2.1, .va p7.2.2, .un]) rfl (ds_ifx (RA := XX (D × D) Rx) (εA := enXX (fun (s5 : D × D) => [.va a_book, .va a_table, .va a_one, .va a_other, .va a_struck, .un, .va s5.1, .va s5.2, .un, .un, .un, .un, .un]) (enR xc)) (conv := XX.o) (dt_cmp (do_ne (r64 hr)) (dx_dget (r1 hr) (dx_va 11 rfl rfl (by first | exact .inl rfl | exact .inr (.inl rfl) | exact .inr (.inr rfl))) (dx_va 2 rfl rfl (by first | exact .inl rfl | exact .inr (.inl rfl) | exact .inr (.inr rfl)))) (dx_dget (r1 hr) (dx_va 11 rfl rfl (by first | exact .inl rfl | exact .inr (.inl rfl) | exact .inr (.inr rfl))) (dx_va 3 rfl rfl (by first | exact .inl rfl | exact .inr (.inl rfl) | exact .inr (.inr rfl)))) (by first | exact nomark _ | rfl | with_unfolding_all rfl)) (ds_at (ρ' := [.va a_book, .va a_table, .va a_one, .va a_other, .va a_struck, .un, .va s5.1, .va s5.2, .va told6, .va p7.1, .va p7.2.1, .va p7.2.2, .un]) rfl (ds_retI (inj := fun d => XX.out (Rx.v d)) (fun _ => rfl) (dx_tup (da_cons dx_str (da_cons (dx_va 6 rfl rfl (by first | exact .inl rfl | exact .inr (.inl rfl) | exact .inr (.inr rfl))) (da_cons (dx_va 9 rfl rfl (by first | exact .inl rfl | exact .inr (.inl rfl) | exact .inr (.inr rfl))) (da_cons (dx_dget (r1 hr) (dx_va 11 rfl rfl (by first | exact .inl rfl | exact .inr (.inl rfl) | exact .inr (.inr rfl))) (dx_va 2 rfl rfl (by first | exact .inl rfl | exact .inr (.inl rfl) | exact .inr (.inr rfl)))) (da_cons (dx_dget (r1 hr) (dx_va 11 rfl rfl (by first | exact .inl rfl | exact .inr (.inl rfl) | exact .inr (.inr rfl))) (dx_va 3 rfl rfl (by first | exact .inl rfl | exact .inr (.inl rfl) | exact .inr (.inr rfl)))) da_nil)))))))) (enXX_no enR_out) enXX_o (ds_at (ρ' := [.va a_book, .va a_table, .va a_one, .va a_other, .va a_struck, .un, .va s5.1, .va s5.2, .va told6, .va p7.1, .va p7.2.1, .va p7.2.2, .un]) rfl (ds_asg (i := 6) (dxa nd rfl (by first | exact .inl rfl | exact .inr rfl) (dx_ix (dx_of_df (df_lc (own := [(("part" : Str), 12)]) nd (di_list (dx_va 10 rfl rfl (by first | exact .inl rfl | exact .inr (.inl rfl) | exact .inr (.inr rfl)))) (by dsimp only [bodyX, bodyXE, Ctx.blk]; decide +kernel) (dg_nm 12 nd rfl (by first | exact .inl rfl | exact .inr rfl)) (by decide) (fun part15 => (dts_one (dt_cmp (do_in (r65 hr)) (dx_va 2 rfl rfl (by first | exact .inl rfl | exact .inr (.inl rfl) | exact .inr (.inr rfl))) (dx_va 12 rfl rfl (by first | exact .inl rfl | exact .inr (.inl rfl) | exact .inr (.inr rfl))) (by first | exact nomark _ | rfl | with_unfolding_all rfl)))) fun part15 => (dx_va 12 rfl rfl (by first | exact .inl rfl | exact .inr (.inl rfl) | exact .inr (.inr rfl))))) dx_int)) fun lot14 => (ds_at (ρ' := [.va a_book, .va a_table, .va a_one, .va a_other, .va a_struck, .un, .va lot14, .va s5.2, .va told6, .va p7.1, .va p7.2.1, .va p7.2.2, .un]) rfl (ds_asg (i := 7) (dxa nd rfl (by first | exact .inl rfl | exact .inr rfl) (dx_ifExp (dt_cmp (do_eq (r64 hr)) (dx_ix (dx_va 0 rfl rfl (by first | exact .inl rfl | exact .inr (.inl rfl) | exact .inr (.inr rfl))) dx_int) dx_str (by first | exact nomark _ | rfl | with_unfolding_all rfl)) dx_int (dx_op do_add (dx_va 9 rfl rfl (by first | exact .inl rfl | exact .inr (.inl rfl) | exact .inr (.inr rfl))) dx_int))) fun first16 => (ds_at (ρ' := [.va a_book, .va a_table, .va a_one, .va a_other, .va a_struck, .un, .va lot14, .va first16, .va told6, .va p7.1, .va p7.2.1, .va p7.2.2, .un]) rfl (ds_nil rfl (And.intro rfl (And.intro rfl (And.intro rfl (And.intro rfl (And.intro rfl (And.intro trivial (And.intro rfl (And.intro rfl (And.intro trivial (And.intro trivial (And.intro trivial (And.intro trivial (And.intro trivial trivial)))))))))))))))))))))))))))) (fun s5 => ds_fail) (fun _ => rfl)))))))) (fun _ => rfl)))
/-! ### _law_mixed -/
abbrev s_law_mixed : Stmt := top 15
def N_law_mixed : List Str := [("number" : Str), ("place" : Str), ("first" : Str), ("second" : Str), ("third" : Str)]
theorem sc_law_mixed : FnScope N_law_mixed [("number" : Str), ("place" : Str)] (defScope s_law_mixed) := ⟨rfl, rfl, rfl, by decide +kernel, rfl, by decide +kernel, by decide +kernel⟩
-- m_law_mixed stands in DP
theorem d_law_mixed (G : Gs K mg) : ∀ A q ds, Room 0 A → ds.length = 2 → DS (bodyX P w K mg A N_law_mixed s_law_mixed) q (argSl N_law_mixed ds) (defBody s_law_mixed) (ar2 m_law_mixed ds) En.rt := fun A q ds hr hl => match ds, hl with
  | [a_number, a_place], _ => by
    have nd : (N_law_mixed).Nodup := by decide +kernel
    exact (ds_at (ρ' := [.va a_number, .va a_place, .un, .un, .un]) rfl (ds_asg (i := 2) (dxa nd rfl (by first | exact .inl rfl | exact .inr rfl) (dx_op do_mod (dx_ty1 dc_int (by rfl) G.b_int boot_int (dx_op do_add (dx_op do_add (dx_op do_mul (dx_va 0 rfl rfl (by first | exact .inl rfl | exact .inr (.inl rfl) | exact .inr (.inr rfl))) dx_int) (dx_op do_mul (dx_va 1 rfl rfl (by first | exact .inl rfl | exact .inr (.inl rfl) | exact .inr (.inr rfl))) dx_int)) dx_int)) dx_int)) fun first1 => (ds_at (ρ' := [.va a_number, .va a_place, .va first1, .un, .un]) rfl (ds_asg (i := 3) (dxa nd rfl (by first | exact .inl rfl | exact .inr rfl) (dx_op do_mod (dx_ty1 dc_int (by rfl) G.b_int boot_int (dx_op do_add (dx_op do_add (dx_op do_mul (dx_va 2 rfl rfl (by first | exact .inl rfl | exact .inr (.inl rfl) | exact .inr (.inr rfl))) (dx_va 2 rfl rfl (by first | exact .inl rfl | exact .inr (.inl rfl) | exact .inr (.inr rfl)))) (dx_op do_mul dx_int (dx_va 2 rfl rfl (by first | exact .inl rfl | exact .inr (.inl rfl) | exact .inr (.inr rfl))))) (dx_va 1 rfl rfl (by first | exact .inl rfl | exact .inr (.inl rfl) | exact .inr (.inr rfl))))) dx_int)) fun second2 => (ds_at (ρ' := [.va a_number, .va a_place, .va first1, .va second2, .un]) rfl (ds_asg (i := 4) (dxa nd rfl (by first | exact .inl rfl | exact .inr rfl) (dx_op do_mod (dx_ty1 dc_int (by rfl) G.b_int boot_int (dx_op do_add (dx_op do_mul (dx_va 3 rfl rfl (by first | exact .inl rfl | exact .inr (.inl rfl) | exact .inr (.inr rfl))) (dx_va 3 rfl rfl (by first | exact .inl rfl | exact .inr (.inl rfl) | exact .inr (.inr rfl)))) (dx_va 2 rfl rfl (by first | exact .inl rfl | exact .inr (.inl rfl) | exact .inr (.inr rfl))))) dx_int)) fun third3 => (ds_at (ρ' := [.va a_number, .va a_place, .va first1, .va second2, .va third3]) rfl (ds_ret (dx_op do_add (dx_op do_mul (dx_va 3 rfl rfl (by first | exact .inl rfl | exact .inr (.inl rfl) | exact .inr (.inr rfl))) dx_int) (dx_va 4 rfl rfl (by first | exact .inl rfl | exact .inr (.inl rfl) | exact .inr (.inr rfl))))))))))))
/-! ### _law_rest -/
abbrev s_law_rest : Stmt := top 16
def N_law_rest : List Str := [("script" : Str), ("place" : Str), ("fills" : Str), ("number" : Str)]
theorem sc_law_rest : FnScope N_law_rest [("script" : Str), ("place" : Str), ("fills" : Str)] (defScope s_law_rest) := ⟨rfl, rfl, rfl, by decide +kernel, rfl, by decide +kernel, by decide +kernel⟩
-- m_law_rest stands in DP
theorem d_law_rest (G : Gs K mg) (F_law_mixed : Fd P w K mg 1 ("_law_mixed" : Str) (spI K 2 (ar2 m_law_mixed))) : ∀ A ns a_place a_fills, Room 1 A → DS (bodyX P w K mg A N_law_rest s_law_rest) none [.fz ns, .va a_place, .va a_fills, .un] (defBody s_law_rest) (m_law_rest ns a_place a_fills) En.rt := fun A ns a_place a_fills hr => by
    have nd : (N_law_rest).Nodup := by decide +kernel
    exact (ds_at (ρ' := [.fz ns, .va a_place, .va a_fills, .un]) rfl (ds_asg (i := 3) (dxa nd rfl (by first | exact .inl rfl | exact .inr rfl) dx_int) fun number1 => (ds_at (ρ' := [.fz ns, .va a_place, .va a_fills, .va number1]) rfl (ds_ifj (S := D) (env := fun s2 => [.fz ns, .va a_place, .va a_fills, .va s2]) (dt_cmp do_gt (dx_lenFz 0 (by rfl) G.b_len rfl rfl (by first | exact .inl rfl | exact .inr (.inl rfl) | exact .inr (.inr rfl))) dx_int (by first | exact nomark _ | rfl | with_unfolding_all rfl)) (ds_at (ρ' := [.fz ns, .va a_place, .va a_fills, .va number1]) rfl (ds_asg (i := 3) (dxa nd rfl (by first | exact .inl rfl | exact .inr rfl) (dx_ty1 dc_int (by rfl) G.b_int boot_int (dx_ixFz 0 rfl rfl (by first | exact .inl rfl | exact .inr (.inl rfl) | exact .inr (.inr rfl)) (dx_op do_mod (dx_ty1 dc_int (by rfl) G.b_int boot_int (dx_va 1 rfl rfl (by first | exact .inl rfl | exact .inr (.inl rfl) | exact .inr (.inr rfl)))) (dx_lenFz 0 (by rfl) G.b_len rfl rfl (by first | exact .inl rfl | exact .inr (.inl rfl) | exact .inr (.inr rfl))))))) fun number3 => (ds_at (ρ' := [.fz ns, .va a_place, .va a_fills, .va number3]) rfl (ds_nil rfl (And.intro rfl (And.intro rfl (And.intro rfl (And.intro rfl trivial)))))))) (ds_at (ρ' := [.fz ns, .va a_place, .va a_fills, .va number1]) rfl (ds_nil rfl (And.intro rfl (And.intro rfl (And.intro rfl (And.intro rfl trivial)))))) fun s2 => (ds_at (ρ' := [.fz ns, .va a_place, .va a_fills, .va s2]) rfl (ds_ifj (S := D) (env := fun s4 => [.fz ns, .va a_place, .va a_fills, .va s4]) (dt_cmp do_lt (dx_va 3 rfl rfl (by first | exact .inl rfl | exact .inr (.inl rfl) | exact .inr (.inr rfl))) dx_int (by first | exact nomark _ | rfl | with_unfolding_all rfl)) (ds_at (ρ' := [.fz ns, .va a_place, .va a_fills, .va s2]) rfl (ds_asg (i := 3) (dxa nd rfl (by first | exact .inl rfl | exact .inr rfl) (dx_op do_sub dx_int (dx_op do_mul dx_int (dx_va 3 rfl rfl (by first | exact .inl rfl | exact .inr (.inl rfl) | exact .inr (.inr rfl)))))) fun number5 => (ds_at (ρ' := [.fz ns, .va a_place, .va a_fills, .va number5]) rfl (ds_nil rfl (And.intro rfl (And.intro rfl (And.intro rfl (And.intro rfl trivial)))))))) (ds_at (ρ' := [.fz ns, .va a_place, .va a_fills, .va s2]) rfl (ds_nil rfl (And.intro rfl (And.intro rfl (And.intro rfl (And.intro rfl trivial)))))) fun s4 => (ds_at (ρ' := [.fz ns, .va a_place, .va a_fills, .va s4]) rfl (ds_ifr (dt_of_dw (dw_and (dt_cmp (do_eq (r64 hr)) (dx_va 2 rfl rfl (by first | exact .inl rfl | exact .inr (.inl rfl) | exact .inr (.inr rfl))) dx_int (by first | exact nomark _ | rfl | with_unfolding_all rfl)) (dw_and (dt_cmp do_lt (dx_va 1 rfl rfl (by first | exact .inl rfl | exact .inr (.inl rfl) | exact .inr (.inr rfl))) (dx_lenFz 0 (by rfl) G.b_len rfl rfl (by first | exact .inl rfl | exact .inr (.inl rfl) | exact .inr (.inr rfl))) (by first | exact nomark _ | rfl | with_unfolding_all rfl)) (dw_and1 (dt_cmp do_ge (dx_va 3 rfl rfl (by first | exact .inl rfl | exact .inr (.inl rfl) | exact .inr (.inr rfl))) (dx_op do_pow dx_int dx_int) (by first | exact nomark _ | rfl | with_unfolding_all rfl)))))) (ds_at (ρ' := [.fz ns, .va a_place, .va a_fills, .va s4]) rfl (ds_ret (dx_op do_sub (dx_va 3 rfl rfl (by first | exact .inl rfl | exact .inr (.inl rfl) | exact .inr (.inr rfl))) (dx_op do_pow dx_int dx_int)))) (ds_at (ρ' := [.fz ns, .va a_place, .va a_fills, .va s4]) rfl (ds_ret (dx_call2 F_law_mixed (hr.mono (by decide)) (by rfl) (dx_op do_add (dx_va 3 rfl rfl (by first | exact .inl rfl | exact .inr (.inl rfl) | exact .inr (.inr rfl))) (dx_op do_mul (dx_va 2 rfl rfl (by first | exact .inl rfl | exact .inr (.inl rfl) | exact .inr (.inr rfl))) dx_int)) (dx_va 1 rfl rfl (by first | exact .inl rfl | exact .inr (.inl rfl) | exact .inr (.inr rfl))))))))))))))
/-! ### _law_pick -/
abbrev s_law_pick : Stmt := top 20
def N_law_pick : List Str := [("pool" : Str), ("options" : Str)]
theorem sc_law_pick : FnScope N_law_pick [("pool" : Str), ("options" : Str)] (defScope s_law_pick) := ⟨rfl, rfl, rfl, by decide +kernel, rfl, by decide +kernel, by decide +kernel⟩
def m_law_pick (a_options : D) : T D := (T.b2 ixD (T.ret a_options) (((T.ret a_options).bind lenD).bind drawD))
theorem d_law_pick (G : Gs K mg) (F_law_draw : Fd P w K mg 3 ("_law_draw" : Str) (spP K 1 (ar1 drawD))) : ∀ A a ds, Room 3 A → ds.length = 1 → DS (bodyX P w K mg A N_law_pick s_law_pick) (some a) ((argSl N_law_pick (.none :: ds)).set 0 .po) (defBody s_law_pick) (ar1 m_law_pick ds) En.rt := fun A q ds hr hl => match ds, hl with
  | [a_options], _ => by
    have nd : (N_law_pick).Nodup := by decide +kernel
    exact (ds_at (ρ' := [.po, .va a_options]) rfl (ds_ret (dx_ix (dx_va 1 rfl rfl (by first | exact .inl rfl | exact .inr (.inl rfl) | exact .inr (.inr rfl))) (dx_callP1 0 F_law_draw (hr.mono (by decide)) (by rfl) rfl rfl (by first | exact .inl rfl | exact .inr (.inl rfl) | exact .inr (.inr rfl)) (dx_b1 dc_len (by rfl) G.b_len PySem.boot_len (dx_va 1 rfl rfl (by first | exact .inl rfl | exact .inr (.inl rfl) | exact .inr (.inr rfl))))))))
/-! ### _law_same -/
abbrev s_law_same : Stmt := top 21
def N_law_same : List Str := [("answer" : Str), ("due" : Str), ("key" : Str), ("k" : Str)]
theorem sc_law_same : FnScope N_law_same [("answer" : Str), ("due" : Str)] (defScope s_law_same) := ⟨rfl, rfl, rfl, by decide +kernel, rfl, by decide +kernel, by decide +kernel⟩
def b_law_same (self : D → D → T D) (a_answer : D) (a_due : D) : T D := ((orT (T.b2 isB (T.ret a_due) (T.ret .none)) (orT (T.b2 isB (T.ret a_due) (T.ret (.bool true))) (T.b2 isB (T.ret a_due) (T.ret (.bool false))))).bind fun k => if k then (bo (orT (andT (T.b2 isB (T.ret a_due) (T.ret .none)) (T.b2 isB (T.ret a_answer) (T.ret .none))) (orT (andT (T.b2 isB (T.ret a_due) (T.ret (.bool true))) (T.b2 isB (T.ret a_answer) (T.ret (.bool true)))) (andT (T.b2 isB (T.ret a_due) (T.ret (.bool false))) (T.b2 isB (T.ret a_answer) (T.ret (.bool false))))))) else (((T.ret a_due).bind fun d => T.ret (isiD "int" d)).bind fun k => if k then (bo (andT ((T.ret a_answer).bind fun d => T.ret (isiD "int" d)) (andT (notT ((T.ret a_answer).bind fun d => T.ret (isiD "bool" d))) (T.b2 eqD (T.ret a_answer) (T.ret a_due))))) else (((T.ret a_due).bind fun d => T.ret (isiD "str" d)).bind fun k => if k then (bo (andT ((T.ret a_answer).bind fun d => T.ret (isiD "str" d)) (T.b2 eqD (T.ret a_answer) (T.ret a_due)))) else (((T.ret a_due).bind fun d => T.ret (isiD "dict" d)).bind fun k => if k then (T.fail) else ((andT ((T.ret a_due).bind fun d => T.ret (isiD "tuple" d)) (notT ((T.ret a_answer).bind fun d => T.ret (isiD "tuple" d)))).bind fun k => if k then (T.ret (.bool false)) else ((andT ((T.ret a_due).bind fun d => T.ret (isiD "list" d)) (notT ((T.ret a_answer).bind fun d => T.ret (isiD "list" d)))).bind fun k => if k then (T.ret (.bool false)) else ((T.b2 neD ((T.ret a_answer).bind lenD) ((T.ret a_due).bind lenD)).bind fun k => if k then (T.ret (.bool false)) else ((((T.ret a_due).bind lenD).bind range1).bind fun ds => (T.loopM (S := Unit) (fun d s1 => (T.opt (some d)).bind fun k2 => ((notT (((T.b2 ixD (T.ret a_answer) (T.ret k2)).bind fun a => (T.b2 ixD (T.ret a_due) (T.ret k2)).bind fun b => self a b).bind truth)).bind fun k => if k then (((T.ret (.bool false)).bind fun d => T.ret (.rt d)) : T (Xx (Unit))).bind fun r => T.ret r.o else (T.ret (.nx ())))) ds ()).bind (endO (fun s1 => (T.ret (.bool true))) (fun d => d))))))))))
def m_law_same : Nat → D → D → T D
  | 0 => fun _ _ => .fail
  | n + 1 => b_law_same (m_law_same n)
theorem d_law_same (G : Gs K mg) {self : D → D → T D} {l : Nat} (hl : 0 ≤ l) (F_law_same : Fd P w K mg l ("_law_same" : Str) (spI K 2 (ar2 self))) : ∀ A q ds, Room l A → ds.length = 2 → DS (bodyX P w K mg A N_law_same s_law_same) q (argSl N_law_same ds) (defBody s_law_same) (ar2 (b_law_same self) ds) En.rt := fun A q ds hr hq => match ds, hq with
  | [a_answer, a_due], _ => by
    have nd : (N_law_same).Nodup := by decide +kernel
    exact (ds_at (ρ' := [.va a_answer, .va a_due, .un, .un]) rfl (ds_ifr (dt_of_dw (dw_or (dt_cmp do_isB (dx_va 1 rfl rfl (by first | exact .inl rfl | exact .inr (.inl rfl) | exact .inr (.inr rfl))) dx_non (by first | exact nomark _ | rfl | with_unfolding_all rfl)) (dw_or (dt_cmp do_isB (dx_va 1 rfl rfl (by first | exact .inl rfl | exact .inr (.inl rfl) | exact .inr (.inr rfl))) dx_bl (by first | exact nomark _ | rfl | with_unfolding_all rfl)) (dw_or1 (dt_cmp do_isB (dx_va 1 rfl rfl (by first | exact .inl rfl | exact .inr (.inl rfl) | exact .inr (.inr rfl))) dx_bl (by first | exact nomark _ | rfl | with_unfolding_all rfl)))))) (ds_at (ρ' := [.va a_answer, .va a_due, .un, .un]) rfl (ds_ret (dx_or (dx_and (dx_cmpB do_isB (dx_va 1 rfl rfl (by first | exact .inl rfl | exact .inr (.inl rfl) | exact .inr (.inr rfl))) dx_non (by first | exact nomark _ | rfl | with_unfolding_all rfl)) (dx_and1 (dx_cmpB do_isB (dx_va 0 rfl rfl (by first | exact .inl rfl | exact .inr (.inl rfl) | exact .inr (.inr rfl))) dx_non (by first | exact nomark _ | rfl | with_unfolding_all rfl)))) (dx_or (dx_and (dx_cmpB do_isB (dx_va 1 rfl rfl (by first | exact .inl rfl | exact .inr (.inl rfl) | exact .inr (.inr rfl))) dx_bl (by first | exact nomark _ | rfl | with_unfolding_all rfl)) (dx_and1 (dx_cmpB do_isB (dx_va 0 rfl rfl (by first | exact .inl rfl | exact .inr (.inl rfl) | exact .inr (.inr rfl))) dx_bl (by first | exact nomark _ | rfl | with_unfolding_all rfl)))) (dx_or1 (dx_and (dx_cmpB do_isB (dx_va 1 rfl rfl (by first | exact .inl rfl | exact .inr (.inl rfl) | exact .inr (.inr rfl))) dx_bl (by first | exact nomark _ | rfl | with_unfolding_all rfl)) (dx_and1 (dx_cmpB do_isB (dx_va 0 rfl rfl (by first | exact .inl rfl | exact .inr (.inl rfl) | exact .inr (.inr rfl))) dx_bl (by first | exact nomark _ | rfl | with_unfolding_all rfl))))))))) (ds_at (ρ' := [.va a_answer, .va a_due, .un, .un]) rfl (ds_ifr (dt_val (dx_isi (n := "int") (by decide +kernel) (by rfl) G.b_isinstance (by rfl) G.b_int boot_int (dx_va 1 rfl rfl (by first | exact .inl rfl | exact .inr (.inl rfl) | exact .inr (.inr rfl))))) (ds_at (ρ' := [.va a_answer, .va a_due, .un, .un]) rfl (ds_ret (dx_and (dx_isi (n := "int") (by decide +kernel) (by rfl) G.b_isinstance (by rfl) G.b_int boot_int (dx_va 0 rfl rfl (by first | exact .inl rfl | exact .inr (.inl rfl) | exact .inr (.inr rfl)))) (dx_and (dx_not (dx_isi (n := "bool") (by decide +kernel) (by rfl) G.b_isinstance (by rfl) G.b_bool boot_bool (dx_va 0 rfl rfl (by first | exact .inl rfl | exact .inr (.inl rfl) | exact .inr (.inr rfl))))) (dx_and1 (dx_cmpB (do_eq (r64 hr)) (dx_va 0 rfl rfl (by first | exact .inl rfl | exact .inr (.inl rfl) | exact .inr (.inr rfl))) (dx_va 1 rfl rfl (by first | exact .inl rfl | exact .inr (.inl rfl) | exact .inr (.inr rfl))) (by first | exact nomark _ | rfl | with_unfolding_all rfl))))))) (ds_at (ρ' := [.va a_answer, .va a_due, .un, .un]) rfl (ds_ifr (dt_val (dx_isi (n := "str") (by decide +kernel) (by rfl) G.b_isinstance (by rfl) G.b_str boot_str (dx_va 1 rfl rfl (by first | exact .inl rfl | exact .inr (.inl rfl) | exact .inr (.inr rfl))))) (ds_at (ρ' := [.va a_answer, .va a_due, .un, .un]) rfl (ds_ret (dx_and (dx_isi (n := "str") (by decide +kernel) (by rfl) G.b_isinstance (by rfl) G.b_str boot_str (dx_va 0 rfl rfl (by first | exact .inl rfl | exact .inr (.inl rfl) | exact .inr (.inr rfl)))) (dx_and1 (dx_cmpB (do_eq (r64 hr)) (dx_va 0 rfl rfl (by first | exact .inl rfl | exact .inr (.inl rfl) | exact .inr (.inr rfl))) (dx_va 1 rfl rfl (by first | exact .inl rfl | exact .inr (.inl rfl) | exact .inr (.inr rfl))) (by first | exact nomark _ | rfl | with_unfolding_all rfl)))))) (ds_at (ρ' := [.va a_answer, .va a_due, .un, .un]) rfl (ds_ifr (dt_val (dx_isi (n := "dict") (by decide +kernel) (by rfl) G.b_isinstance (by rfl) G.b_dict boot_dict (dx_va 1 rfl rfl (by first | exact .inl rfl | exact .inr (.inl rfl) | exact .inr (.inr rfl))))) (ds_at (ρ' := [.va a_answer, .va a_due, .un, .un]) rfl ds_fail) (ds_at (ρ' := [.va a_answer, .va a_due, .un, .un]) rfl (ds_ifr (dt_of_dw (dw_and (dt_val (dx_isi (n := "tuple") (by decide +kernel) (by rfl) G.b_isinstance (by rfl) G.b_tuple boot_tuple (dx_va 1 rfl rfl (by first | exact .inl rfl | exact .inr (.inl rfl) | exact .inr (.inr rfl))))) (dw_and1 (dt_not (dt_val (dx_isi (n := "tuple") (by decide +kernel) (by rfl) G.b_isinstance (by rfl) G.b_tuple boot_tuple (dx_va 0 rfl rfl (by first | exact .inl rfl | exact .inr (.inl rfl) | exact .inr (.inr rfl))))))))) (ds_at (ρ' := [.va a_answer, .va a_due, .un, .un]) rfl (ds_ret dx_bl)) (ds_at (ρ' := [.va a_answer, .va a_due, .un, .un]) rfl (ds_ifr (dt_of_dw (dw_and (dt_val (dx_isi (n := "list") (by decide +kernel) (by rfl) G.b_isinstance (by rfl) G.b_list boot_list (dx_va 1 rfl rfl (by first | exact .inl rfl | exact .inr (.inl rfl) | exact .inr (.inr rfl))))) (dw_and1 (dt_not (dt_val (dx_isi (n := "list") (by decide +kernel) (by rfl) G.b_isinstance (by rfl) G.b_list boot_list (dx_va 0 rfl rfl (by first | exact .inl rfl | exact .inr (.inl rfl) | exact .inr (.inr rfl))))))))) (ds_at (ρ' := [.va a_answer, .va a_due, .un, .un]) rfl (ds_ret dx_bl)) (ds_at (ρ' := [.va a_answer, .va a_due, .un, .un]) rfl (ds_ifr (dt_cmp (do_ne (r64 hr)) (dx_b1 dc_len (by rfl) G.b_len PySem.boot_len (dx_va 0 rfl rfl (by first | exact .inl rfl | exact .inr (.inl rfl) | exact .inr (.inr rfl)))) (dx_b1 dc_len (by rfl) G.b_len PySem.boot_len (dx_va 1 rfl rfl (by first | exact .inl rfl | exact .inr (.inl rfl) | exact .inr (.inr rfl)))) (by first | exact nomark _ | rfl | with_unfolding_all rfl)) (ds_at (ρ' := [.va a_answer, .va a_due, .un, .un]) rfl (ds_ret dx_bl)) (ds_at (ρ' := [.va a_answer, .va a_due, .un, .un]) rfl (ds_forO (S := Unit) (η := fun s1 => [.va a_answer, .va a_due, .un, .un]) (s0 := ()) (inj := (fun d => d)) (di_range1 (by rfl) G.b_range (dx_b1 dc_len (by rfl) G.b_len PySem.boot_len (dx_va 1 rfl rfl (by first | exact .inl rfl | exact .inr (.inl rfl) | exact .inr (.inr rfl))))) (And.intro rfl (And.intro rfl (And.intro trivial (And.intro trivial trivial)))) (fun s1 => (dg_nm 3 nd rfl (by first | exact .inl rfl | exact .inr rfl))) (fun s1 k2 => (ds_at (ρ' := [.va a_answer, .va a_due, .un, .va k2]) rfl (ds_ifx (RA := Xx (Unit)) (εA := enX (fun (s1 : Unit) => [.va a_answer, .va a_due, .un, .un])) (conv := Xx.o) (dt_not (dt_truth (dx_call2 F_law_same (hr.mono (by omega)) (by rfl) (dx_ix (dx_va 0 rfl rfl (by first | exact .inl rfl | exact .inr (.inl rfl) | exact .inr (.inr rfl))) (dx_va 3 rfl rfl (by first | exact .inl rfl | exact .inr (.inl rfl) | exact .inr (.inr rfl)))) (dx_ix (dx_va 1 rfl rfl (by first | exact .inl rfl | exact .inr (.inl rfl) | exact .inr (.inr rfl))) (dx_va 3 rfl rfl (by first | exact .inl rfl | exact .inr (.inl rfl) | exact .inr (.inr rfl))))))) (ds_at (ρ' := [.va a_answer, .va a_due, .un, .va k2]) rfl (ds_retI (inj := Xx.rt) (fun _ => rfl) dx_bl)) enX_no enX_o (ds_at (ρ' := [.va a_answer, .va a_due, .un, .va k2]) rfl (ds_nil rfl (And.intro rfl (And.intro rfl (And.intro trivial (And.intro trivial trivial))))))))) (fun s1 => (ds_at (ρ' := [.va a_answer, .va a_due, .un, .un]) rfl (ds_ret dx_bl))) (fun _ => rfl)))))))))))))))))
/-! ### _law_names -/
abbrev s_law_names : Stmt := top 22
def N_law_names : List Str := [("many" : Str)]
theorem sc_law_names : FnScope N_law_names [("many" : Str)] (defScope s_law_names) := ⟨rfl, rfl, rfl, by decide +kernel, rfl, by decide +kernel, by decide +kernel⟩
def m_law_names (a_many : D) : T D := (((((((T.ret (.str ("ann" : Str))).bind fun a => ((T.ret (.str ("bob" : Str))).bind fun a => ((T.ret (.str ("cid" : Str))).bind fun a => ((T.ret (.str ("dov" : Str))).bind fun a => ((T.ret (.str ("eve" : Str))).bind fun a => ((T.ret (.str ("fay" : Str))).bind fun a => ((T.ret (.str ("gus" : Str))).bind fun a => ((T.ret (.str ("hal" : Str))).bind fun a => (T.ret []).bind fun as => T.ret (a :: as)).bind fun as => T.ret (a :: as)).bind fun as => T.ret (a :: as)).bind fun as => T.ret (a :: as)).bind fun as => T.ret (a :: as)).bind fun as => T.ret (a :: as)).bind fun as => T.ret (a :: as)).bind fun as => T.ret (a :: as)).bind fun ds => T.chk ds.length (T.ret ds)).bind fun ds => T.ret (.list ds)).bind fun x => (T.ret none : T (Option Int)).bind fun l => ((T.ret a_many).bind partD).bind fun u => slLD x l u).bind fun ds => T.ret (.list ds)).bind tupleD)
theorem d_law_names (G : Gs K mg) : ∀ A q ds, Room 0 A → ds.length = 1 → DS (bodyX P w K mg A N_law_names s_law_names) q (argSl N_law_names ds) (defBody s_law_names) (ar1 m_law_names ds) En.rt := fun A q ds hr hl => match ds, hl with
  | [a_many], _ => by
    have nd : (N_law_names).Nodup := by decide +kernel
    exact (ds_at (ρ' := [.va a_many]) rfl (ds_ret (dx_ty1 dc_tuple (by rfl) G.b_tuple boot_tuple (dx_of_df (df_sl (dx_of_df (df_lst (da_cons dx_str (da_cons dx_str (da_cons dx_str (da_cons dx_str (da_cons dx_str (da_cons dx_str (da_cons dx_str (da_cons dx_str da_nil)))))))))) dp_none (dp_some (dx_va 0 rfl rfl (by first | exact .inl rfl | exact .inr (.inl rfl) | exact .inr (.inr rfl)))))))))
/-! ### _law_matches -/
abbrev s_law_matches : Stmt := top 23
def N_law_matches : List Str := [("names" : Str), ("rounds" : Str), ("found" : Str), ("j" : Str), ("i" : Str), ("number" : Str)]
theorem sc_law_matches : FnScope N_law_matches [("names" : Str), ("rounds" : Str)] (defScope s_law_matches) := ⟨rfl, rfl, rfl, by decide +kernel, rfl, by decide +kernel, by decide +kernel⟩
def m_law_matches (a_names : D) (a_rounds : D) : T D := ((T.ret []).bind fun found1 => ((T.b2 range2 (T.ret (.int 1)) (T.b2 addD (T.ret a_rounds) (T.ret (.int 1)))).bind fun ds => (T.foldM (fun d (s2 : List D) => (T.opt (some d)).bind fun number3 => ((((T.ret a_names).bind lenD).bind range1).bind fun ds => (T.foldM (fun d (s4 : List D) => (T.opt (some d)).bind fun i5 => ((T.b2 range2 (T.b2 addD (T.ret i5) (T.ret (.int 1))) ((T.ret a_names).bind lenD)).bind fun ds => (T.foldM (fun d (s6 : List D) => (T.opt (some d)).bind fun j7 => (((T.b2 eqD (T.b2 modD (T.ret number3) (T.ret (.int 2))) (T.ret (.int 1))).bind fun k => if k then ((T.b2 ixD (T.ret a_names) (T.ret i5)).bind fun a => (T.b2 ixD (T.ret a_names) (T.ret j7)).bind fun b => (T.ret number3).bind fun c => T.ret (.tuple [a, b, c])) else ((T.b2 ixD (T.ret a_names) (T.ret j7)).bind fun a => (T.b2 ixD (T.ret a_names) (T.ret i5)).bind fun b => (T.ret number3).bind fun c => T.ret (.tuple [a, b, c]))).bind fun e8 => T.chk (List.length (α := D) s6) (T.ret (s6 ++ [e8])))) ds s4).bind fun s6 => (T.ret s6))) ds s2).bind fun s4 => (T.ret s4))) ds found1).bind fun s2 => (((T.ret (.list s2)).bind sortedD).bind fun ds => T.ret (.list ds))))
theorem d_law_matches (G : Gs K mg) : ∀ A q ds, Room 0 A → ds.length = 2 → DS (bodyX P w K mg A N_law_matches s_law_matches) q (argSl N_law_matches ds) (defBody s_law_matches) (ar2 m_law_matches ds) En.rt := fun A q ds hr hl => match ds, hl with
  | [a_names, a_rounds], _ => by
    have nd : (N_law_matches).Nodup := by decide +kernel
    exact (ds_at (ρ' := [.va a_names, .va a_rounds, .un, .un, .un, .un]) rfl (ds_own (i := 2) (dfa nd rfl (by first | exact .inl rfl | exact .inr rfl) df_lst0) fun found1 => (ds_at (ρ' := [.va a_names, .va a_rounds, .ow found1, .un, .un, .un]) rfl (ds_forN (S := List D) (η := fun s2 => [.va a_names, .va a_rounds, .ow s2, .un, .un, .un]) (s0 := found1) (di_range2 (by rfl) G.b_range dx_int (dx_op do_add (dx_va 1 rfl rfl (by first | exact .inl rfl | exact .inr (.inl rfl) | exact .inr (.inr rfl))) dx_int)) (And.intro rfl (And.intro rfl (And.intro rfl (And.intro trivial (And.intro trivial (And.intro trivial trivial)))))) (fun s2 => (dg_nm 5 nd rfl (by first | exact .inl rfl | exact .inr rfl))) (fun s2 number3 => (ds_at (ρ' := [.va a_names, .va a_rounds, .ow s2, .un, .un, .va number3]) rfl (ds_forN (S := List D) (η := fun s4 => [.va a_names, .va a_rounds, .ow s4, .un, .un, .va number3]) (s0 := s2) (di_range1 (by rfl) G.b_range (dx_b1 dc_len (by rfl) G.b_len PySem.boot_len (dx_va 0 rfl rfl (by first | exact .inl rfl | exact .inr (.inl rfl) | exact .inr (.inr rfl))))) (And.intro rfl (And.intro rfl (And.intro rfl (And.intro trivial (And.intro trivial (And.intro rfl trivial)))))) (fun s4 => (dg_nm 4 nd rfl (by first | exact .inl rfl | exact .inr rfl))) (fun s4 i5 => (ds_at (ρ' := [.va a_names, .va a_rounds, .ow s4, .un, .va i5, .va number3]) rfl (ds_forN (S := List D) (η := fun s6 => [.va a_names, .va a_rounds, .ow s6, .un, .va i5, .va number3]) (s0 := s4) (di_range2 (by rfl) G.b_range (dx_op do_add (dx_va 4 rfl rfl (by first | exact .inl rfl | exact .inr (.inl rfl) | exact .inr (.inr rfl))) dx_int) (dx_b1 dc_len (by rfl) G.b_len PySem.boot_len (dx_va 0 rfl rfl (by first | exact .inl rfl | exact .inr (.inl rfl) | exact .inr (.inr rfl))))) (And.intro rfl (And.intro rfl (And.intro rfl (And.intro trivial (And.intro rfl (And.intro rfl trivial)))))) (fun s6 => (dg_nm 3 nd rfl (by first | exact .inl rfl | exact .inr rfl))) (fun s6 j7 => (ds_at (ρ' := [.va a_names, .va a_rounds, .ow s6, .va j7, .va i5, .va number3]) rfl (ds_app 2 rfl rfl (by first | exact .inl rfl | exact .inr (.inl rfl) | exact .inr (.inr rfl)) (dx_ifExp (dt_cmp (do_eq (r64 hr)) (dx_op do_mod (dx_va 5 rfl rfl (by first | exact .inl rfl | exact .inr (.inl rfl) | exact .inr (.inr rfl))) dx_int) dx_int (by first | exact nomark _ | rfl | with_unfolding_all rfl)) (dx_tup3 (dx_ix (dx_va 0 rfl rfl (by first | exact .inl rfl | exact .inr (.inl rfl) | exact .inr (.inr rfl))) (dx_va 4 rfl rfl (by first | exact .inl rfl | exact .inr (.inl rfl) | exact .inr (.inr rfl)))) (dx_ix (dx_va 0 rfl rfl (by first | exact .inl rfl | exact .inr (.inl rfl) | exact .inr (.inr rfl))) (dx_va 3 rfl rfl (by first | exact .inl rfl | exact .inr (.inl rfl) | exact .inr (.inr rfl)))) (dx_va 5 rfl rfl (by first | exact .inl rfl | exact .inr (.inl rfl) | exact .inr (.inr rfl)))) (dx_tup3 (dx_ix (dx_va 0 rfl rfl (by first | exact .inl rfl | exact .inr (.inl rfl) | exact .inr (.inr rfl))) (dx_va 3 rfl rfl (by first | exact .inl rfl | exact .inr (.inl rfl) | exact .inr (.inr rfl)))) (dx_ix (dx_va 0 rfl rfl (by first | exact .inl rfl | exact .inr (.inl rfl) | exact .inr (.inr rfl))) (dx_va 4 rfl rfl (by first | exact .inl rfl | exact .inr (.inl rfl) | exact .inr (.inr rfl)))) (dx_va 5 rfl rfl (by first | exact .inl rfl | exact .inr (.inl rfl) | exact .inr (.inr rfl))))) fun e8 => (ds_at (ρ' := [.va a_names, .va a_rounds, .ow (s6 ++ [e8]), .va j7, .va i5, .va number3]) rfl (ds_nil rfl (And.intro rfl (And.intro rfl (And.intro rfl (And.intro trivial (And.intro rfl (And.intro rfl trivial))))))))))) (fun s6 => (ds_at (ρ' := [.va a_names, .va a_rounds, .ow s6, .un, .va i5, .va number3]) rfl (ds_nil rfl (And.intro rfl (And.intro rfl (And.intro rfl (And.intro trivial (And.intro trivial (And.intro rfl trivial)))))))))))) (fun s4 => (ds_at (ρ' := [.va a_names, .va a_rounds, .ow s4, .un, .un, .va number3]) rfl (ds_nil rfl (And.intro rfl (And.intro rfl (And.intro rfl (And.intro trivial (And.intro trivial (And.intro trivial trivial)))))))))))) (fun s2 => (ds_at (ρ' := [.va a_names, .va a_rounds, .ow s2, .un, .un, .un]) rfl (ds_frz 2 rfl (ds_ret (dx_of_df (df_sorted (r64 hr) (by rfl) G.b_sorted (dx_va 2 rfl rfl (by first | exact .inl rfl | exact .inr (.inl rfl) | exact .inr (.inr rfl)))))))))))))
/-! ### _law_goals -/
abbrev s_law_goals : Stmt := top 24
def N_law_goals : List Str := [("pool" : Str), ("most" : Str), ("own" : Str)]
theorem sc_law_goals : FnScope N_law_goals [("pool" : Str), ("most" : Str)] (defScope s_law_goals) := ⟨rfl, rfl, rfl, by decide +kernel, rfl, by decide +kernel, by decide +kernel⟩
def m_law_goals (a_most : D) : T D := (((T.b2 addD (T.ret a_most) (T.ret (.int 1))).bind drawD).bind fun own1 => ((T.b2 eqD ((T.ret (.int 4)).bind drawD) (T.ret (.int 0))).bind fun k => if k then ((T.ret own1).bind fun a => (T.ret own1).bind fun b => T.ret (.tuple [a, b])) else ((T.ret own1).bind fun a => ((T.b2 addD (T.ret a_most) (T.ret (.int 1))).bind drawD).bind fun b => T.ret (.tuple [a, b]))))
theorem d_law_goals (G : Gs K mg) (F_law_draw : Fd P w K mg 3 ("_law_draw" : Str) (spP K 1 (ar1 drawD))) : ∀ A a ds, Room 3 A → ds.length = 1 → DS (bodyX P w K mg A N_law_goals s_law_goals) (some a) ((argSl N_law_goals (.none :: ds)).set 0 .po) (defBody s_law_goals) (ar1 m_law_goals ds) En.rt := fun A q ds hr hl => match ds, hl with
  | [a_most], _ => by
    have nd : (N_law_goals).Nodup := by decide +kernel
    exact (ds_at (ρ' := [.po, .va a_most, .un]) rfl (ds_asg (i := 2) (dxa nd rfl (by first | exact .inl rfl | exact .inr rfl) (dx_callP1 0 F_law_draw (hr.mono (by decide)) (by rfl) rfl rfl (by first | exact .inl rfl | exact .inr (.inl rfl) | exact .inr (.inr rfl)) (dx_op do_add (dx_va 1 rfl rfl (by first | exact .inl rfl | exact .inr (.inl rfl) | exact .inr (.inr rfl))) dx_int))) fun own1 => (ds_at (ρ' := [.po, .va a_most, .va own1]) rfl (ds_ret (dx_ifExp (dt_cmp (do_eq (r64 hr)) (dx_callP1 0 F_law_draw (hr.mono (by decide)) (by rfl) rfl rfl (by first | exact .inl rfl | exact .inr (.inl rfl) | exact .inr (.inr rfl)) dx_int) dx_int (by first | exact nomark _ | rfl | with_unfolding_all rfl)) (dx_tup2 (dx_va 2 rfl rfl (by first | exact .inl rfl | exact .inr (.inl rfl) | exact .inr (.inr rfl))) (dx_va 2 rfl rfl (by first | exact .inl rfl | exact .inr (.inl rfl) | exact .inr (.inr rfl)))) (dx_tup2 (dx_va 2 rfl rfl (by first | exact .inl rfl | exact .inr (.inl rfl) | exact .inr (.inr rfl))) (dx_callP1 0 F_law_draw (hr.mono (by decide)) (by rfl) rfl rfl (by first | exact .inl rfl | exact .inr (.inl rfl) | exact .inr (.inr rfl)) (dx_op do_add (dx_va 1 rfl rfl (by first | exact .inl rfl | exact .inr (.inl rfl) | exact .inr (.inr rfl))) dx_int))))))))
/-! ### _law_results -/
abbrev s_law_results : Stmt := top 25
def N_law_results : List Str := [("pool" : Str), ("matches" : Str), ("most" : Str), ("opens" : Str), ("found" : Str), ("told" : Str), ("k" : Str)]
theorem sc_law_results : FnScope N_law_results [("pool" : Str), ("matches" : Str), ("most" : Str), ("opens" : Str)] (defScope s_law_results) := ⟨rfl, rfl, rfl, by decide +kernel, rfl, by decide +kernel, by decide +kernel⟩
def m_law_results (a_matches : D) (a_most : D) (a_opens : D) : T D := ((T.ret []).bind fun found1 => ((((T.ret a_matches).bind lenD).bind range1).bind fun ds => (T.foldM (fun d (s2 : List D) => (T.opt (some d)).bind fun k3 => (nextD.bind fun z4 => (((T.ret a_most).bind m_law_goals).bind fun told5 => (((andT (T.b2 gtD (T.ret a_opens) (T.ret (.int 0))) (T.b2 eqD ((T.ret a_opens).bind drawD) (T.ret (.int 0)))).bind fun k => if k then (T.ret .none) else (T.ret told5)).bind fun e6 => T.chk (List.length (α := D) s2) (T.ret (s2 ++ [e6])))))) ds found1).bind fun s2 => (T.ret (.list s2))))
theorem d_law_results (G : Gs K mg) (F_law_draw : Fd P w K mg 3 ("_law_draw" : Str) (spP K 1 (ar1 drawD))) (F_law_goals : Fd P w K mg 4 ("_law_goals" : Str) (spP K 1 (ar1 m_law_goals))) (F_law_next : Fd P w K mg 3 ("_law_next" : Str) (spP K 0 (ar0 nextD))) : ∀ A a ds, Room 4 A → ds.length = 3 → DS (bodyX P w K mg A N_law_results s_law_results) (some a) ((argSl N_law_results (.none :: ds)).set 0 .po) (defBody s_law_results) (ar3 m_law_results ds) En.rt := fun A q ds hr hl => match ds, hl with
  | [a_matches, a_most, a_opens], _ => by
    have nd : (N_law_results).Nodup := by decide +kernel
    exact (ds_at (ρ' := [.po, .va a_matches, .va a_most, .va a_opens, .un, .un, .un]) rfl (ds_own (i := 4) (dfa nd rfl (by first | exact .inl rfl | exact .inr rfl) df_lst0) fun found1 => (ds_at (ρ' := [.po, .va a_matches, .va a_most, .va a_opens, .ow found1, .un, .un]) rfl (ds_forN (S := List D) (η := fun s2 => [.po, .va a_matches, .va a_most, .va a_opens, .ow s2, .un, .un]) (s0 := found1) (di_range1 (by rfl) G.b_range (dx_b1 dc_len (by rfl) G.b_len PySem.boot_len (dx_va 1 rfl rfl (by first | exact .inl rfl | exact .inr (.inl rfl) | exact .inr (.inr rfl))))) (And.intro rfl (And.intro rfl (And.intro rfl (And.intro rfl (And.intro rfl (And.intro trivial (And.intro trivial trivial))))))) (fun s2 => (dg_nm 6 nd rfl (by first | exact .inl rfl | exact .inr rfl))) (fun s2 k3 => (ds_at (ρ' := [.po, .va a_matches, .va a_most, .va a_opens, .ow s2, .un, .va k3]) rfl (ds_expr (dx_callP0 0 F_law_next (hr.mono (by decide)) (by rfl) rfl rfl (by first | exact .inl rfl | exact .inr (.inl rfl) | exact .inr (.inr rfl))) fun z4 => (ds_at (ρ' := [.po, .va a_matches, .va a_most, .va a_opens, .ow s2, .un, .va k3]) rfl (ds_asg (i := 5) (dxa nd rfl (by first | exact .inl rfl | exact .inr rfl) (dx_callP1 0 F_law_goals (hr.mono (by decide)) (by rfl) rfl rfl (by first | exact .inl rfl | exact .inr (.inl rfl) | exact .inr (.inr rfl)) (dx_va 2 rfl rfl (by first | exact .inl rfl | exact .inr (.inl rfl) | exact .inr (.inr rfl))))) fun told5 => (ds_at (ρ' := [.po, .va a_matches, .va a_most, .va a_opens, .ow s2, .va told5, .va k3]) rfl (ds_app 4 rfl rfl (by first | exact .inl rfl | exact .inr (.inl rfl) | exact .inr (.inr rfl)) (dx_ifExp (dt_of_dw (dw_and (dt_cmp do_gt (dx_va 3 rfl rfl (by first | exact .inl rfl | exact .inr (.inl rfl) | exact .inr (.inr rfl))) dx_int (by first | exact nomark _ | rfl | with_unfolding_all rfl)) (dw_and1 (dt_cmp (do_eq (r64 hr)) (dx_callP1 0 F_law_draw (hr.mono (by decide)) (by rfl) rfl rfl (by first | exact .inl rfl | exact .inr (.inl rfl) | exact .inr (.inr rfl)) (dx_va 3 rfl rfl (by first | exact .inl rfl | exact .inr (.inl rfl) | exact .inr (.inr rfl)))) dx_int (by first | exact nomark _ | rfl | with_unfolding_all rfl))))) dx_non (dx_va 5 rfl rfl (by first | exact .inl rfl | exact .inr (.inl rfl) | exact .inr (.inr rfl)))) fun e6 => (ds_at (ρ' := [.po, .va a_matches, .va a_most, .va a_opens, .ow (s2 ++ [e6]), .va told5, .va k3]) rfl (ds_nil rfl (And.intro rfl (And.intro rfl (And.intro rfl (And.intro rfl (And.intro rfl (And.intro trivial (And.intro trivial trivial)))))))))))))))) (fun s2 => (ds_at (ρ' := [.po, .va a_matches, .va a_most, .va a_opens, .ow s2, .un, .un]) rfl (ds_frz 4 rfl (ds_ret (dx_va 4 rfl rfl (by first | exact .inl rfl | exact .inr (.inl rfl) | exact .inr (.inr rfl)))))))))))
/-! ### _law_ring -/
abbrev s_law_ring : Stmt := top 26
def N_law_ring : List Str := [("pool" : Str), ("names" : Str), ("matches" : Str), ("results" : Str), ("ring" : Str), ("told" : Str), ("found" : Str), ("home" : Str), ("other" : Str), ("number" : Str), ("ahead" : Str), ("k" : Str)]
theorem sc_law_ring : FnScope N_law_ring [("pool" : Str), ("names" : Str), ("matches" : Str), ("results" : Str)] (defScope s_law_ring) := ⟨rfl, rfl, rfl, by decide +kernel, rfl, by decide +kernel, by decide +kernel⟩
def m_law_ring (a_names : D) (a_matches : D) (a_results : D) : T D := ((lcT ((T.ret (.int 3)).bind range1) some (fun k2 => (T.ret true)) fun k2 => (T.b2 ixD (T.ret a_names) (T.b2 modD (T.b2 addD (T.ret k2) ((T.ret (.int 2)).bind drawD)) ((T.ret a_names).bind lenD)))).bind fun ring1 => ((((orT (T.b2 ltD ((T.ret a_names).bind lenD) (T.ret (.int 3))) (T.b2 ltD ((T.ret (.list ring1)).bind lenSetD) (T.ret (.int 3)))).bind fun k => if k then (((((T.ret a_names).bind fun x => (T.ret none : T (Option Int)).bind fun l => ((T.ret (.int 3)).bind partD).bind fun u => slD x l u).bind listD).bind fun ds => T.ret (.list ds)).bind fun ring4 => (T.ret ring4)) else (T.ret (.list ring1))) : T (D)).bind fun s3 => (((((((T.ret (.int 1)).bind fun a => (T.ret (.int 0)).bind fun b => T.ret (.tuple [a, b])).bind fun a => (((T.ret (.int 2)).bind fun a => (T.ret (.int 1)).bind fun b => T.ret (.tuple [a, b])).bind fun a => (((T.ret (.int 3)).bind fun a => (T.ret (.int 0)).bind fun b => T.ret (.tuple [a, b])).bind fun a => (T.ret []).bind fun as => T.ret (a :: as)).bind fun as => T.ret (a :: as)).bind fun as => T.ret (a :: as)).bind fun ds => T.chk ds.length (T.ret ds)).bind fun ds => T.ret (.list ds)).bind m_law_pick).bind fun told5 => (((T.ret a_results).bind listD).bind fun found6 => ((((T.ret a_matches).bind lenD).bind range1).bind fun ds => (T.foldM (fun d (s7 : List D) => (T.opt (some d)).bind fun k8 => ((T.b2 ixD (T.ret a_matches) (T.ret k8)).bind fun d => (T.opt ((tripO some some some) d)).bind fun p9 => ((andT (T.b2 inD (T.ret p9.1) (T.ret s3)) (andT (T.b2 inD (T.ret p9.2.1) (T.ret s3)) (T.b2 eqD ((T.ret s3).bind lenD) (T.ret (.int 3))))).bind fun k => if k then ((bo (T.b2 eqD (T.b2 ixD (T.ret s3) (T.b2 modD (T.b2 addD ((T.ret s3).bind fun a => (T.ret p9.1).bind fun b => indexD a b) (T.ret (.int 1))) (T.ret (.int 3)))) (T.ret p9.2.1))).bind fun ahead16 => ((((T.ret ahead16).bind truth).bind fun k => if k then (T.ret told5) else ((T.ret told5).bind revD)).bind fun d => (T.ret k8).bind fun j => (putL s7 j d).bind fun l17 => (T.ret l17))) else (T.ret s7)))) ds found6).bind fun s7 => (T.ret (.list s7)))))))
theorem d_law_ring (G : Gs K mg) (F_law_draw : Fd P w K mg 3 ("_law_draw" : Str) (spP K 1 (ar1 drawD))) (F_law_pick : Fd P w K mg 4 ("_law_pick" : Str) (spP K 1 (ar1 m_law_pick))) : ∀ A a ds, Room 4 A → ds.length = 3 → DS (bodyX P w K mg A N_law_ring s_law_ring) (some a) ((argSl N_law_ring (.none :: ds)).set 0 .po) (defBody s_law_ring) (ar3 m_law_ring ds) En.rt := fun A q ds hr hl => match ds, hl with
  | [a_names, a_matches, a_results], _ => by
    have nd : (N_law_ring).Nodup := by decide +kernel
    exact (ds_at (ρ' := [.po, .va a_names, .va a_matches, .va a_results, .un, .un, .un, .un, .un, .un, .un, .un]) rfl (ds_own (i := 4) (dfa_lc nd rfl rfl rfl (own := [(("k" : Str), 11)]) (di := (di_range1 (by rfl) G.b_range dx_int)) (bk := by dsimp only [bodyX, bodyXE, Ctx.blk]; decide +kernel) (dg := (dg_nm 11 nd rfl (by first | exact .inl rfl | exact .inr rfl))) (hix := by decide) (hc := fun k2 => dts_nil) (he := fun k2 => (dx_ix (dx_va 1 rfl rfl (by first | exact .inl rfl | exact .inr (.inl rfl) | exact .inr (.inr rfl))) (dx_op do_mod (dx_op do_add (dx_va 11 rfl rfl (by first | exact .inl rfl | exact .inr (.inl rfl) | exact .inr (.inr rfl))) (dx_callP1 0 F_law_draw (hr.mono (by decide)) (by rfl) rfl rfl (by first | exact .inl rfl | exact .inr (.inl rfl) | exact .inr (.inr rfl)) dx_int)) (dx_b1 dc_len (by rfl) G.b_len PySem.boot_len (dx_va 1 rfl rfl (by first | exact .inl rfl | exact .inr (.inl rfl) | exact .inr (.inr rfl)))))))) fun ring1 => (ds_at (ρ' := [.po, .va a_names, .va a_matches, .va a_results, .ow ring1, .un, .un, .un, .un, .un, .un, .un]) rfl (ds_frz 4 rfl (ds_ifj (S := D) (env := fun s3 => [.po, .va a_names, .va a_matches, .va a_results, .va s3, .un, .un, .un, .un, .un, .un, .un]) (dt_of_dw (dw_or (dt_cmp do_lt (dx_b1 dc_len (by rfl) G.b_len PySem.boot_len (dx_va 1 rfl rfl (by first | exact .inl rfl | exact .inr (.inl rfl) | exact .inr (.inr rfl)))) dx_int (by first | exact nomark _ | rfl | with_unfolding_all rfl)) (dw_or1 (dt_cmp do_lt (dx_lenSet (r64 hr) (by rfl) G.b_len (by rfl) G.b_set (dx_va 4 rfl rfl (by first | exact .inl rfl | exact .inr (.inl rfl) | exact .inr (.inr rfl)))) dx_int (by first | exact nomark _ | rfl | with_unfolding_all rfl))))) (ds_at (ρ' := [.po, .va a_names, .va a_matches, .va a_results, .va (.list ring1), .un, .un, .un, .un, .un, .un, .un]) rfl (ds_asg (i := 4) (dxa nd rfl (by first | exact .inl rfl | exact .inr rfl) (dx_of_df (df_list (by rfl) G.b_list (dx_sl (dx_va 1 rfl rfl (by first | exact .inl rfl | exact .inr (.inl rfl) | exact .inr (.inr rfl))) dp_none (dp_some dx_int))))) fun ring4 => (ds_at (ρ' := [.po, .va a_names, .va a_matches, .va a_results, .va ring4, .un, .un, .un, .un, .un, .un, .un]) rfl (ds_nil rfl (And.intro rfl (And.intro rfl (And.intro rfl (And.intro rfl (And.intro rfl (And.intro trivial (And.intro trivial (And.intro trivial (And.intro trivial (And.intro trivial (And.intro trivial (And.intro trivial trivial)))))))))))))))) (ds_at (ρ' := [.po, .va a_names, .va a_matches, .va a_results, .va (.list ring1), .un, .un, .un, .un, .un, .un, .un]) rfl (ds_nil rfl (And.intro rfl (And.intro rfl (And.intro rfl (And.intro rfl (And.intro rfl (And.intro trivial (And.intro trivial (And.intro trivial (And.intro trivial (And.intro trivial (And.intro trivial (And.intro trivial trivial)))))))))))))) fun s3 => (ds_at (ρ' := [.po, .va a_names, .va a_matches, .va a_results, .va s3, .un, .un, .un, .un, .un, .un, .un]) rfl (ds_asg (i := 5) (dxa nd rfl (by first | exact .inl rfl | exact .inr rfl) (dx_callP1 0 F_law_pick (hr.mono (by decide)) (by rfl) rfl rfl (by first | exact .inl rfl | exact .inr (.inl rfl) | exact .inr (.inr rfl)) (dx_of_df (df_lst (da_cons (dx_tup2 dx_int dx_int) (da_cons (dx_tup2 dx_int dx_int) (da_cons (dx_tup2 dx_int dx_int) da_nil))))))) fun told5 => (ds_at (ρ' := [.po, .va a_names, .va a_matches, .va a_results, .va s3, .va told5, .un, .un, .un, .un, .un, .un]) rfl (ds_own (i := 6) (dfa nd rfl (by first | exact .inl rfl | exact .inr rfl) (df_list (by rfl) G.b_list (dx_va 3 rfl rfl (by first | exact .inl rfl | exact .inr (.inl rfl) | exact .inr (.inr rfl))))) fun found6 => (ds_at (ρ' := [.po, .va a_names, .va a_matches, .va a_results, .va s3, .va told5, .ow found6, .un, .un, .un, .un, .un]) rfl (ds_forN (S := List D) (η := fun s7 => [.po, .va a_names, .va a_matches, .va a_results, .va s3, .va told5, .ow s7, .un, .un, .un, .un, .un]) (s0 := found6) (di_range1 (by rfl) G.b_range (dx_b1 dc_len (by rfl) G.b_len PySem.boot_len (dx_va 2 rfl rfl (by first | exact .inl rfl | exact .inr (.inl rfl) | exact .inr (.inr rfl))))) (And.intro rfl (And.intro rfl (And.intro rfl (And.intro rfl (And.intro rfl (And.intro rfl (And.intro rfl (And.intro trivial (And.intro trivial (And.intro trivial (And.intro trivial (And.intro trivial trivial)))))))))))) (fun s7 => (dg_nm 11 nd rfl (by first | exact .inl rfl | exact .inr rfl))) (fun s7 k8 => (ds_at (ρ' := [.po, .va a_names, .va a_matches, .va a_results, .va s3, .va told5, .ow s7, .un, .un, .un, .un, .va k8]) rfl (ds_asgT (dx_ix (dx_va 2 rfl rfl (by first | exact .inl rfl | exact .inr (.inl rfl) | exact .inr (.inr rfl))) (dx_va 11 rfl rfl (by first | exact .inl rfl | exact .inr (.inl rfl) | exact .inr (.inr rfl)))) (dg_3 (dg_nm 7 nd rfl (by first | exact .inl rfl | exact .inr rfl)) (fun _ => (dg_nm 8 nd rfl (by first | exact .inl rfl | exact .inr rfl))) fun _ _ => (dg_nm 9 nd rfl (by first | exact .inl rfl | exact .inr rfl))) fun p9 => (ds_at (ρ' := [.po, .va a_names, .va a_matches, .va a_results, .va s3, .va told5, .ow s7, .va p9.1, .va p9.2.1, .va p9.2.2, .un, .va k8]) rfl (ds_ite (dt_of_dw (dw_and (dt_cmp (do_in (r65 hr)) (dx_va 7 rfl rfl (by first | exact .inl rfl | exact .inr (.inl rfl) | exact .inr (.inr rfl))) (dx_va 4 rfl rfl (by first | exact .inl rfl | exact .inr (.inl rfl) | exact .inr (.inr rfl))) (by first | exact nomark _ | rfl | with_unfolding_all rfl)) (dw_and (dt_cmp (do_in (r65 hr)) (dx_va 8 rfl rfl (by first | exact .inl rfl | exact .inr (.inl rfl) | exact .inr (.inr rfl))) (dx_va 4 rfl rfl (by first | exact .inl rfl | exact .inr (.inl rfl) | exact .inr (.inr rfl))) (by first | exact nomark _ | rfl | with_unfolding_all rfl)) (dw_and1 (dt_cmp (do_eq (r64 hr)) (dx_b1 dc_len (by rfl) G.b_len PySem.boot_len (dx_va 4 rfl rfl (by first | exact .inl rfl | exact .inr (.inl rfl) | exact .inr (.inr rfl)))) dx_int (by first | exact nomark _ | rfl | with_unfolding_all rfl)))))) (ds_at (ρ' := [.po, .va a_names, .va a_matches, .va a_results, .va s3, .va told5, .ow s7, .va p9.1, .va p9.2.1, .va p9.2.2, .un, .va k8]) rfl (ds_asg (i := 10) (dxa nd rfl (by first | exact .inl rfl | exact .inr rfl) (dx_cmpB (do_eq (r64 hr)) (dx_ix (dx_va 4 rfl rfl (by first | exact .inl rfl | exact .inr (.inl rfl) | exact .inr (.inr rfl))) (dx_op do_mod (dx_op do_add (dx_index (r65 hr) (dx_va 4 rfl rfl (by first | exact .inl rfl | exact .inr (.inl rfl) | exact .inr (.inr rfl))) (dx_va 7 rfl rfl (by first | exact .inl rfl | exact .inr (.inl rfl) | exact .inr (.inr rfl)))) dx_int) dx_int)) (dx_va 8 rfl rfl (by first | exact .inl rfl | exact .inr (.inl rfl) | exact .inr (.inr rfl))) (by first | exact nomark _ | rfl | with_unfolding_all rfl))) fun ahead16 => (ds_at (ρ' := [.po, .va a_names, .va a_matches, .va a_results, .va s3, .va told5, .ow s7, .va p9.1, .va p9.2.1, .va p9.2.2, .va ahead16, .va k8]) rfl (ds_put 6 rfl rfl (by first | exact .inl rfl | exact .inr (.inl rfl) | exact .inr (.inr rfl)) (dx_ifExp (dt_truth (dx_va 10 rfl rfl (by first | exact .inl rfl | exact .inr (.inl rfl) | exact .inr (.inr rfl)))) (dx_va 5 rfl rfl (by first | exact .inl rfl | exact .inr (.inl rfl) | exact .inr (.inr rfl))) (dx_revT (dx_va 5 rfl rfl (by first | exact .inl rfl | exact .inr (.inl rfl) | exact .inr (.inr rfl))))) (dx_va 11 rfl rfl (by first | exact .inl rfl | exact .inr (.inl rfl) | exact .inr (.inr rfl))) fun l17 => (ds_at (ρ' := [.po, .va a_names, .va a_matches, .va a_results, .va s3, .va told5, .ow l17, .va p9.1, .va p9.2.1, .va p9.2.2, .va ahead16, .va k8]) rfl (ds_nil rfl (And.intro rfl (And.intro rfl (And.intro rfl (And.intro rfl (And.intro rfl (And.intro rfl (And.intro rfl (And.intro trivial (And.intro trivial (And.intro trivial (And.intro trivial (And.intro trivial trivial)))))))))))))))))) (ds_at (ρ' := [.po, .va a_names, .va a_matches, .va a_results, .va s3, .va told5, .ow s7, .va p9.1, .va p9.2.1, .va p9.2.2, .un, .va k8]) rfl (ds_nil rfl (And.intro rfl (And.intro rfl (And.intro rfl (And.intro rfl (And.intro rfl (And.intro rfl (And.intro rfl (And.intro trivial (And.intro trivial (And.intro trivial (And.intro trivial (And.intro trivial trivial))))))))))))))))))) (fun s7 => (ds_at (ρ' := [.po, .va a_names, .va a_matches, .va a_results, .va s3, .va told5, .ow s7, .un, .un, .un, .un, .un]) rfl (ds_frz 6 rfl (ds_ret (dx_va 6 rfl rfl (by first | exact .inl rfl | exact .inr (.inl rfl) | exact .inr (.inr rfl))))))))))))))))))
/-! ### _law_table -/
abbrev s_law_table : Stmt := top 27
def N_law_table : List Str := [("pool" : Str), ("most_sides" : Str), ("goals" : Str), ("opens" : Str), ("names" : Str), ("matches" : Str), ("results" : Str), ("match" : Str)]
theorem sc_law_table : FnScope N_law_table [("pool" : Str), ("most_sides" : Str), ("goals" : Str), ("opens" : Str)] (defScope s_law_table) := ⟨rfl, rfl, rfl, by decide +kernel, rfl, by decide +kernel, by decide +kernel⟩
def m_law_table (a_most_sides : D) (a_goals : D) (a_opens : D) : T D := (((T.b2 addD (T.ret (.int 2)) ((T.b2 subD (T.ret a_most_sides) (T.ret (.int 1))).bind drawD)).bind m_law_names).bind fun names1 => (((T.ret names1).bind fun a => (T.b2 addD (T.ret (.int 1)) ((T.ret (.int 2)).bind drawD)).bind fun b => m_law_matches a b).bind fun matches2 => ((((T.b2 eqD ((T.ret (.int 4)).bind drawD) (T.ret (.int 0))).bind fun k => if k then ((lcT ((T.ret matches2).bind itemsL) some (fun match5 => (T.b2 gtD ((T.ret (.int 5)).bind drawD) (T.ret (.int 0)))) fun match5 => (T.ret match5)).bind fun matches4 => (T.ret (.list matches4))) else (T.ret matches2)) : T (D)).bind fun s3 => (((T.ret s3).bind fun a => (T.ret a_goals).bind fun b => (T.ret a_opens).bind fun c => m_law_results a b c).bind fun results6 => (nextD.bind fun z7 => ((((T.b2 eqD ((T.ret (.int 3)).bind drawD) (T.ret (.int 0))).bind fun k => if k then (((T.ret names1).bind fun a => (T.ret s3).bind fun b => (T.ret results6).bind fun c => m_law_ring a b c).bind fun results9 => (T.ret results9)) else (T.ret results6)) : T (D)).bind fun s8 => ((T.ret (.str ("table" : Str))).bind fun a => ((T.ret (.str ("fixtures" : Str))).bind fun a => (T.ret names1).bind fun b => ((T.ret s3).bind tupleD).bind fun c => T.ret (.tuple [a, b, c])).bind fun b => ((T.ret s8).bind tupleD).bind fun c => T.ret (.tuple [a, b, c]))))))))
theorem d_law_table (G : Gs K mg) (F_law_draw : Fd P w K mg 3 ("_law_draw" : Str) (spP K 1 (ar1 drawD))) (F_law_matches : Fd P w K mg 1 ("_law_matches" : Str) (spI K 2 (ar2 m_law_matches))) (F_law_names : Fd P w K mg 1 ("_law_names" : Str) (spI K 1 (ar1 m_law_names))) (F_law_next : Fd P w K mg 3 ("_law_next" : Str) (spP K 0 (ar0 nextD))) (F_law_results : Fd P w K mg 5 ("_law_results" : Str) (spP K 3 (ar3 m_law_results))) (F_law_ring : Fd P w K mg 5 ("_law_ring" : Str) (spP K 3 (ar3 m_law_ring))) : ∀ A a ds, Room 5 A → ds.length = 3 → DS (bodyX P w K mg A N_law_table s_law_table) (some a) ((argSl N_law_table (.none :: ds)).set 0 .po) (defBody s_law_table) (ar3 m_law_table ds) En.rt := fun A q ds hr hl => match ds, hl with
  | [a_most_sides, a_goals, a_opens], _ => by
    have nd : (N_law_table).Nodup := by decide +kernel
    exact (ds_at (ρ' := [.po, .va a_most_sides, .va a_goals, .va a_opens, .un, .un, .un, .un]) rfl (ds_asg (i := 4) (dxa nd rfl (by first | exact .inl rfl | exact .inr rfl) (dx_call1 F_law_names (hr.mono (by decide)) (by rfl) (dx_op do_add dx_int (dx_callP1 0 F_law_draw (hr.mono (by decide)) (by rfl) rfl rfl (by first | exact .inl rfl | exact .inr (.inl rfl) | exact .inr (.inr rfl)) (dx_op do_sub (dx_va 1 rfl rfl (by first | exact .inl rfl | exact .inr (.inl rfl) | exact .inr (.inr rfl))) dx_int))))) fun names1 => (ds_at (ρ' := [.po, .va a_most_sides, .va a_goals, .va a_opens, .va names1, .un, .un, .un]) rfl (ds_asg (i := 5) (dxa nd rfl (by first | exact .inl rfl | exact .inr rfl) (dx_call2 F_law_matches (hr.mono (by decide)) (by rfl) (dx_va 4 rfl rfl (by first | exact .inl rfl | exact .inr (.inl rfl) | exact .inr (.inr rfl))) (dx_op do_add dx_int (dx_callP1 0 F_law_draw (hr.mono (by decide)) (by rfl) rfl rfl (by first | exact .inl rfl | exact .inr (.inl rfl) | exact .inr (.inr rfl)) dx_int)))) fun matches2 => (ds_at (ρ' := [.po, .va a_most_sides, .va a_goals, .va a_opens, .va names1, .va matches2, .un, .un]) rfl (ds_ifj (S := D) (env := fun s3 => [.po, .va a_most_sides, .va a_goals, .va a_opens, .va names1, .va s3, .un, .un]) (dt_cmp (do_eq (r64 hr)) (dx_callP1 0 F_law_draw (hr.mono (by decide)) (by rfl) rfl rfl (by first | exact .inl rfl | exact .inr (.inl rfl) | exact .inr (.inr rfl)) dx_int) dx_int (by first | exact nomark _ | rfl | with_unfolding_all rfl)) (ds_at (ρ' := [.po, .va a_most_sides, .va a_goals, .va a_opens, .va names1, .va matches2, .un, .un]) rfl (ds_own (i := 5) (dfa_lc nd rfl rfl rfl (own := [(("match" : Str), 7)]) (di := (di_list (dx_va 5 rfl rfl (by first | exact .inl rfl | exact .inr (.inl rfl) | exact .inr (.inr rfl))))) (bk := by dsimp only [bodyX, bodyXE, Ctx.blk]; decide +kernel) (dg := (dg_nm 7 nd rfl (by first | exact .inl rfl | exact .inr rfl))) (hix := by decide) (hc := fun match5 => (dts_one (dt_cmp do_gt (dx_callP1 0 F_law_draw (hr.mono (by decide)) (by rfl) rfl rfl (by first | exact .inl rfl | exact .inr (.inl rfl) | exact .inr (.inr rfl)) dx_int) dx_int (by first | exact nomark _ | rfl | with_unfolding_all rfl)))) (he := fun match5 => (dx_va 7 rfl rfl (by first | exact .inl rfl | exact .inr (.inl rfl) | exact .inr (.inr rfl))))) fun matches4 => (ds_at (ρ' := [.po, .va a_most_sides, .va a_goals, .va a_opens, .va names1, .ow matches4, .un, .un]) rfl (ds_frz 5 rfl (ds_nil rfl (And.intro rfl (And.intro rfl (And.intro rfl (And.intro rfl (And.intro rfl (And.intro rfl (And.intro trivial (And.intro trivial trivial))))))))))))) (ds_at (ρ' := [.po, .va a_most_sides, .va a_goals, .va a_opens, .va names1, .va matches2, .un, .un]) rfl (ds_nil rfl (And.intro rfl (And.intro rfl (And.intro rfl (And.intro rfl (And.intro rfl (And.intro rfl (And.intro trivial (And.intro trivial trivial)))))))))) fun s3 => (ds_at (ρ' := [.po, .va a_most_sides, .va a_goals, .va a_opens, .va names1, .va s3, .un, .un]) rfl (ds_asg (i := 6) (dxa nd rfl (by first | exact .inl rfl | exact .inr rfl) (dx_callP3 0 F_law_results (hr.mono (by decide)) (by rfl) rfl rfl (by first | exact .inl rfl | exact .inr (.inl rfl) | exact .inr (.inr rfl)) (dx_va 5 rfl rfl (by first | exact .inl rfl | exact .inr (.inl rfl) | exact .inr (.inr rfl))) (dx_va 2 rfl rfl (by first | exact .inl rfl | exact .inr (.inl rfl) | exact .inr (.inr rfl))) (dx_va 3 rfl rfl (by first | exact .inl rfl | exact .inr (.inl rfl) | exact .inr (.inr rfl))))) fun results6 => (ds_at (ρ' := [.po, .va a_most_sides, .va a_goals, .va a_opens, .va names1, .va s3, .va results6, .un]) rfl (ds_expr (dx_callP0 0 F_law_next (hr.mono (by decide)) (by rfl) rfl rfl (by first | exact .inl rfl | exact .inr (.inl rfl) | exact .inr (.inr rfl))) fun z7 => (ds_at (ρ' := [.po, .va a_most_sides, .va a_goals, .va a_opens, .va names1, .va s3, .va results6, .un]) rfl (ds_ifj (S := D) (env := fun s8 => [.po, .va a_most_sides, .va a_goals, .va a_opens, .va names1, .va s3, .va s8, .un]) (dt_cmp (do_eq (r64 hr)) (dx_callP1 0 F_law_draw (hr.mono (by decide)) (by rfl) rfl rfl (by first | exact .inl rfl | exact .inr (.inl rfl) | exact .inr (.inr rfl)) dx_int) dx_int (by first | exact nomark _ | rfl | with_unfolding_all rfl)) (ds_at (ρ' := [.po, .va a_most_sides, .va a_goals, .va a_opens, .va names1, .va s3, .va results6, .un]) rfl (ds_asg (i := 6) (dxa nd rfl (by first | exact .inl rfl | exact .inr rfl) (dx_callP3 0 F_law_ring (hr.mono (by decide)) (by rfl) rfl rfl (by first | exact .inl rfl | exact .inr (.inl rfl) | exact .inr (.inr rfl)) (dx_va 4 rfl rfl (by first | exact .inl rfl | exact .inr (.inl rfl) | exact .inr (.inr rfl))) (dx_va 5 rfl rfl (by first | exact .inl rfl | exact .inr (.inl rfl) | exact .inr (.inr rfl))) (dx_va 6 rfl rfl (by first | exact .inl rfl | exact .inr (.inl rfl) | exact .inr (.inr rfl))))) fun results9 => (ds_at (ρ' := [.po, .va a_most_sides, .va a_goals, .va a_opens, .va names1, .va s3, .va results9, .un]) rfl (ds_nil rfl (And.intro rfl (And.intro rfl (And.intro rfl (And.intro rfl (And.intro rfl (And.intro rfl (And.intro rfl (And.intro trivial trivial)))))))))))) (ds_at (ρ' := [.po, .va a_most_sides, .va a_goals, .va a_opens, .va names1, .va s3, .va results6, .un]) rfl (ds_nil rfl (And.intro rfl (And.intro rfl (And.intro rfl (And.intro rfl (And.intro rfl (And.intro rfl (And.intro rfl (And.intro trivial trivial)))))))))) fun s8 => (ds_at (ρ' := [.po, .va a_most_sides, .va a_goals, .va a_opens, .va names1, .va s3, .va s8, .un]) rfl (ds_ret (dx_tup3 dx_str (dx_tup3 dx_str (dx_va 4 rfl rfl (by first | exact .inl rfl | exact .inr (.inl rfl) | exact .inr (.inr rfl))) (dx_ty1 dc_tuple (by rfl) G.b_tuple boot_tuple (dx_va 5 rfl rfl (by first | exact .inl rfl | exact .inr (.inl rfl) | exact .inr (.inr rfl))))) (dx_ty1 dc_tuple (by rfl) G.b_tuple boot_tuple (dx_va 6 rfl rfl (by first | exact .inl rfl | exact .inr (.inl rfl) | exact .inr (.inr rfl)))))))))))))))))))
/-! ### _law_keys_drawn -/
abbrev s_law_keys_drawn : Stmt := top 28
def N_law_keys_drawn : List Str := [("pool" : Str), ("most" : Str), ("every" : Str), ("measure" : Str), ("found" : Str), ("key" : Str), ("turn" : Str)]
theorem sc_law_keys_drawn : FnScope N_law_keys_drawn [("pool" : Str), ("most" : Str)] (defScope s_law_keys_drawn) := ⟨rfl, rfl, rfl, by decide +kernel, rfl, by decide +kernel, by decide +kernel⟩
def m_law_keys_drawn (a_most : D) : T D := (((T.ret []).bind fun ds => T.ret (.list ds)).bind fun every1 => ((((((T.ret (.str ("points" : Str))).bind fun a => ((T.ret (.str ("difference" : Str))).bind fun a => ((T.ret (.str ("goals" : Str))).bind fun a => ((T.ret (.str ("wins" : Str))).bind fun a => ((T.ret (.str ("taken" : Str))).bind fun a => ((T.ret (.str ("awaygoals" : Str))).bind fun a => ((T.ret (.str ("awaywins" : Str))).bind fun a => (T.ret []).bind fun as => T.ret (a :: as)).bind fun as => T.ret (a :: as)).bind fun as => T.ret (a :: as)).bind fun as => T.ret (a :: as)).bind fun as => T.ret (a :: as)).bind fun as => T.ret (a :: as)).bind fun as => T.ret (a :: as)).bind fun ds => T.chk ds.length (T.ret ds)).bind fun ds => T.ret (.list ds)).bind itemsL).bind fun ds => (T.foldM (fun d (s2 : D) => (T.opt (some d)).bind fun measure3 => (((T.b2 catD (T.ret s2) ((((T.ret measure3).bind fun a => (T.ret (.str ("all" : Str))).bind fun b => T.ret (.tuple [a, b])).bind fun a => ((T.ret measure3).bind fun a => (T.ret (.str ("among" : Str))).bind fun b => T.ret (.tuple [a, b])).bind fun b => T.ret [a, b]).bind fun ds => T.ret (.list ds))).bind fun ds => T.ret (.list ds)).bind fun every4 => (T.ret every4))) ds every1).bind fun s2 => (((T.b2 gtD ((T.ret (.int 3)).bind drawD) (T.ret (.int 0))).bind fun k => if k then (((T.ret (.str ("points" : Str))).bind fun a => (T.ret (.str ("all" : Str))).bind fun b => T.ret (.tuple [a, b])).bind fun a => T.ret [a]) else (T.ret [])).bind fun found5 => (((T.b2 addD (T.ret (.int 1)) ((T.ret a_most).bind drawD)).bind range1).bind fun ds => (T.foldM (fun d (s6 : List D) => (T.opt (some d)).bind fun turn7 => ((T.b2 ixD (T.ret s2) (((T.ret (.int 14)).bind drawD).bind fun a => ((T.ret (.int 14)).bind drawD).bind fun b => min2D [a, b])).bind fun key8 => (((T.ret key8).bind fun d => ninL s6 d).bind fun k => if k then ((T.ret key8).bind fun e9 => T.chk (List.length (α := D) s6) (T.ret (s6 ++ [e9]))) else (T.ret s6)))) ds found5).bind fun s6 => ((T.ret (.list s6)).bind tupleD)))))
theorem d_law_keys_drawn (G : Gs K mg) (F_law_draw : Fd P w K mg 3 ("_law_draw" : Str) (spP K 1 (ar1 drawD))) : ∀ A a ds, Room 3 A → ds.length = 1 → DS (bodyX P w K mg A N_law_keys_drawn s_law_keys_drawn) (some a) ((argSl N_law_keys_drawn (.none :: ds)).set 0 .po) (defBody s_law_keys_drawn) (ar1 m_law_keys_drawn ds) En.rt := fun A q ds hr hl => match ds, hl with
  | [a_most], _ => by
    have nd : (N_law_keys_drawn).Nodup := by decide +kernel
    exact (ds_at (ρ' := [.po, .va a_most, .un, .un, .un, .un, .un]) rfl (ds_asg (i := 2) (dxa nd rfl (by first | exact .inl rfl | exact .inr rfl) (dx_of_df df_lst0)) fun every1 => (ds_at (ρ' := [.po, .va a_most, .va every1, .un, .un, .un, .un]) rfl (ds_forN (S := D) (η := fun s2 => [.po, .va a_most, .va s2, .un, .un, .un, .un]) (s0 := every1) (di_list (dx_of_df (df_lst (da_cons dx_str (da_cons dx_str (da_cons dx_str (da_cons dx_str (da_cons dx_str (da_cons dx_str (da_cons dx_str da_nil)))))))))) (And.intro rfl (And.intro rfl (And.intro rfl (And.intro trivial (And.intro trivial (And.intro trivial (And.intro trivial trivial))))))) (fun s2 => (dg_nm 3 nd rfl (by first | exact .inl rfl | exact .inr rfl))) (fun s2 measure3 => (ds_at (ρ' := [.po, .va a_most, .va s2, .va measure3, .un, .un, .un]) rfl (ds_asg (i := 2) (dxa nd rfl (by first | exact .inl rfl | exact .inr rfl) (dx_of_df (df_cat (dx_va 2 rfl rfl (by first | exact .inl rfl | exact .inr (.inl rfl) | exact .inr (.inr rfl))) (dx_of_df (df_lst2 (dx_tup2 (dx_va 3 rfl rfl (by first | exact .inl rfl | exact .inr (.inl rfl) | exact .inr (.inr rfl))) dx_str) (dx_tup2 (dx_va 3 rfl rfl (by first | exact .inl rfl | exact .inr (.inl rfl) | exact .inr (.inr rfl))) dx_str)))))) fun every4 => (ds_at (ρ' := [.po, .va a_most, .va every4, .va measure3, .un, .un, .un]) rfl (ds_nil rfl (And.intro rfl (And.intro rfl (And.intro rfl (And.intro trivial (And.intro trivial (And.intro trivial (And.intro trivial trivial)))))))))))) (fun s2 => (ds_at (ρ' := [.po, .va a_most, .va s2, .un, .un, .un, .un]) rfl (ds_own (i := 4) (dfa nd rfl (by first | exact .inl rfl | exact .inr rfl) (df_if (dt_cmp do_gt (dx_callP1 0 F_law_draw (hr.mono (by decide)) (by rfl) rfl rfl (by first | exact .inl rfl | exact .inr (.inl rfl) | exact .inr (.inr rfl)) dx_int) dx_int (by first | exact nomark _ | rfl | with_unfolding_all rfl)) (df_lst1 (dx_tup2 dx_str dx_str)) df_lst0)) fun found5 => (ds_at (ρ' := [.po, .va a_most, .va s2, .un, .ow found5, .un, .un]) rfl (ds_forN (S := List D) (η := fun s6 => [.po, .va a_most, .va s2, .un, .ow s6, .un, .un]) (s0 := found5) (di_range1 (by rfl) G.b_range (dx_op do_add dx_int (dx_callP1 0 F_law_draw (hr.mono (by decide)) (by rfl) rfl rfl (by first | exact .inl rfl | exact .inr (.inl rfl) | exact .inr (.inr rfl)) (dx_va 1 rfl rfl (by first | exact .inl rfl | exact .inr (.inl rfl) | exact .inr (.inr rfl)))))) (And.intro rfl (And.intro rfl (And.intro rfl (And.intro trivial (And.intro rfl (And.intro trivial (And.intro trivial trivial))))))) (fun s6 => (dg_nm 6 nd rfl (by first | exact .inl rfl | exact .inr rfl))) (fun s6 turn7 => (ds_at (ρ' := [.po, .va a_most, .va s2, .un, .ow s6, .un, .va turn7]) rfl (ds_asg (i := 5) (dxa nd rfl (by first | exact .inl rfl | exact .inr rfl) (dx_ix (dx_va 2 rfl rfl (by first | exact .inl rfl | exact .inr (.inl rfl) | exact .inr (.inr rfl))) (dx_min2 (by rfl) G.b_min (dx_callP1 0 F_law_draw (hr.mono (by decide)) (by rfl) rfl rfl (by first | exact .inl rfl | exact .inr (.inl rfl) | exact .inr (.inr rfl)) dx_int) (dx_callP1 0 F_law_draw (hr.mono (by decide)) (by rfl) rfl rfl (by first | exact .inl rfl | exact .inr (.inl rfl) | exact .inr (.inr rfl)) dx_int)))) fun key8 => (ds_at (ρ' := [.po, .va a_most, .va s2, .un, .ow s6, .va key8, .va turn7]) rfl (ds_ite (dt_ninOw 4 (r65 hr) rfl rfl (by first | exact .inl rfl | exact .inr (.inl rfl) | exact .inr (.inr rfl)) (dx_va 5 rfl rfl (by first | exact .inl rfl | exact .inr (.inl rfl) | exact .inr (.inr rfl)))) (ds_at (ρ' := [.po, .va a_most, .va s2, .un, .ow s6, .va key8, .va turn7]) rfl (ds_app 4 rfl rfl (by first | exact .inl rfl | exact .inr (.inl rfl) | exact .inr (.inr rfl)) (dx_va 5 rfl rfl (by first | exact .inl rfl | exact .inr (.inl rfl) | exact .inr (.inr rfl))) fun e9 => (ds_at (ρ' := [.po, .va a_most, .va s2, .un, .ow (s6 ++ [e9]), .va key8, .va turn7]) rfl (ds_nil rfl (And.intro rfl (And.intro rfl (And.intro rfl (And.intro trivial (And.intro rfl (And.intro trivial (And.intro trivial trivial))))))))))) (ds_at (ρ' := [.po, .va a_most, .va s2, .un, .ow s6, .va key8, .va turn7]) rfl (ds_nil rfl (And.intro rfl (And.intro rfl (And.intro rfl (And.intro trivial (And.intro rfl (And.intro trivial (And.intro trivial trivial)))))))))))))) (fun s6 => (ds_at (ρ' := [.po, .va a_most, .va s2, .un, .ow s6, .un, .un]) rfl (ds_frz 4 rfl (ds_ret (dx_ty1 dc_tuple (by rfl) G.b_tuple boot_tuple (dx_va 4 rfl rfl (by first | exact .inl rfl | exact .inr (.inl rfl) | exact .inr (.inr rfl)))))))))))))))))
/-! ### _law_book -/
abbrev s_law_book : Stmt := top 29
def N_law_book : List Str := [("pool" : Str), ("most" : Str), ("points" : Str)]
theorem sc_law_book : FnScope N_law_book [("pool" : Str), ("most" : Str)] (defScope s_law_book) := ⟨rfl, rfl, rfl, by decide +kernel, rfl, by decide +kernel, by decide +kernel⟩
def m_law_book (a_most : D) : T D := (((((((T.ret (.int 3)).bind fun a => (T.ret (.int 1)).bind fun b => (T.ret (.int 0)).bind fun c => T.ret (.tuple [a, b, c])).bind fun a => (((T.ret (.int 2)).bind fun a => (T.ret (.int 1)).bind fun b => (T.ret (.int 0)).bind fun c => T.ret (.tuple [a, b, c])).bind fun a => (((T.ret (.int 3)).bind fun a => (T.ret (.int 1)).bind fun b => (T.ret (.int 0)).bind fun c => T.ret (.tuple [a, b, c])).bind fun a => (((T.ret (.int 1)).bind fun a => (T.ret (.int 0)).bind fun b => (T.ret (.int 0)).bind fun c => T.ret (.tuple [a, b, c])).bind fun a => (((T.ret (.int 3)).bind fun a => (T.ret (.int 3)).bind fun b => (T.ret (.int 0)).bind fun c => T.ret (.tuple [a, b, c])).bind fun a => (((T.ret (.int 0)).bind fun a => (T.ret (.int 0)).bind fun b => (T.ret (.int 0)).bind fun c => T.ret (.tuple [a, b, c])).bind fun a => (T.ret []).bind fun as => T.ret (a :: as)).bind fun as => T.ret (a :: as)).bind fun as => T.ret (a :: as)).bind fun as => T.ret (a :: as)).bind fun as => T.ret (a :: as)).bind fun as => T.ret (a :: as)).bind fun ds => T.chk ds.length (T.ret ds)).bind fun ds => T.ret (.list ds)).bind m_law_pick).bind fun points1 => ((T.ret (.str ("book" : Str))).bind fun a => (T.ret points1).bind fun b => ((T.ret a_most).bind m_law_keys_drawn).bind fun c => ((((T.ret (.str ("anew" : Str))).bind fun a => (T.ret (.str ("on" : Str))).bind fun b => T.ret [a, b]).bind fun ds => T.ret (.list ds)).bind m_law_pick).bind fun d => T.ret (.tuple [a, b, c, d])))
theorem d_law_book (G : Gs K mg) (F_law_keys_drawn : Fd P w K mg 4 ("_law_keys_drawn" : Str) (spP K 1 (ar1 m_law_keys_drawn))) (F_law_pick : Fd P w K mg 4 ("_law_pick" : Str) (spP K 1 (ar1 m_law_pick))) : ∀ A a ds, Room 4 A → ds.length = 1 → DS (bodyX P w K mg A N_law_book s_law_book) (some a) ((argSl N_law_book (.none :: ds)).set 0 .po) (defBody s_law_book) (ar1 m_law_book ds) En.rt := fun A q ds hr hl => match ds, hl with
  | [a_most], _ => by
    have nd : (N_law_book).Nodup := by decide +kernel
    exact (ds_at (ρ' := [.po, .va a_most, .un]) rfl (ds_asg (i := 2) (dxa nd rfl (by first | exact .inl rfl | exact .inr rfl) (dx_callP1 0 F_law_pick (hr.mono (by decide)) (by rfl) rfl rfl (by first | exact .inl rfl | exact .inr (.inl rfl) | exact .inr (.inr rfl)) (dx_of_df (df_lst (da_cons (dx_tup3 dx_int dx_int dx_int) (da_cons (dx_tup3 dx_int dx_int dx_int) (da_cons (dx_tup3 dx_int dx_int dx_int) (da_cons (dx_tup3 dx_int dx_int dx_int) (da_cons (dx_tup3 dx_int dx_int dx_int) (da_cons (dx_tup3 dx_int dx_int dx_int) da_nil)))))))))) fun points1 => (ds_at (ρ' := [.po, .va a_most, .va points1]) rfl (ds_ret (dx_tup4 dx_str (dx_va 2 rfl rfl (by first | exact .inl rfl | exact .inr (.inl rfl) | exact .inr (.inr rfl))) (dx_callP1 0 F_law_keys_drawn (hr.mono (by decide)) (by rfl) rfl rfl (by first | exact .inl rfl | exact .inr (.inl rfl) | exact .inr (.inr rfl)) (dx_va 1 rfl rfl (by first | exact .inl rfl | exact .inr (.inl rfl) | exact .inr (.inr rfl)))) (dx_callP1 0 F_law_pick (hr.mono (by decide)) (by rfl) rfl rfl (by first | exact .inl rfl | exact .inr (.inl rfl) | exact .inr (.inr rfl)) (dx_of_df (df_lst2 dx_str dx_str))))))))
/-! ### _law_struck -/
abbrev s_law_struck : Stmt := top 30
def N_law_struck : List Str := [("pool" : Str), ("names" : Str), ("name" : Str)]
theorem sc_law_struck : FnScope N_law_struck [("pool" : Str), ("names" : Str)] (defScope s_law_struck) := ⟨rfl, rfl, rfl, by decide +kernel, rfl, by decide +kernel, by decide +kernel⟩
def m_law_struck (a_names : D) : T D := ((T.b2 gtD ((T.ret (.int 3)).bind drawD) (T.ret (.int 0))).bind fun k => if k then (T.ret (.tuple [])) else (((lcT ((T.ret a_names).bind itemsT) some (fun name1 => (T.b2 eqD ((T.ret (.int 2)).bind drawD) (T.ret (.int 0)))) fun name1 => ((T.ret name1).bind fun a => (T.b2 addD (T.ret (.int 1)) ((T.ret (.int 4)).bind drawD)).bind fun b => T.ret (.tuple [a, b]))).bind fun ds => T.ret (.list ds)).bind tupleD))
theorem d_law_struck (G : Gs K mg) (F_law_draw : Fd P w K mg 3 ("_law_draw" : Str) (spP K 1 (ar1 drawD))) : ∀ A a ds, Room 3 A → ds.length = 1 → DS (bodyX P w K mg A N_law_struck s_law_struck) (some a) ((argSl N_law_struck (.none :: ds)).set 0 .po) (defBody s_law_struck) (ar1 m_law_struck ds) En.rt := fun A q ds hr hl => match ds, hl with
  | [a_names], _ => by
    have nd : (N_law_struck).Nodup := by decide +kernel
    exact (ds_at (ρ' := [.po, .va a_names, .un]) rfl (ds_ifr (dt_cmp do_gt (dx_callP1 0 F_law_draw (hr.mono (by decide)) (by rfl) rfl rfl (by first | exact .inl rfl | exact .inr (.inl rfl) | exact .inr (.inr rfl)) dx_int) dx_int (by first | exact nomark _ | rfl | with_unfolding_all rfl)) (ds_at (ρ' := [.po, .va a_names, .un]) rfl (ds_ret dx_tup0)) (ds_at (ρ' := [.po, .va a_names, .un]) rfl (ds_ret (dx_ty1 dc_tuple (by rfl) G.b_tuple boot_tuple (dx_of_df (df_lc (own := [(("name" : Str), 2)]) nd (di_tup (dx_va 1 rfl rfl (by first | exact .inl rfl | exact .inr (.inl rfl) | exact .inr (.inr rfl)))) (by dsimp only [bodyX, bodyXE, Ctx.blk]; decide +kernel) (dg_nm 2 nd rfl (by first | exact .inl rfl | exact .inr rfl)) (by decide) (fun name1 => (dts_one (dt_cmp (do_eq (r64 hr)) (dx_callP1 0 F_law_draw (hr.mono (by decide)) (by rfl) rfl rfl (by first | exact .inl rfl | exact .inr (.inl rfl) | exact .inr (.inr rfl)) dx_int) dx_int (by first | exact nomark _ | rfl | with_unfolding_all rfl)))) fun name1 => (dx_tup2 (dx_va 2 rfl rfl (by first | exact .inl rfl | exact .inr (.inl rfl) | exact .inr (.inr rfl))) (dx_op do_add dx_int (dx_callP1 0 F_law_draw (hr.mono (by decide)) (by rfl) rfl rfl (by first | exact .inl rfl | exact .inr (.inl rfl) | exact .inr (.inr rfl)) dx_int))))))))))
/-! ### _law_share -/
abbrev s_law_share : Stmt := top 31
def N_law_share : List Str := [("points" : Str), ("measure" : Str), ("own" : Str), ("other" : Str), ("away" : Str)]
theorem sc_law_share : FnScope N_law_share [("points" : Str), ("measure" : Str), ("own" : Str), ("other" : Str), ("away" : Str)] (defScope s_law_share) := ⟨rfl, rfl, rfl, by decide +kernel, rfl, by decide +kernel, by decide +kernel⟩
def m_law_share (a_points : D) (a_measure : D) (a_own : D) (a_other : D) (a_away : D) : T D := ((T.b2 eqD (T.ret a_measure) (T.ret (.str ("points" : Str)))).bind fun k => if k then ((T.b2 gtD (T.ret a_own) (T.ret a_other)).bind fun k => if k then (T.b2 ixD (T.ret a_points) (T.ret (.int 0))) else ((T.b2 eqD (T.ret a_own) (T.ret a_other)).bind fun k => if k then (T.b2 ixD (T.ret a_points) (T.ret (.int 1))) else (T.b2 ixD (T.ret a_points) (T.ret (.int 2))))) else ((T.b2 eqD (T.ret a_measure) (T.ret (.str ("wins" : Str)))).bind fun k => if k then ((T.b2 gtD (T.ret a_own) (T.ret a_other)).bind fun k => if k then (T.ret (.int 1)) else (T.ret (.int 0))) else ((T.b2 eqD (T.ret a_measure) (T.ret (.str ("awaywins" : Str)))).bind fun k => if k then ((andT ((T.ret a_away).bind truth) (T.b2 gtD (T.ret a_own) (T.ret a_other))).bind fun k => if k then (T.ret (.int 1)) else (T.ret (.int 0))) else ((T.b2 eqD (T.ret a_measure) (T.ret (.str ("difference" : Str)))).bind fun k => if k then (T.b2 subD (T.ret a_own) (T.ret a_other)) else ((T.b2 eqD (T.ret a_measure) (T.ret (.str ("taken" : Str)))).bind fun k => if k then (T.ret a_other) else ((orT (T.b2 eqD (T.ret a_measure) (T.ret (.str ("goals" : Str)))) ((T.ret a_away).bind truth)).bind fun k => if k then (T.ret a_own) else (T.ret (.int 0))))))))
theorem d_law_share (G : Gs K mg) : ∀ A q ds, Room 0 A → ds.length = 5 → DS (bodyX P w K mg A N_law_share s_law_share) q (argSl N_law_share ds) (defBody s_law_share) (ar5 m_law_share ds) En.rt := fun A q ds hr hl => match ds, hl with
  | [a_points, a_measure, a_own, a_other, a_away], _ => by
    have nd : (N_law_share).Nodup := by decide +kernel
    exact (ds_at (ρ' := [.va a_points, .va a_measure, .va a_own, .va a_other, .va a_away]) rfl (ds_ifr (dt_cmp (do_eq (r64 hr)) (dx_va 1 rfl rfl (by first | exact .inl rfl | exact .inr (.inl rfl) | exact .inr (.inr rfl))) dx_str (by first | exact nomark _ | rfl | with_unfolding_all rfl)) (ds_at (ρ' := [.va a_points, .va a_measure, .va a_own, .va a_other, .va a_away]) rfl (ds_ret (dx_ifExp (dt_cmp do_gt (dx_va 2 rfl rfl (by first | exact .inl rfl | exact .inr (.inl rfl) | exact .inr (.inr rfl))) (dx_va 3 rfl rfl (by first | exact .inl rfl | exact .inr (.inl rfl) | exact .inr (.inr rfl))) (by first | exact nomark _ | rfl | with_unfolding_all rfl)) (dx_ix (dx_va 0 rfl rfl (by first | exact .inl rfl | exact .inr (.inl rfl) | exact .inr (.inr rfl))) dx_int) (dx_ifExp (dt_cmp (do_eq (r64 hr)) (dx_va 2 rfl rfl (by first | exact .inl rfl | exact .inr (.inl rfl) | exact .inr (.inr rfl))) (dx_va 3 rfl rfl (by first | exact .inl rfl | exact .inr (.inl rfl) | exact .inr (.inr rfl))) (by first | exact nomark _ | rfl | with_unfolding_all rfl)) (dx_ix (dx_va 0 rfl rfl (by first | exact .inl rfl | exact .inr (.inl rfl) | exact .inr (.inr rfl))) dx_int) (dx_ix (dx_va 0 rfl rfl (by first | exact .inl rfl | exact .inr (.inl rfl) | exact .inr (.inr rfl))) dx_int))))) (ds_at (ρ' := [.va a_points, .va a_measure, .va a_own, .va a_other, .va a_away]) rfl (ds_ifr (dt_cmp (do_eq (r64 hr)) (dx_va 1 rfl rfl (by first | exact .inl rfl | exact .inr (.inl rfl) | exact .inr (.inr rfl))) dx_str (by first | exact nomark _ | rfl | with_unfolding_all rfl)) (ds_at (ρ' := [.va a_points, .va a_measure, .va a_own, .va a_other, .va a_away]) rfl (ds_ret (dx_ifExp (dt_cmp do_gt (dx_va 2 rfl rfl (by first | exact .inl rfl | exact .inr (.inl rfl) | exact .inr (.inr rfl))) (dx_va 3 rfl rfl (by first | exact .inl rfl | exact .inr (.inl rfl) | exact .inr (.inr rfl))) (by first | exact nomark _ | rfl | with_unfolding_all rfl)) dx_int dx_int))) (ds_at (ρ' := [.va a_points, .va a_measure, .va a_own, .va a_other, .va a_away]) rfl (ds_ifr (dt_cmp (do_eq (r64 hr)) (dx_va 1 rfl rfl (by first | exact .inl rfl | exact .inr (.inl rfl) | exact .inr (.inr rfl))) dx_str (by first | exact nomark _ | rfl | with_unfolding_all rfl)) (ds_at (ρ' := [.va a_points, .va a_measure, .va a_own, .va a_other, .va a_away]) rfl (ds_ret (dx_ifExp (dt_of_dw (dw_and (dt_truth (dx_va 4 rfl rfl (by first | exact .inl rfl | exact .inr (.inl rfl) | exact .inr (.inr rfl)))) (dw_and1 (dt_cmp do_gt (dx_va 2 rfl rfl (by first | exact .inl rfl | exact .inr (.inl rfl) | exact .inr (.inr rfl))) (dx_va 3 rfl rfl (by first | exact .inl rfl | exact .inr (.inl rfl) | exact .inr (.inr rfl))) (by first | exact nomark _ | rfl | with_unfolding_all rfl))))) dx_int dx_int))) (ds_at (ρ' := [.va a_points, .va a_measure, .va a_own, .va a_other, .va a_away]) rfl (ds_ifr (dt_cmp (do_eq (r64 hr)) (dx_va 1 rfl rfl (by first | exact .inl rfl | exact .inr (.inl rfl) | exact .inr (.inr rfl))) dx_str (by first | exact nomark _ | rfl | with_unfolding_all rfl)) (ds_at (ρ' := [.va a_points, .va a_measure, .va a_own, .va a_other, .va a_away]) rfl (ds_ret (dx_op do_sub (dx_va 2 rfl rfl (by first | exact .inl rfl | exact .inr (.inl rfl) | exact .inr (.inr rfl))) (dx_va 3 rfl rfl (by first | exact .inl rfl | exact .inr (.inl rfl) | exact .inr (.inr rfl)))))) (ds_at (ρ' := [.va a_points, .va a_measure, .va a_own, .va a_other, .va a_away]) rfl (ds_ifr (dt_cmp (do_eq (r64 hr)) (dx_va 1 rfl rfl (by first | exact .inl rfl | exact .inr (.inl rfl) | exact .inr (.inr rfl))) dx_str (by first | exact nomark _ | rfl | with_unfolding_all rfl)) (ds_at (ρ' := [.va a_points, .va a_measure, .va a_own, .va a_other, .va a_away]) rfl (ds_ret (dx_va 3 rfl rfl (by first | exact .inl rfl | exact .inr (.inl rfl) | exact .inr (.inr rfl))))) (ds_at (ρ' := [.va a_points, .va a_measure, .va a_own, .va a_other, .va a_away]) rfl (ds_ret (dx_ifExp (dt_of_dw (dw_or (dt_cmp (do_eq (r64 hr)) (dx_va 1 rfl rfl (by first | exact .inl rfl | exact .inr (.inl rfl) | exact .inr (.inr rfl))) dx_str (by first | exact nomark _ | rfl | with_unfolding_all rfl)) (dw_or1 (dt_truth (dx_va 4 rfl rfl (by first | exact .inl rfl | exact .inr (.inl rfl) | exact .inr (.inr rfl))))))) (dx_va 2 rfl rfl (by first | exact .inl rfl | exact .inr (.inl rfl) | exact .inr (.inr rfl))) dx_int)))))))))))))
/-! ### _law_worth -/
abbrev s_law_worth : Stmt := top 32
def N_law_worth : List Str := [("book" : Str), ("table" : Str), ("lot" : Str), ("key" : Str), ("struck" : Str), ("side" : Str), ("total" : Str), ("home" : Str), ("other" : Str), ("number" : Str), ("told" : Str), ("k" : Str), ("row" : Str)]
theorem sc_law_worth : FnScope N_law_worth [("book" : Str), ("table" : Str), ("lot" : Str), ("key" : Str), ("struck" : Str), ("side" : Str)] (defScope s_law_worth) := ⟨rfl, rfl, rfl, by decide +kernel, rfl, by decide +kernel, by decide +kernel⟩
def m_law_worth (a_book : D) (a_table : D) (a_lot : D) (a_key : D) (a_struck : D) (a_side : D) : T D := ((T.ret (.int 0)).bind fun total1 => ((((T.b2 ixD (T.ret a_table) (T.ret (.int 2))).bind lenD).bind range1).bind fun ds => (T.foldM (fun d (s2 : D) => (T.opt (some d)).bind fun k3 => ((T.b2 ixD (T.b2 ixD (T.b2 ixD (T.ret a_table) (T.ret (.int 1))) (T.ret (.int 2))) (T.ret k3)).bind fun d => (T.opt ((tripO some some some) d)).bind fun p4 => ((T.b2 ixD (T.b2 ixD (T.ret a_table) (T.ret (.int 2))) (T.ret k3)).bind fun told11 => ((andT (T.b2 nisD (T.ret told11) (T.ret .none)) (andT (T.b2 inD (T.ret a_side) (((T.ret p4.1).bind fun a => (T.ret p4.2.1).bind fun b => T.ret [a, b]).bind fun ds => T.ret (.list ds))) (orT (T.b2 eqD (T.b2 ixD (T.ret a_key) (T.ret (.int 1))) (T.ret (.str ("all" : Str)))) (andT (T.b2 inD (T.ret p4.1) (T.ret a_lot)) (T.b2 inD (T.ret p4.2.1) (T.ret a_lot)))))).bind fun k => if k then ((T.b2 addD (T.ret s2) ((T.b2 eqD (T.ret a_side) (T.ret p4.1)).bind fun k => if k then ((T.b2 ixD (T.ret a_book) (T.ret (.int 1))).bind fun a => (T.b2 ixD (T.ret a_key) (T.ret (.int 0))).bind fun b => (T.b2 ixD (T.ret told11) (T.ret (.int 0))).bind fun c => (T.b2 ixD (T.ret told11) (T.ret (.int 1))).bind fun d => (T.ret (.bool false)).bind fun e => m_law_share a b c d e) else ((T.b2 ixD (T.ret a_book) (T.ret (.int 1))).bind fun a => (T.b2 ixD (T.ret a_key) (T.ret (.int 0))).bind fun b => (T.b2 ixD (T.ret told11) (T.ret (.int 1))).bind fun c => (T.b2 ixD (T.ret told11) (T.ret (.int 0))).bind fun d => (T.ret (.bool true)).bind fun e => m_law_share a b c d e))).bind fun total12 => (T.ret total12)) else (T.ret s2))))) ds total1).bind fun s2 => (T.b2 subD (T.ret s2) ((T.b2 eqD (T.ret a_key) ((T.ret (.str ("points" : Str))).bind fun a => (T.ret (.str ("all" : Str))).bind fun b => T.ret (.tuple [a, b]))).bind fun k => if k then (((lcT ((T.ret a_struck).bind itemsT) some (fun row13 => (T.b2 eqD (T.b2 ixD (T.ret row13) (T.ret (.int 0))) (T.ret a_side))) fun row13 => (T.b2 ixD (T.ret row13) (T.ret (.int 1)))).bind fun ds => T.ret (.list ds)).bind sumD) else (T.ret (.int 0))))))
theorem d_law_worth (G : Gs K mg) (F_law_share : Fd P w K mg 1 ("_law_share" : Str) (spI K 5 (ar5 m_law_share))) : ∀ A q ds, Room 1 A → ds.length = 6 → DS (bodyX P w K mg A N_law_worth s_law_worth) q (argSl N_law_worth ds) (defBody s_law_worth) (ar6 m_law_worth ds) En.rt := fun A q ds hr hl => match ds, hl with
  | [a_book, a_table, a_lot, a_key, a_struck, a_side], _ => by
    have nd : (N_law_worth).Nodup := by decide +kernel
    exact (ds_at (ρ' := [.va a_book, .va a_table, .va a_lot, .va a_key, .va a_struck, .va a_side, .un, .un, .un, .un, .un, .un, .un]) rfl (ds_asg (i := 6) (dxa nd rfl (by first | exact .inl rfl | exact .inr rfl) dx_int) fun total1 => (ds_at (ρ' := [.va a_book, .va a_table, .va a_lot, .va a_key, .va a_struck, .va a_side, .va total1, .un, .un, .un, .un, .un, .un]) rfl (ds_forN (S := D) (η := fun s2 => [.va a_book, .va a_table, .va a_lot, .va a_key, .va a_struck, .va a_side, .va s2, .un, .un, .un, .un, .un, .un]) (s0 := total1) (di_range1 (by rfl) G.b_range (dx_b1 dc_len (by rfl) G.b_len PySem.boot_len (dx_ix (dx_va 1 rfl rfl (by first | exact .inl rfl | exact .inr (.inl rfl) | exact .inr (.inr rfl))) dx_int))) (And.intro rfl (And.intro rfl (And.intro rfl (And.intro rfl (And.intro rfl (And.intro rfl (And.intro rfl (And.intro trivial (And.intro trivial (And.intro trivial (And.intro trivial (And.intro trivial (And.intro trivial trivial))))))))))))) (fun s2 => (dg_nm 11 nd rfl (by first | exact .inl rfl | exact .inr rfl))) (fun s2 k3 => (ds_at (ρ' := [.va a_book, .va a_table, .va a_lot, .va a_key, .va a_struck, .va a_side, .va s2, .un, .un, .un, .un, .va k3, .un]) rfl (ds_asgT (dx_ix (dx_ix (dx_ix (dx_va 1 rfl rfl (by first | exact .inl rfl | exact .inr (.inl rfl) | exact .inr (.inr rfl))) dx_int) dx_int) (dx_va 11 rfl rfl (by first | exact .inl rfl | exact .inr (.inl rfl) | exact .inr (.inr rfl)))) (dg_3 (dg_nm 7 nd rfl (by first | exact .inl rfl | exact .inr rfl)) (fun _ => (dg_nm 8 nd rfl (by first | exact .inl rfl | exact .inr rfl))) fun _ _ => (dg_nm 9 nd rfl (by first | exact .inl rfl | exact .inr rfl))) fun p4 => (ds_at (ρ' := [.va a_book, .va a_table, .va a_lot, .va a_key, .va a_struck, .va a_side, .va s2, .va p4.1, .va p4.2.1, .va p4.2.2, .un, .va k3, .un]) rfl (ds_asg (i := 10) (dxa nd rfl (by first | exact .inl rfl | exact .inr rfl) (dx_ix (dx_ix (dx_va 1 rfl rfl (by first | exact .inl rfl | exact .inr (.inl rfl) | exact .inr (.inr rfl))) dx_int) (dx_va 11 rfl rfl (by first | exact .inl rfl | exact .inr (.inl rfl) | exact .inr (.inr rfl))))) fun told11 => (ds_at (ρ' := [.va a_book, .va a_table, .va a_lot, .va a_key, .va a_struck, .va a_side, .va s2, .va p4.1, .va p4.2.1, .va p4.2.2, .va told11, .va k3, .un]) rfl (ds_ite (dt_of_dw (dw_and (dt_cmp do_nis (dx_va 10 rfl rfl (by first | exact .inl rfl | exact .inr (.inl rfl) | exact .inr (.inr rfl))) dx_non (by first | exact nomark _ | rfl | with_unfolding_all rfl)) (dw_and (dt_cmp (do_in (r65 hr)) (dx_va 5 rfl rfl (by first | exact .inl rfl | exact .inr (.inl rfl) | exact .inr (.inr rfl))) (dx_of_df (df_lst2 (dx_va 7 rfl rfl (by first | exact .inl rfl | exact .inr (.inl rfl) | exact .inr (.inr rfl))) (dx_va 8 rfl rfl (by first | exact .inl rfl | exact .inr (.inl rfl) | exact .inr (.inr rfl))))) (by first | exact nomark _ | rfl | with_unfolding_all rfl)) (dw_and1 (dt_of_dw (dw_or (dt_cmp (do_eq (r64 hr)) (dx_ix (dx_va 3 rfl rfl (by first | exact .inl rfl | exact .inr (.inl rfl) | exact .inr (.inr rfl))) dx_int) dx_str (by first | exact nomark _ | rfl | with_unfolding_all rfl)) (dw_or1 (dt_of_dw (dw_and (dt_cmp (do_in (r65 hr)) (dx_va 7 rfl rfl (by first | exact .inl rfl | exact .inr (.inl rfl) | exact .inr (.inr rfl))) (dx_va 2 rfl rfl (by first | exact .inl rfl | exact .inr (.inl rfl) | exact .inr (.inr rfl))) (by first | exact nomark _ | rfl | with_unfolding_all rfl)) (dw_and1 (dt_cmp (do_in (r65 hr)) (dx_va 8 rfl rfl (by first | exact .inl rfl | exact .inr (.inl rfl) | exact .inr (.inr rfl))) (dx_va 2 rfl rfl (by first | exact .inl rfl | exact .inr (.inl rfl) | exact .inr (.inr rfl))) (by first | exact nomark _ | rfl | with_unfolding_all rfl)))))))))))) (ds_at (ρ' := [.va a_book, .va a_table, .va a_lot, .va a_key, .va a_struck, .va a_side, .va s2, .va p4.1, .va p4.2.1, .va p4.2.2, .va told11, .va k3, .un]) rfl (ds_asg (i := 6) (dxa nd rfl (by first | exact .inl rfl | exact .inr rfl) (dx_op do_add (dx_va 6 rfl rfl (by first | exact .inl rfl | exact .inr (.inl rfl) | exact .inr (.inr rfl))) (dx_ifExp (dt_cmp (do_eq (r64 hr)) (dx_va 5 rfl rfl (by first | exact .inl rfl | exact .inr (.inl rfl) | exact .inr (.inr rfl))) (dx_va 7 rfl rfl (by first | exact .inl rfl | exact .inr (.inl rfl) | exact .inr (.inr rfl))) (by first | exact nomark _ | rfl | with_unfolding_all rfl)) (dx_call5 F_law_share (hr.mono (by decide)) (by rfl) (dx_ix (dx_va 0 rfl rfl (by first | exact .inl rfl | exact .inr (.inl rfl) | exact .inr (.inr rfl))) dx_int) (dx_ix (dx_va 3 rfl rfl (by first | exact .inl rfl | exact .inr (.inl rfl) | exact .inr (.inr rfl))) dx_int) (dx_ix (dx_va 10 rfl rfl (by first | exact .inl rfl | exact .inr (.inl rfl) | exact .inr (.inr rfl))) dx_int) (dx_ix (dx_va 10 rfl rfl (by first | exact .inl rfl | exact .inr (.inl rfl) | exact .inr (.inr rfl))) dx_int) dx_bl) (dx_call5 F_law_share (hr.mono (by decide)) (by rfl) (dx_ix (dx_va 0 rfl rfl (by first | exact .inl rfl | exact .inr (.inl rfl) | exact .inr (.inr rfl))) dx_int) (dx_ix (dx_va 3 rfl rfl (by first | exact .inl rfl | exact .inr (.inl rfl) | exact .inr (.inr rfl))) dx_int) (dx_ix (dx_va 10 rfl rfl (by first | exact .inl rfl | exact .inr (.inl rfl) | exact .inr (.inr rfl))) dx_int) (dx_ix (dx_va 10 rfl rfl (by first | exact .inl rfl | exact .inr (.inl rfl) | exact .inr (.inr rfl))) dx_int) dx_bl)))) fun total12 => (ds_at (ρ' := [.va a_book, .va a_table, .va a_lot, .va a_key, .va a_struck, .va a_side, .va total12, .va p4.1, .va p4.2.1, .va p4.2.2, .va told11, .va k3, .un]) rfl (ds_nil rfl (And.intro rfl (And.intro rfl (And.intro rfl (And.intro rfl (And.intro rfl (And.intro rfl (And.intro rfl (And.intro trivial (And.intro trivial (And.intro trivial (And.intro trivial (And.intro trivial (And.intro trivial trivial))))))))))))))))) (ds_at (ρ' := [.va a_book, .va a_table, .va a_lot, .va a_key, .va a_struck, .va a_side, .va s2, .va p4.1, .va p4.2.1, .va p4.2.2, .va told11, .va k3, .un]) rfl (ds_nil rfl (And.intro rfl (And.intro rfl (And.intro rfl (And.intro rfl (And.intro rfl (And.intro rfl (And.intro rfl (And.intro trivial (And.intro trivial (And.intro trivial (And.intro trivial (And.intro trivial (And.intro trivial trivial)))))))))))))))))))))) (fun s2 => (ds_at (ρ' := [.va a_book, .va a_table, .va a_lot, .va a_key, .va a_struck, .va a_side, .va s2, .un, .un, .un, .un, .un, .un]) rfl (ds_ret (dx_op do_sub (dx_va 6 rfl rfl (by first | exact .inl rfl | exact .inr (.inl rfl) | exact .inr (.inr rfl))) (dx_ifExp (dt_cmp (do_eq (r64 hr)) (dx_va 3 rfl rfl (by first | exact .inl rfl | exact .inr (.inl rfl) | exact .inr (.inr rfl))) (dx_tup2 dx_str dx_str) (by first | exact nomark _ | rfl | with_unfolding_all rfl)) (dx_b1 dc_sum (by rfl) G.b_sum boot_sum (dx_of_df (df_lc (own := [(("row" : Str), 12)]) nd (di_tup (dx_va 4 rfl rfl (by first | exact .inl rfl | exact .inr (.inl rfl) | exact .inr (.inr rfl)))) (by dsimp only [bodyX, bodyXE, Ctx.blk]; decide +kernel) (dg_nm 12 nd rfl (by first | exact .inl rfl | exact .inr rfl)) (by decide) (fun row13 => (dts_one (dt_cmp (do_eq (r64 hr)) (dx_ix (dx_va 12 rfl rfl (by first | exact .inl rfl | exact .inr (.inl rfl) | exact .inr (.inr rfl))) dx_int) (dx_va 5 rfl rfl (by first | exact .inl rfl | exact .inr (.inl rfl) | exact .inr (.inr rfl))) (by first | exact nomark _ | rfl | with_unfolding_all rfl)))) fun row13 => (dx_ix (dx_va 12 rfl rfl (by first | exact .inl rfl | exact .inr (.inl rfl) | exact .inr (.inr rfl))) dx_int)))) dx_int)))))))))
/-! ### _law_first_key -/
abbrev s_law_first_key : Stmt := top 33
def N_law_first_key : List Str := [("book" : Str), ("table" : Str), ("lot" : Str), ("begun" : Str), ("struck" : Str), ("told" : Str), ("numbers" : Str), ("k" : Str), ("side" : Str), ("number" : Str), ("j" : Str)]
theorem sc_law_first_key : FnScope N_law_first_key [("book" : Str), ("table" : Str), ("lot" : Str), ("begun" : Str), ("struck" : Str)] (defScope s_law_first_key) := ⟨rfl, rfl, rfl, by decide +kernel, rfl, by decide +kernel, by decide +kernel⟩
def m_law_first_key (a_book : D) (a_table : D) (a_lot : D) (a_begun : D) (a_struck : D) : T D := ((T.b2 range2 (T.ret a_begun) ((T.b2 ixD (T.ret a_book) (T.ret (.int 2))).bind lenD)).bind fun ds => (T.loopM (S := Unit) (fun d s1 => (T.opt (some d)).bind fun k2 => ((lcT ((T.ret a_lot).bind itemsL) some (fun side4 => (T.ret true)) fun side4 => ((T.ret a_book).bind fun a => (T.ret a_table).bind fun b => (T.ret a_lot).bind fun c => (T.b2 ixD (T.b2 ixD (T.ret a_book) (T.ret (.int 2))) (T.ret k2)).bind fun d => (T.ret a_struck).bind fun e => (T.ret side4).bind fun f => m_law_worth a b c d e f)).bind fun told3 => ((T.b2 gtD ((T.ret (.list told3)).bind lenSetD) (T.ret (.int 1))).bind fun k => if k then (((((T.ret (.list told3)).bind srtSetD).bind fun ds => T.ret (.list ds)).bind fun numbers5 => (((T.b2 eqD (T.b2 ixD (T.b2 ixD (T.b2 ixD (T.ret a_book) (T.ret (.int 2))) (T.ret k2)) (T.ret (.int 0))) (T.ret (.str ("taken" : Str)))).bind fun k => if k then (T.ret numbers5) else (((T.ret numbers5).bind revLD).bind fun ds => T.ret (.list ds))).bind fun numbers6 => (((((T.ret k2).bind fun a => (((lcT ((T.ret numbers6).bind itemsL) some (fun number10 => (T.ret true)) fun number10 => ((lcT (((T.ret a_lot).bind lenD).bind range1) some (fun j11 => (T.b2 eqD (T.b2 ixD (T.ret (.list told3)) (T.ret j11)) (T.ret number10))) fun j11 => (T.b2 ixD (T.ret a_lot) (T.ret j11))).bind fun ds => T.ret (.list ds))).bind fun ds => T.ret (.list ds)).bind fun a => ((((lcT (((T.ret a_lot).bind lenD).bind range1) some (fun j12 => (T.ret true)) fun j12 => ((T.b2 ixD (T.ret a_lot) (T.ret j12)).bind fun a => (T.b2 ixD (T.ret (.list told3)) (T.ret j12)).bind fun b => T.ret (.tuple [a, b]))).bind fun ds => T.ret (.list ds)).bind dictPD).bind fun a => (T.ret []).bind fun as => T.ret (a :: as)).bind fun as => T.ret (a :: as)).bind fun as => T.ret (a :: as)).bind fun ds => T.chk ds.length (T.ret ds)).bind fun ds => T.ret (.list ds)).bind fun d => T.ret (.rt d)))) : T (Xx (Unit))).bind fun r => T.ret r.o else (T.ret (.nx ()))))) ds ()).bind (endO (fun s1 => (T.ret .none)) (fun d => d)))
theorem d_law_first_key (G : Gs K mg) (F_law_worth : Fd P w K mg 2 ("_law_worth" : Str) (spI K 6 (ar6 m_law_worth))) : ∀ A q ds, Room 2 A → ds.length = 5 → DS (bodyX P w K mg A N_law_first_key s_law_first_key) q (argSl N_law_first_key ds) (defBody s_law_first_key) (ar5 m_law_first_key ds) En.rt := fun A q ds hr hl => match ds, hl with
  | [a_book, a_table, a_lot, a_begun, a_struck], _ => by
    have nd : (N_law_first_key).Nodup := by decide +kernel
    exact (ds_at (ρ' := [.va a_book, .va a_table, .va a_lot, .va a_begun, .va a_struck, .un, .un, .un, .un, .un, .un]) rfl (ds_forO (S := Unit) (η := fun s1 => [.va a_book, .va a_table, .va a_lot, .va a_begun, .va a_struck, .un, .un, .un, .un, .un, .un]) (s0 := ()) (inj := (fun d => d)) (di_range2 (by rfl) G.b_range (dx_va 3 rfl rfl (by first | exact .inl rfl | exact .inr (.inl rfl) | exact .inr (.inr rfl))) (dx_b1 dc_len (by rfl) G.b_len PySem.boot_len (dx_ix (dx_va 0 rfl rfl (by first | exact .inl rfl | exact .inr (.inl rfl) | exact .inr (.inr rfl))) dx_int))) (And.intro rfl (And.intro rfl (And.intro rfl (And.intro rfl (And.intro rfl (And.intro trivial (And.intro trivial (And.intro trivial (And.intro trivial (And.intro trivial (And.intro trivial trivial))))))))))) (fun s1 => (dg_nm 7 nd rfl (by first | exact .inl rfl | exact .inr rfl))) (fun s1 k2 => (ds_at (ρ' := [.va a_book, .va a_table, .va a_lot, .va a_begun, .va a_struck, .un, .un, .va k2, .un, .un, .un]) rfl (ds_own (i := 5) (dfa_s nd rfl (by first | exact .inl rfl | exact .inr rfl) (df_lc (own := [(("side" : Str), 8)]) nd (di_list (dx_va 2 rfl rfl (by first | exact .inl rfl | exact .inr (.inl rfl) | exact .inr (.inr rfl)))) (by dsimp only [bodyX, bodyXE, Ctx.blk]; decide +kernel) (dg_nm 8 nd rfl (by first | exact .inl rfl | exact .inr rfl)) (by decide) (fun side4 => dts_nil) fun side4 => (dx_call6 F_law_worth (hr.mono (by decide)) (by rfl) (dx_va 0 rfl rfl (by first | exact .inl rfl | exact .inr (.inl rfl) | exact .inr (.inr rfl))) (dx_va 1 rfl rfl (by first | exact .inl rfl | exact .inr (.inl rfl) | exact .inr (.inr rfl))) (dx_va 2 rfl rfl (by first | exact .inl rfl | exact .inr (.inl rfl) | exact .inr (.inr rfl))) (dx_ix (dx_ix (dx_va 0 rfl rfl (by first | exact .inl rfl | exact .inr (.inl rfl) | exact .inr (.inr rfl))) dx_int) (dx_va 7 rfl rfl (by first | exact .inl rfl | exact .inr (.inl rfl) | exact .inr (.inr rfl)))) (dx_va 4 rfl rfl (by first | exact .inl rfl | exact .inr (.inl rfl) | exact .inr (.inr rfl))) (dx_va 8 rfl rfl (by first | exact .inl rfl | exact .inr (.inl rfl) | exact .inr (.inr rfl))))) fun env he => sw_cell (by rw [he]; rfl)) fun told3 => (ds_at (ρ' := [.va a_book, .va a_table, .va a_lot, .va a_begun, .va a_struck, .ow told3, .un, .va k2, .un, .un, .un]) rfl (ds_frz 5 rfl (ds_ifx (RA := Xx (Unit)) (εA := enX (fun (s1 : Unit) => [.va a_book, .va a_table, .va a_lot, .va a_begun, .va a_struck, .un, .un, .un, .un, .un, .un])) (conv := Xx.o) (dt_cmp do_gt (dx_lenSet (r64 hr) (by rfl) G.b_len (by rfl) G.b_set (dx_va 5 rfl rfl (by first | exact .inl rfl | exact .inr (.inl rfl) | exact .inr (.inr rfl)))) dx_int (by first | exact nomark _ | rfl | with_unfolding_all rfl)) (ds_at (ρ' := [.va a_book, .va a_table, .va a_lot, .va a_begun, .va a_struck, .va (.list told3), .un, .va k2, .un, .un, .un]) rfl (ds_asg (i := 6) (dxa nd rfl (by first | exact .inl rfl | exact .inr rfl) (dx_of_df (df_srtSet (r64 hr) (by rfl) G.b_sorted (by rfl) G.b_set (dx_va 5 rfl rfl (by first | exact .inl rfl | exact .inr (.inl rfl) | exact .inr (.inr rfl)))))) fun numbers5 => (ds_at (ρ' := [.va a_book, .va a_table, .va a_lot, .va a_begun, .va a_struck, .va (.list told3), .va numbers5, .va k2, .un, .un, .un]) rfl (ds_asg (i := 6) (dxa nd rfl (by first | exact .inl rfl | exact .inr rfl) (dx_ifExp (dt_cmp (do_eq (r64 hr)) (dx_ix (dx_ix (dx_ix (dx_va 0 rfl rfl (by first | exact .inl rfl | exact .inr (.inl rfl) | exact .inr (.inr rfl))) dx_int) (dx_va 7 rfl rfl (by first | exact .inl rfl | exact .inr (.inl rfl) | exact .inr (.inr rfl)))) dx_int) dx_str (by first | exact nomark _ | rfl | with_unfolding_all rfl)) (dx_va 6 rfl rfl (by first | exact .inl rfl | exact .inr (.inl rfl) | exact .inr (.inr rfl))) (dx_of_df (df_revL (dx_va 6 rfl rfl (by first | exact .inl rfl | exact .inr (.inl rfl) | exact .inr (.inr rfl))))))) fun numbers6 => (ds_at (ρ' := [.va a_book, .va a_table, .va a_lot, .va a_begun, .va a_struck, .va (.list told3), .va numbers6, .va k2, .un, .un, .un]) rfl (ds_retI (inj := Xx.rt) (fun _ => rfl) (dx_of_df (df_lst (da_cons (dx_va 7 rfl rfl (by first | exact .inl rfl | exact .inr (.inl rfl) | exact .inr (.inr rfl))) (da_cons (dx_of_df (df_lc (own := [(("number" : Str), 9)]) nd (di_list (dx_va 6 rfl rfl (by first | exact .inl rfl | exact .inr (.inl rfl) | exact .inr (.inr rfl)))) (by dsimp only [bodyX, bodyXE, Ctx.blk]; decide +kernel) (dg_nm 9 nd rfl (by first | exact .inl rfl | exact .inr rfl)) (by decide) (fun number10 => dts_nil) fun number10 => (dx_of_df (df_lc (own := [(("j" : Str), 10)]) nd (di_range1 (by rfl) G.b_range (dx_b1 dc_len (by rfl) G.b_len PySem.boot_len (dx_va 2 rfl rfl (by first | exact .inl rfl | exact .inr (.inl rfl) | exact .inr (.inr rfl))))) (by dsimp only [bodyX, bodyXE, Ctx.blk]; decide +kernel) (dg_nm 10 nd rfl (by first | exact .inl rfl | exact .inr rfl)) (by decide) (fun j11 => (dts_one (dt_cmp (do_eq (r64 hr)) (dx_ix (dx_va 5 rfl rfl (by first | exact .inl rfl | exact .inr (.inl rfl) | exact .inr (.inr rfl))) (dx_va 10 rfl rfl (by first | exact .inl rfl | exact .inr (.inl rfl) | exact .inr (.inr rfl)))) (dx_va 9 rfl rfl (by first | exact .inl rfl | exact .inr (.inl rfl) | exact .inr (.inr rfl))) (by first | exact nomark _ | rfl | with_unfolding_all rfl)))) fun j11 => (dx_ix (dx_va 2 rfl rfl (by first | exact .inl rfl | exact .inr (.inl rfl) | exact .inr (.inr rfl))) (dx_va 10 rfl rfl (by first | exact .inl rfl | exact .inr (.inl rfl) | exact .inr (.inr rfl)))))))) (da_cons (dx_dictP (by rfl) G.b_dict (dx_of_df (df_lc (own := [(("j" : Str), 10)]) nd (di_range1 (by rfl) G.b_range (dx_b1 dc_len (by rfl) G.b_len PySem.boot_len (dx_va 2 rfl rfl (by first | exact .inl rfl | exact .inr (.inl rfl) | exact .inr (.inr rfl))))) (by dsimp only [bodyX, bodyXE, Ctx.blk]; decide +kernel) (dg_nm 10 nd rfl (by first | exact .inl rfl | exact .inr rfl)) (by decide) (fun j12 => dts_nil) fun j12 => (dx_tup2 (dx_ix (dx_va 2 rfl rfl (by first | exact .inl rfl | exact .inr (.inl rfl) | exact .inr (.inr rfl))) (dx_va 10 rfl rfl (by first | exact .inl rfl | exact .inr (.inl rfl) | exact .inr (.inr rfl)))) (dx_ix (dx_va 5 rfl rfl (by first | exact .inl rfl | exact .inr (.inl rfl) | exact .inr (.inr rfl))) (dx_va 10 rfl rfl (by first | exact .inl rfl | exact .inr (.inl rfl) | exact .inr (.inr rfl)))))))) da_nil))))))))))) enX_no enX_o (ds_at (ρ' := [.va a_book, .va a_table, .va a_lot, .va a_begun, .va a_struck, .va (.list told3), .un, .va k2, .un, .un, .un]) rfl (ds_nil rfl (And.intro rfl (And.intro rfl (And.intro rfl (And.intro rfl (And.intro rfl (And.intro trivial (And.intro trivial (And.intro trivial (And.intro trivial (And.intro trivial (And.intro trivial trivial))))))))))))))))))) (fun s1 => (ds_at (ρ' := [.va a_book, .va a_table, .va a_lot, .va a_begun, .va a_struck, .un, .un, .un, .un, .un, .un]) rfl (ds_ret dx_non))) (fun _ => rfl)))
/-! ### _law_place -/
abbrev s_law_place : Stmt := top 34
def N_law_place : List Str := [("lots" : Str), ("side" : Str), ("before" : Str), ("lot" : Str)]
theorem sc_law_place : FnScope N_law_place [("lots" : Str), ("side" : Str)] (defScope s_law_place) := ⟨rfl, rfl, rfl, by decide +kernel, rfl, by decide +kernel, by decide +kernel⟩
def m_law_place (a_lots : D) (a_side : D) : T D := ((T.ret (.int 0)).bind fun before1 => (((T.ret a_lots).bind itemsT).bind fun ds => (T.loopM (S := D) (fun d s2 => (T.opt (some d)).bind fun lot3 => ((T.b2 inD (T.ret a_side) (T.ret lot3)).bind fun k => if k then ((((T.b2 addD (T.ret s2) (T.ret (.int 1))).bind fun a => (T.b2 addD (T.ret s2) ((T.ret lot3).bind lenD)).bind fun b => T.ret (.tuple [a, b])).bind fun d => T.ret (.rt d)) : T (Xx (D))).bind fun r => T.ret r.o else ((T.b2 addD (T.ret s2) ((T.ret lot3).bind lenD)).bind fun before4 => (T.ret (.nx before4))))) ds before1).bind (endO (fun s2 => (T.ret .none)) (fun d => d))))
theorem d_law_place (G : Gs K mg) : ∀ A q ds, Room 0 A → ds.length = 2 → DS (bodyX P w K mg A N_law_place s_law_place) q (argSl N_law_place ds) (defBody s_law_place) (ar2 m_law_place ds) En.rt := fun A q ds hr hl => match ds, hl with
  | [a_lots, a_side], _ => by
    have nd : (N_law_place).Nodup := by decide +kernel
    exact (ds_at (ρ' := [.va a_lots, .va a_side, .un, .un]) rfl (ds_asg (i := 2) (dxa nd rfl (by first | exact .inl rfl | exact .inr rfl) dx_int) fun before1 => (ds_at (ρ' := [.va a_lots, .va a_side, .va before1, .un]) rfl (ds_forO (S := D) (η := fun s2 => [.va a_lots, .va a_side, .va s2, .un]) (s0 := before1) (inj := (fun d => d)) (di_tup (dx_va 0 rfl rfl (by first | exact .inl rfl | exact .inr (.inl rfl) | exact .inr (.inr rfl)))) (And.intro rfl (And.intro rfl (And.intro rfl (And.intro trivial trivial)))) (fun s2 => (dg_nm 3 nd rfl (by first | exact .inl rfl | exact .inr rfl))) (fun s2 lot3 => (ds_at (ρ' := [.va a_lots, .va a_side, .va s2, .va lot3]) rfl (ds_ifx (RA := Xx (D)) (εA := enX (fun (s2 : D) => [.va a_lots, .va a_side, .va s2, .un])) (conv := Xx.o) (dt_cmp (do_in (r65 hr)) (dx_va 1 rfl rfl (by first | exact .inl rfl | exact .inr (.inl rfl) | exact .inr (.inr rfl))) (dx_va 3 rfl rfl (by first | exact .inl rfl | exact .inr (.inl rfl) | exact .inr (.inr rfl))) (by first | exact nomark _ | rfl | with_unfolding_all rfl)) (ds_at (ρ' := [.va a_lots, .va a_side, .va s2, .va lot3]) rfl (ds_retI (inj := Xx.rt) (fun _ => rfl) (dx_tup2 (dx_op do_add (dx_va 2 rfl rfl (by first | exact .inl rfl | exact .inr (.inl rfl) | exact .inr (.inr rfl))) dx_int) (dx_op do_add (dx_va 2 rfl rfl (by first | exact .inl rfl | exact .inr (.inl rfl) | exact .inr (.inr rfl))) (dx_b1 dc_len (by rfl) G.b_len PySem.boot_len (dx_va 3 rfl rfl (by first | exact .inl rfl | exact .inr (.inl rfl) | exact .inr (.inr rfl)))))))) enX_no enX_o (ds_at (ρ' := [.va a_lots, .va a_side, .va s2, .va lot3]) rfl (ds_asg (i := 2) (dxa nd rfl (by first | exact .inl rfl | exact .inr rfl) (dx_op do_add (dx_va 2 rfl rfl (by first | exact .inl rfl | exact .inr (.inl rfl) | exact .inr (.inr rfl))) (dx_b1 dc_len (by rfl) G.b_len PySem.boot_len (dx_va 3 rfl rfl (by first | exact .inl rfl | exact .inr (.inl rfl) | exact .inr (.inr rfl)))))) fun before4 => (ds_at (ρ' := [.va a_lots, .va a_side, .va before4, .va lot3]) rfl (ds_nil rfl (And.intro rfl (And.intro rfl (And.intro rfl (And.intro trivial trivial))))))))))) (fun s2 => (ds_at (ρ' := [.va a_lots, .va a_side, .va s2, .un]) rfl (ds_ret dx_non))) (fun _ => rfl)))))
/-! ### _law_reason -/
abbrev s_law_reason : Stmt := top 35
def N_law_reason : List Str := [("book" : Str), ("table" : Str), ("one" : Str), ("other" : Str), ("struck" : Str), ("lot" : Str), ("begun" : Str), ("told" : Str), ("turn" : Str), ("part" : Str)]
theorem sc_law_reason : FnScope N_law_reason [("book" : Str), ("table" : Str), ("one" : Str), ("other" : Str), ("struck" : Str)] (defScope s_law_reason) := ⟨rfl, rfl, rfl, by decide +kernel, rfl, by decide +kernel, by decide +kernel⟩
def m_law_reason (a_book : D) (a_table : D) (a_one : D) (a_other : D) (a_struck : D) : T D := ((((T.b2 ixD (T.b2 ixD (T.ret a_table) (T.ret (.int 1))) (T.ret (.int 1))).bind listD).bind fun ds => T.ret (.list ds)).bind fun lot1 => ((T.ret (.int 0)).bind fun begun2 => (((T.ret (.int 60)).bind range1).bind fun ds => (T.loopM (S := D × D) (fun d s3 => (T.opt (some d)).bind fun turn4 => (((T.ret a_book).bind fun a => (T.ret a_table).bind fun b => (T.ret s3.1).bind fun c => (T.ret s3.2).bind fun d => (T.ret a_struck).bind fun e => m_law_first_key a b c d e).bind fun told5 => ((T.b2 isB (T.ret told5) (T.ret .none)).bind fun k => if k then ((((T.ret (.str ("level" : Str))).bind fun a => ((T.ret s3.1).bind tupleD).bind fun b => T.ret (.tuple [a, b])).bind fun d => T.ret (.rt d)) : T (Xx (D × D))).bind fun r => T.ret r.o else ((T.b2 neD (T.b2 dgetD (T.b2 ixD (T.ret told5) (T.ret (.int 2))) (T.ret a_one)) (T.b2 dgetD (T.b2 ixD (T.ret told5) (T.ret (.int 2))) (T.ret a_other))).bind fun k => if k then (((((T.ret (.str ("parted" : Str))).bind fun a => (((T.ret s3.1).bind tupleD).bind fun a => ((T.b2 ixD (T.ret told5) (T.ret (.int 0))).bind fun a => ((T.b2 dgetD (T.b2 ixD (T.ret told5) (T.ret (.int 2))) (T.ret a_one)).bind fun a => ((T.b2 dgetD (T.b2 ixD (T.ret told5) (T.ret (.int 2))) (T.ret a_other)).bind fun a => (T.ret []).bind fun as => T.ret (a :: as)).bind fun as => T.ret (a :: as)).bind fun as => T.ret (a :: as)).bind fun as => T.ret (a :: as)).bind fun as => T.ret (a :: as)).bind fun ds => T.chk ds.length (T.ret (.tuple ds))).bind fun d => T.ret (.rt d)) : T (Xx (D × D))).bind fun r => T.ret r.o else ((T.b2 ixD ((lcT ((T.b2 ixD (T.ret told5) (T.ret (.int 1))).bind itemsL) some (fun part7 => (T.b2 inD (T.ret a_one) (T.ret part7))) fun part7 => (T.ret part7)).bind fun ds => T.ret (.list ds)) (T.ret (.int 0))).bind fun lot6 => (((T.b2 eqD (T.b2 ixD (T.ret a_book) (T.ret (.int 3))) (T.ret (.str ("anew" : Str)))).bind fun k => if k then (T.ret (.int 0)) else (T.b2 addD (T.b2 ixD (T.ret told5) (T.ret (.int 0))) (T.ret (.int 1)))).bind fun begun8 => (T.ret (.nx (lot6, begun8))))))))) ds (lot1, begun2)).bind (endO (fun s3 => (T.ret .none)) (fun d => d)))))
theorem d_law_reason (G : Gs K mg) (F_law_first_key : Fd P w K mg 3 ("_law_first_key" : Str) (spI K 5 (ar5 m_law_first_key))) : ∀ A q ds, Room 3 A → ds.length = 5 → DS (bodyX P w K mg A N_law_reason s_law_reason) q (argSl N_law_reason ds) (defBody s_law_reason) (ar5 m_law_reason ds) En.rt := fun A q ds hr hl => match ds, hl with
  | [a_book, a_table, a_one, a_other, a_struck], _ => by
    have nd : (N_law_reason).Nodup := by decide +kernel
    exact (ds_at (ρ' := [.va a_book, .va a_table, .va a_one, .va a_other, .va a_struck, .un, .un, .un, .un, .un]) rfl (ds_asg (i := 5) (dxa nd rfl (by first | exact .inl rfl | exact .inr rfl) (dx_of_df (df_list (by rfl) G.b_list (dx_ix (dx_ix (dx_va 1 rfl rfl (by first | exact .inl rfl | exact .inr (.inl rfl) | exact .inr (.inr rfl))) dx_int) dx_int)))) fun lot1 => (ds_at (ρ' := [.va a_book, .va a_table, .va a_one, .va a_other, .va a_struck, .va lot1, .un, .un, .un, .un]) rfl (ds_asg (i := 6) (dxa nd rfl (by first | exact .inl rfl | exact .inr rfl) dx_int) fun begun2 => (ds_at (ρ' := [.va a_book, .va a_table, .va a_one, .va a_other, .va a_struck, .va lot1, .va begun2, .un, .un, .un]) rfl (ds_forO (S := D × D) (η := fun s3 => [.va a_book, .va a_table, .va a_one, .va a_other, .va a_struck, .va s3.1, .va s3.2, .un, .un, .un]) (s0 := (lot1, begun2)) (inj := (fun d => d)) (di_range1 (by rfl) G.b_range dx_int) (And.intro rfl (And.intro rfl (And.intro rfl (And.intro rfl (And.intro rfl (And.intro rfl (And.intro rfl (And.intro trivial (And.intro trivial (And.intro trivial trivial)))))))))) (fun s3 => (dg_nm 8 nd rfl (by first | exact .inl rfl | exact .inr rfl))) (fun s3 turn4 => (ds_at (ρ' := [.va a_book, .va a_table, .va a_one, .va a_other, .va a_struck, .va s3.1, .va s3.2, .un, .va turn4, .un]) rfl (ds_asg (i := 7) (dxa nd rfl (by first | exact .inl rfl | exact .inr rfl) (dx_call5 F_law_first_key (hr.mono (by decide)) (by rfl) (dx_va 0 rfl rfl (by first | exact .inl rfl | exact .inr (.inl rfl) | exact .inr (.inr rfl))) (dx_va 1 rfl rfl (by first | exact .inl rfl | exact .inr (.inl rfl) | exact .inr (.inr rfl))) (dx_va 5 rfl rfl (by first | exact .inl rfl | exact .inr (.inl rfl) | exact .inr (.inr rfl))) (dx_va 6 rfl rfl (by first | exact .inl rfl | exact .inr (.inl rfl) | exact .inr (.inr rfl))) (dx_va 4 rfl rfl (by first | exact .inl rfl | exact .inr (.inl rfl) | exact .inr (.inr rfl))))) fun told5 => (ds_at (ρ' := [.va a_book, .va a_table, .va a_one, .va a_other, .va a_struck, .va s3.1, .va s3.2, .va told5, .va turn4, .un]) rfl (ds_ifx (RA := Xx (D × D)) (εA := enX (fun (s3 : D × D) => [.va a_book, .va a_table, .va a_one, .va a_other, .va a_struck, .va s3.1, .va s3.2, .un, .un, .un])) (conv := Xx.o) (dt_cmp do_isB (dx_va 7 rfl rfl (by first | exact .inl rfl | exact .inr (.inl rfl) | exact .inr (.inr rfl))) dx_non (by first | exact nomark _ | rfl | with_unfolding_all rfl)) (ds_at (ρ' := [.va a_book, .va a_table, .va a_one, .va a_other, .va a_struck, .va s3.1, .va s3.2, .va told5, .va turn4, .un]) rfl (ds_retI (inj := Xx.rt) (fun _ => rfl) (dx_tup2 dx_str (dx_ty1 dc_tuple (by rfl) G.b_tuple boot_tuple (dx_va 5 rfl rfl (by first | exact .inl rfl | exact .inr (.inl rfl) | exact .inr (.inr rfl))))))) enX_no enX_o (ds_at (ρ' := [.va a_book, .va a_table, .va a_one, .va a_other, .va a_struck, .va s3.1, .va s3.2, .va told5, .va turn4, .un]) rfl (ds_ifx (RA := Xx (D × D)) (εA := enX (fun (s3 : D × D) => [.va a_book, .va a_table, .va a_one, .va a_other, .va a_struck, .va s3.1, .va s3.2, .un, .un, .un])) (conv := Xx.o) (dt_cmp (do_ne (r64 hr)) (dx_dget (r1 hr) (dx_ix (dx_va 7 rfl rfl (by first | exact .inl rfl | exact .inr (.inl rfl) | exact .inr (.inr rfl))) dx_int) (dx_va 2 rfl rfl (by first | exact .inl rfl | exact .inr (.inl rfl) | exact .inr (.inr rfl)))) (dx_dget (r1 hr) (dx_ix (dx_va 7 rfl rfl (by first | exact .inl rfl | exact .inr (.inl rfl) | exact .inr (.inr rfl))) dx_int) (dx_va 3 rfl rfl (by first | exact .inl rfl | exact .inr (.inl rfl) | exact .inr (.inr rfl)))) (by first | exact nomark _ | rfl | with_unfolding_all rfl)) (ds_at (ρ' := [.va a_book, .va a_table, .va a_one, .va a_other, .va a_struck, .va s3.1, .va s3.2, .va told5, .va turn4, .un]) rfl (ds_retI (inj := Xx.rt) (fun _ => rfl) (dx_tup (da_cons dx_str (da_cons (dx_ty1 dc_tuple (by rfl) G.b_tuple boot_tuple (dx_va 5 rfl rfl (by first | exact .inl rfl | exact .inr (.inl rfl) | exact .inr (.inr rfl)))) (da_cons (dx_ix (dx_va 7 rfl rfl (by first | exact .inl rfl | exact .inr (.inl rfl) | exact .inr (.inr rfl))) dx_int) (da_cons (dx_dget (r1 hr) (dx_ix (dx_va 7 rfl rfl (by first | exact .inl rfl | exact .inr (.inl rfl) | exact .inr (.inr rfl))) dx_int) (dx_va 2 rfl rfl (by first | exact .inl rfl | exact .inr (.inl rfl) | exact .inr (.inr rfl)))) (da_cons (dx_dget (r1 hr) (dx_ix (dx_va 7 rfl rfl (by first | exact .inl rfl | exact .inr (.inl rfl) | exact .inr (.inr rfl))) dx_int) (dx_va 3 rfl rfl (by first | exact .inl rfl | exact .inr (.inl rfl) | exact .inr (.inr rfl)))) da_nil)))))))) enX_no enX_o (ds_at (ρ' := [.va a_book, .va a_table, .va a_one, .va a_other, .va a_struck, .va s3.1, .va s3.2, .va told5, .va turn4, .un]) rfl (ds_asg (i := 5) (dxa nd rfl (by first | exact .inl rfl | exact .inr rfl) (dx_ix (dx_of_df (df_lc (own := [(("part" : Str), 9)]) nd (di_list (dx_ix (dx_va 7 rfl rfl (by first | exact .inl rfl | exact .inr (.inl rfl) | exact .inr (.inr rfl))) dx_int)) (by dsimp only [bodyX, bodyXE, Ctx.blk]; decide +kernel) (dg_nm 9 nd rfl (by first | exact .inl rfl | exact .inr rfl)) (by decide) (fun part7 => (dts_one (dt_cmp (do_in (r65 hr)) (dx_va 2 rfl rfl (by first | exact .inl rfl | exact .inr (.inl rfl) | exact .inr (.inr rfl))) (dx_va 9 rfl rfl (by first | exact .inl rfl | exact .inr (.inl rfl) | exact .inr (.inr rfl))) (by first | exact nomark _ | rfl | with_unfolding_all rfl)))) fun part7 => (dx_va 9 rfl rfl (by first | exact .inl rfl | exact .inr (.inl rfl) | exact .inr (.inr rfl))))) dx_int)) fun lot6 => (ds_at (ρ' := [.va a_book, .va a_table, .va a_one, .va a_other, .va a_struck, .va lot6, .va s3.2, .va told5, .va turn4, .un]) rfl (ds_asg (i := 6) (dxa nd rfl (by first | exact .inl rfl | exact .inr rfl) (dx_ifExp (dt_cmp (do_eq (r64 hr)) (dx_ix (dx_va 0 rfl rfl (by first | exact .inl rfl | exact .inr (.inl rfl) | exact .inr (.inr rfl))) dx_int) dx_str (by first | exact nomark _ | rfl | with_unfolding_all rfl)) dx_int (dx_op do_add (dx_ix (dx_va 7 rfl rfl (by first | exact .inl rfl | exact .inr (.inl rfl) | exact .inr (.inr rfl))) dx_int) dx_int))) fun begun8 => (ds_at (ρ' := [.va a_book, .va a_table, .va a_one, .va a_other, .va a_struck, .va lot6, .va begun8, .va told5, .va turn4, .un]) rfl (ds_nil rfl (And.intro rfl (And.intro rfl (And.intro rfl (And.intro rfl (And.intro rfl (And.intro rfl (And.intro rfl (And.intro trivial (And.intro trivial (And.intro trivial trivial))))))))))))))))))))))) (fun s3 => (ds_at (ρ' := [.va a_book, .va a_table, .va a_one, .va a_other, .va a_struck, .va s3.1, .va s3.2, .un, .un, .un]) rfl (ds_ret dx_non))) (fun _ => rfl)))))))
/-! ### _law_wonders -/
abbrev s_law_wonders : Stmt := top 36
def N_law_wonders : List Str := [("sides" : Str), ("ring" : Str), ("keys" : Str), ("rows" : Str)]
theorem sc_law_wonders : FnScope N_law_wonders [] (defScope s_law_wonders) := ⟨rfl, rfl, rfl, by decide +kernel, rfl, by decide +kernel, by decide +kernel⟩
def m_law_wonders : T D := (((T.ret (.str ("ann" : Str))).bind fun a => (T.ret (.str ("bob" : Str))).bind fun b => (T.ret (.str ("cid" : Str))).bind fun c => T.ret (.tuple [a, b, c])).bind fun sides1 => (((T.ret (.str ("table" : Str))).bind fun a => ((T.ret (.str ("fixtures" : Str))).bind fun a => (T.ret sides1).bind fun b => (((T.ret (.str ("ann" : Str))).bind fun a => (T.ret (.str ("bob" : Str))).bind fun b => (T.ret (.int 1)).bind fun c => T.ret (.tuple [a, b, c])).bind fun a => ((T.ret (.str ("bob" : Str))).bind fun a => (T.ret (.str ("cid" : Str))).bind fun b => (T.ret (.int 1)).bind fun c => T.ret (.tuple [a, b, c])).bind fun b => ((T.ret (.str ("cid" : Str))).bind fun a => (T.ret (.str ("ann" : Str))).bind fun b => (T.ret (.int 1)).bind fun c => T.ret (.tuple [a, b, c])).bind fun c => T.ret (.tuple [a, b, c])).bind fun c => T.ret (.tuple [a, b, c])).bind fun b => (((T.ret (.int 1)).bind fun a => (T.ret (.int 0)).bind fun b => T.ret (.tuple [a, b])).bind fun a => ((T.ret (.int 2)).bind fun a => (T.ret (.int 0)).bind fun b => T.ret (.tuple [a, b])).bind fun b => ((T.ret (.int 3)).bind fun a => (T.ret (.int 0)).bind fun b => T.ret (.tuple [a, b])).bind fun c => T.ret (.tuple [a, b, c])).bind fun c => T.ret (.tuple [a, b, c])).bind fun ring2 => ((((T.ret (.str ("points" : Str))).bind fun a => (T.ret (.str ("all" : Str))).bind fun b => T.ret (.tuple [a, b])).bind fun a => ((T.ret (.str ("points" : Str))).bind fun a => (T.ret (.str ("among" : Str))).bind fun b => T.ret (.tuple [a, b])).bind fun b => ((T.ret (.str ("difference" : Str))).bind fun a => (T.ret (.str ("among" : Str))).bind fun b => T.ret (.tuple [a, b])).bind fun c => T.ret (.tuple [a, b, c])).bind fun keys3 => (((((T.ret (.str ("book" : Str))).bind fun a => ((T.ret (.int 3)).bind fun a => (T.ret (.int 1)).bind fun b => (T.ret (.int 0)).bind fun c => T.ret (.tuple [a, b, c])).bind fun b => (T.ret keys3).bind fun c => (T.ret (.str ("anew" : Str))).bind fun d => T.ret (.tuple [a, b, c, d])).bind fun a => (T.ret ring2).bind fun b => (T.ret (.tuple [])).bind fun c => (((T.ret (.str ("bob" : Str))).bind fun a => T.ret (.tuple [a])).bind fun a => ((T.ret (.str ("cid" : Str))).bind fun a => T.ret (.tuple [a])).bind fun b => ((T.ret (.str ("ann" : Str))).bind fun a => T.ret (.tuple [a])).bind fun c => T.ret (.tuple [a, b, c])).bind fun d => T.ret (.tuple [a, b, c, d])).bind fun a => (((T.ret (.str ("book" : Str))).bind fun a => ((T.ret (.int 3)).bind fun a => (T.ret (.int 1)).bind fun b => (T.ret (.int 0)).bind fun c => T.ret (.tuple [a, b, c])).bind fun b => (T.ret keys3).bind fun c => (T.ret (.str ("on" : Str))).bind fun d => T.ret (.tuple [a, b, c, d])).bind fun a => (T.ret ring2).bind fun b => (T.ret (.tuple [])).bind fun c => (((T.ret (.str ("bob" : Str))).bind fun a => (T.ret (.str ("cid" : Str))).bind fun b => T.ret (.tuple [a, b])).bind fun a => ((T.ret (.str ("ann" : Str))).bind fun a => T.ret (.tuple [a])).bind fun b => T.ret (.tuple [a, b])).bind fun d => T.ret (.tuple [a, b, c, d])).bind fun b => T.ret [a, b]).bind fun rows4 => ((T.b2 catD (T.ret (.list rows4)) (((((T.ret (.str ("book" : Str))).bind fun a => ((T.ret (.int 3)).bind fun a => (T.ret (.int 1)).bind fun b => (T.ret (.int 0)).bind fun c => T.ret (.tuple [a, b, c])).bind fun b => (T.ret keys3).bind fun c => (T.ret (.str ("anew" : Str))).bind fun d => T.ret (.tuple [a, b, c, d])).bind fun a => (T.ret ring2).bind fun b => (((T.ret (.str ("bob" : Str))).bind fun a => (T.ret (.int 1)).bind fun b => T.ret (.tuple [a, b])).bind fun a => T.ret (.tuple [a])).bind fun c => (((T.ret (.str ("cid" : Str))).bind fun a => T.ret (.tuple [a])).bind fun a => ((T.ret (.str ("ann" : Str))).bind fun a => T.ret (.tuple [a])).bind fun b => ((T.ret (.str ("bob" : Str))).bind fun a => T.ret (.tuple [a])).bind fun c => T.ret (.tuple [a, b, c])).bind fun d => T.ret (.tuple [a, b, c, d])).bind fun a => (((T.ret (.str ("book" : Str))).bind fun a => ((T.ret (.int 3)).bind fun a => (T.ret (.int 1)).bind fun b => (T.ret (.int 0)).bind fun c => T.ret (.tuple [a, b, c])).bind fun b => ((T.ret keys3).bind fun x => (T.ret none : T (Option Int)).bind fun l => ((T.ret (.int 2)).bind partD).bind fun u => slD x l u).bind fun c => (T.ret (.str ("anew" : Str))).bind fun d => T.ret (.tuple [a, b, c, d])).bind fun a => (T.ret ring2).bind fun b => (T.ret (.tuple [])).bind fun c => ((T.ret sides1).bind fun a => T.ret (.tuple [a])).bind fun d => T.ret (.tuple [a, b, c, d])).bind fun b => T.ret [a, b]).bind fun ds => T.ret (.list ds))).bind fun rows5 => ((((T.ret (.str ("book" : Str))).bind fun a => ((T.ret (.int 3)).bind fun a => (T.ret (.int 1)).bind fun b => (T.ret (.int 0)).bind fun c => T.ret (.tuple [a, b, c])).bind fun b => (((T.ret (.str ("taken" : Str))).bind fun a => (T.ret (.str ("all" : Str))).bind fun b => T.ret (.tuple [a, b])).bind fun a => ((T.ret (.str ("awaygoals" : Str))).bind fun a => (T.ret (.str ("all" : Str))).bind fun b => T.ret (.tuple [a, b])).bind fun b => T.ret (.tuple [a, b])).bind fun c => (T.ret (.str ("on" : Str))).bind fun d => T.ret (.tuple [a, b, c, d])).bind fun a => (T.ret ring2).bind fun b => (T.ret (.tuple [])).bind fun c => (((T.ret (.str ("bob" : Str))).bind fun a => T.ret (.tuple [a])).bind fun a => ((T.ret (.str ("cid" : Str))).bind fun a => T.ret (.tuple [a])).bind fun b => ((T.ret (.str ("ann" : Str))).bind fun a => T.ret (.tuple [a])).bind fun c => T.ret (.tuple [a, b, c])).bind fun d => T.ret (.tuple [a, b, c, d])).bind fun e6 => T.chk (List.length (α := D) rows5) ((T.b2 catD (T.ret (.list (rows5 ++ [e6]))) (((((T.ret (.str ("book" : Str))).bind fun a => ((T.ret (.int 3)).bind fun a => (T.ret (.int 1)).bind fun b => (T.ret (.int 0)).bind fun c => T.ret (.tuple [a, b, c])).bind fun b => (((T.ret (.str ("awaywins" : Str))).bind fun a => (T.ret (.str ("all" : Str))).bind fun b => T.ret (.tuple [a, b])).bind fun a => T.ret (.tuple [a])).bind fun c => (T.ret (.str ("on" : Str))).bind fun d => T.ret (.tuple [a, b, c, d])).bind fun a => (T.ret ring2).bind fun b => (T.ret (.tuple [])).bind fun c => ((T.ret sides1).bind fun a => T.ret (.tuple [a])).bind fun d => T.ret (.tuple [a, b, c, d])).bind fun a => T.ret [a]).bind fun ds => T.ret (.list ds))).bind fun ds => T.ret (.list ds))))))))
theorem d_law_wonders (G : Gs K mg) : ∀ A q ds, Room 0 A → ds.length = 0 → DS (bodyX P w K mg A N_law_wonders s_law_wonders) q (argSl N_law_wonders ds) (defBody s_law_wonders) (ar0 m_law_wonders ds) En.rt := fun A q ds hr hl => match ds, hl with
  | [], _ => by
    have nd : (N_law_wonders).Nodup := by decide +kernel
    exact (ds_at (ρ' := [.un, .un, .un, .un]) rfl (ds_asg (i := 0) (dxa nd rfl (by first | exact .inl rfl | exact .inr rfl) (dx_tup3 dx_str dx_str dx_str)) fun sides1 => (ds_at (ρ' := [.va sides1, .un, .un, .un]) rfl (ds_asg (i := 1) (dxa nd rfl (by first | exact .inl rfl | exact .inr rfl) (dx_tup3 dx_str (dx_tup3 dx_str (dx_va 0 rfl rfl (by first | exact .inl rfl | exact .inr (.inl rfl) | exact .inr (.inr rfl))) (dx_tup3 (dx_tup3 dx_str dx_str dx_int) (dx_tup3 dx_str dx_str dx_int) (dx_tup3 dx_str dx_str dx_int))) (dx_tup3 (dx_tup2 dx_int dx_int) (dx_tup2 dx_int dx_int) (dx_tup2 dx_int dx_int)))) fun ring2 => (ds_at (ρ' := [.va sides1, .va ring2, .un, .un]) rfl (ds_asg (i := 2) (dxa nd rfl (by first | exact .inl rfl | exact .inr rfl) (dx_tup3 (dx_tup2 dx_str dx_str) (dx_tup2 dx_str dx_str) (dx_tup2 dx_str dx_str))) fun keys3 => (ds_at (ρ' := [.va sides1, .va ring2, .va keys3, .un]) rfl (ds_own (i := 3) (dfa nd rfl (by first | exact .inl rfl | exact .inr rfl) (df_lst2 (dx_tup4 (dx_tup4 dx_str (dx_tup3 dx_int dx_int dx_int) (dx_va 2 rfl rfl (by first | exact .inl rfl | exact .inr (.inl rfl) | exact .inr (.inr rfl))) dx_str) (dx_va 1 rfl rfl (by first | exact .inl rfl | exact .inr (.inl rfl) | exact .inr (.inr rfl))) dx_tup0 (dx_tup3 (dx_tup1 dx_str) (dx_tup1 dx_str) (dx_tup1 dx_str))) (dx_tup4 (dx_tup4 dx_str (dx_tup3 dx_int dx_int dx_int) (dx_va 2 rfl rfl (by first | exact .inl rfl | exact .inr (.inl rfl) | exact .inr (.inr rfl))) dx_str) (dx_va 1 rfl rfl (by first | exact .inl rfl | exact .inr (.inl rfl) | exact .inr (.inr rfl))) dx_tup0 (dx_tup2 (dx_tup2 dx_str dx_str) (dx_tup1 dx_str))))) fun rows4 => (ds_at (ρ' := [.va sides1, .va ring2, .va keys3, .ow rows4]) rfl (ds_frz 3 rfl (ds_own (i := 3) (dfa nd rfl (by first | exact .inl rfl | exact .inr rfl) (df_cat (dx_va 3 rfl rfl (by first | exact .inl rfl | exact .inr (.inl rfl) | exact .inr (.inr rfl))) (dx_of_df (df_lst2 (dx_tup4 (dx_tup4 dx_str (dx_tup3 dx_int dx_int dx_int) (dx_va 2 rfl rfl (by first | exact .inl rfl | exact .inr (.inl rfl) | exact .inr (.inr rfl))) dx_str) (dx_va 1 rfl rfl (by first | exact .inl rfl | exact .inr (.inl rfl) | exact .inr (.inr rfl))) (dx_tup1 (dx_tup2 dx_str dx_int)) (dx_tup3 (dx_tup1 dx_str) (dx_tup1 dx_str) (dx_tup1 dx_str))) (dx_tup4 (dx_tup4 dx_str (dx_tup3 dx_int dx_int dx_int) (dx_sl (dx_va 2 rfl rfl (by first | exact .inl rfl | exact .inr (.inl rfl) | exact .inr (.inr rfl))) dp_none (dp_some dx_int)) dx_str) (dx_va 1 rfl rfl (by first | exact .inl rfl | exact .inr (.inl rfl) | exact .inr (.inr rfl))) dx_tup0 (dx_tup1 (dx_va 0 rfl rfl (by first | exact .inl rfl | exact .inr (.inl rfl) | exact .inr (.inr rfl))))))))) fun rows5 => (ds_at (ρ' := [.va sides1, .va ring2, .va keys3, .ow rows5]) rfl (ds_app 3 rfl rfl (by first | exact .inl rfl | exact .inr (.inl rfl) | exact .inr (.inr rfl)) (dx_tup4 (dx_tup4 dx_str (dx_tup3 dx_int dx_int dx_int) (dx_tup2 (dx_tup2 dx_str dx_str) (dx_tup2 dx_str dx_str)) dx_str) (dx_va 1 rfl rfl (by first | exact .inl rfl | exact .inr (.inl rfl) | exact .inr (.inr rfl))) dx_tup0 (dx_tup3 (dx_tup1 dx_str) (dx_tup1 dx_str) (dx_tup1 dx_str))) fun e6 => (ds_at (ρ' := [.va sides1, .va ring2, .va keys3, .ow (rows5 ++ [e6])]) rfl (ds_frz 3 rfl (ds_ret (dx_of_df (df_cat (dx_va 3 rfl rfl (by first | exact .inl rfl | exact .inr (.inl rfl) | exact .inr (.inr rfl))) (dx_of_df (df_lst1 (dx_tup4 (dx_tup4 dx_str (dx_tup3 dx_int dx_int dx_int) (dx_tup1 (dx_tup2 dx_str dx_str)) dx_str) (dx_va 1 rfl rfl (by first | exact .inl rfl | exact .inr (.inl rfl) | exact .inr (.inr rfl))) dx_tup0 (dx_tup1 (dx_va 0 rfl rfl (by first | exact .inl rfl | exact .inr (.inl rfl) | exact .inr (.inr rfl)))))))))))))))))))))))))
/-! ### law -/
abbrev s_law : Stmt := top 37
def N_law : List Str := [("script" : Str), ("pool" : Str), ("book" : Str), ("table" : Str), ("struck" : Str), ("due" : Str), ("lots" : Str), ("names" : Str), ("told" : Str), ("level" : Str), ("j" : Str), ("i" : Str), ("error" : Str), ("pair" : Str), ("trial" : Str)]
theorem sc_law : FnScope N_law [("script" : Str)] (defScope s_law) := ⟨rfl, rfl, rfl, by decide +kernel, rfl, by decide +kernel, by decide +kernel⟩
def m_law : T D := ((m_law_wonders.bind itemsL).bind fun ds => (T.loopM (S := Unit) (fun d s1 => (T.opt ((quadO some some some some) d)).bind fun p2 => ((notT ((((T.ret p2.1).bind fun a => (T.ret p2.2.1).bind fun b => (T.ret p2.2.2.1).bind fun c => m_rank a b c).bind fun a => (T.ret p2.2.2.2).bind fun b => (m_law_same 6) a b).bind truth)).bind fun k => if k then (((T.ret (.bool false)).bind fun d => T.ret (.rt d)) : T (Xx (Unit))).bind fun r => T.ret r.o else (T.ret (.nx ())))) ds ()).bind (endO (fun s1 => (((T.ret (.int 3)).bind range1).bind fun ds => (T.loopM (S := Unit) (fun d s11 => (T.opt (some d)).bind fun trial12 => (nextD.bind fun z13 => (((T.ret (.int 5)).bind fun a => (T.ret (.int 2)).bind fun b => (T.ret (.int 6)).bind fun c => m_law_table a b c).bind fun table14 => (nextD.bind fun z15 => (((T.ret (.int 5)).bind m_law_book).bind fun book16 => (((T.b2 ixD (T.b2 ixD (T.ret table14) (T.ret (.int 1))) (T.ret (.int 1))).bind m_law_struck).bind fun struck17 => (((T.ret book16).bind fun a => (T.ret table14).bind fun b => (T.ret struck17).bind fun c => m_rank a b c).bind fun lots18 => ((T.b2 ixD (T.b2 ixD (T.ret table14) (T.ret (.int 1))) (T.ret (.int 1))).bind fun names19 => ((((T.ret names19).bind lenD).bind range1).bind fun ds => (T.loopM (S := Unit) (fun d s20 => (T.opt (some d)).bind fun i21 => ((((T.ret names19).bind lenD).bind range1).bind fun ds => (T.loopM (S := Unit) (fun d s22 => (T.opt (some d)).bind fun j23 => ((T.b2 neD (T.ret i21) (T.ret j23)).bind fun k => if k then ((((T.ret book16).bind fun a => (T.ret table14).bind fun b => (T.b2 ixD (T.ret names19) (T.ret i21)).bind fun c => (T.b2 ixD (T.ret names19) (T.ret j23)).bind fun d => (T.ret struck17).bind fun e => m_reason a b c d e).bind noRx).bind fun told24 => ((notT (((T.ret told24).bind fun a => ((T.ret book16).bind fun a => (T.ret table14).bind fun b => (T.b2 ixD (T.ret names19) (T.ret i21)).bind fun c => (T.b2 ixD (T.ret names19) (T.ret j23)).bind fun d => (T.ret struck17).bind fun e => m_law_reason a b c d e).bind fun b => (m_law_same 6) a b).bind truth)).bind fun k => if k then (((T.ret (.bool false)).bind fun d => T.ret (.rt d)) : T (Xx (Unit))).bind fun r => T.ret r.o else ((bo (T.b2 eqD ((T.ret lots18).bind fun a => (T.b2 ixD (T.ret names19) (T.ret i21)).bind fun b => m_law_place a b) ((T.ret lots18).bind fun a => (T.b2 ixD (T.ret names19) (T.ret j23)).bind fun b => m_law_place a b))).bind fun level25 => ((T.b2 neD (T.ret level25) (bo (T.b2 eqD (T.b2 ixD (T.ret told24) (T.ret (.int 0))) (T.ret (.str ("level" : Str)))))).bind fun k => if k then (((T.ret (.bool false)).bind fun d => T.ret (.rt d)) : T (Xx (Unit))).bind fun r => T.ret r.o else ((andT (notT ((T.ret level25).bind truth)) (T.b2 neD (bo (T.b2 eqD (bo (T.b2 gtD (T.b2 ixD (T.ret told24) (T.ret (.int 3))) (T.b2 ixD (T.ret told24) (T.ret (.int 4))))) (bo (T.b2 neD (T.b2 ixD (T.b2 ixD (T.b2 ixD (T.ret book16) (T.ret (.int 2))) (T.b2 ixD (T.ret told24) (T.ret (.int 2)))) (T.ret (.int 0))) (T.ret (.str ("taken" : Str))))))) (bo (T.b2 ltD (T.b2 ixD ((T.ret lots18).bind fun a => (T.b2 ixD (T.ret names19) (T.ret i21)).bind fun b => m_law_place a b) (T.ret (.int 0))) (T.b2 ixD ((T.ret lots18).bind fun a => (T.b2 ixD (T.ret names19) (T.ret j23)).bind fun b => m_law_place a b) (T.ret (.int 0))))))).bind fun k => if k then (((T.ret (.bool false)).bind fun d => T.ret (.rt d)) : T (Xx (Unit))).bind fun r => T.ret r.o else (T.ret (.nx ()))))))) else (T.ret (.nx ())))) ds ()).bind (endO (fun s22 => (T.ret (.nx ()))) O.rt))) ds ()).bind (endO (fun s20 => ((((((T.ret (.str ("zed" : Str))).bind fun a => (T.b2 ixD (T.ret names19) (T.ret (.int 0))).bind fun b => T.ret (.tuple [a, b])).bind fun a => ((T.b2 ixD (T.ret names19) (T.ret (.int 0))).bind fun a => (T.ret (.str ("zed" : Str))).bind fun b => T.ret (.tuple [a, b])).bind fun b => T.ret [a, b]).bind fun ds => T.ret (.list ds)).bind itemsL).bind fun ds => (T.loopM (S := Unit) (fun d s26 => (T.opt (some d)).bind fun pair27 => (((T.ret book16).bind fun a => (T.ret table14).bind fun b => (T.b2 ixD (T.ret pair27) (T.ret (.int 0))).bind fun c => (T.b2 ixD (T.ret pair27) (T.ret (.int 1))).bind fun d => (T.ret struck17).bind fun e => m_reason a b c d e).bind (tryR ("NoSide" : Str) ("zed" : Str) false false O.rt (T.ret (.nx ()))))) ds ()).bind (endO (fun s26 => (T.ret (.nx ()))) O.rt))) O.rt)))))))))) ds ()).bind (endO (fun s11 => (T.ret (.bool true))) (fun d => d)))) (fun d => d)))
theorem d_law (G : Gs K mg) (GX : Gx P K mg xc) (F_law_book : Fd P w K mg 5 ("_law_book" : Str) (spP K 1 (ar1 m_law_book))) (F_law_next : Fd P w K mg 3 ("_law_next" : Str) (spP K 0 (ar0 nextD))) (F_law_place : Fd P w K mg 1 ("_law_place" : Str) (spI K 2 (ar2 m_law_place))) (F_law_reason : Fd P w K mg 4 ("_law_reason" : Str) (spI K 5 (ar5 m_law_reason))) (F_law_same : Fd P w K mg 6 ("_law_same" : Str) (spI K 2 (ar2 (m_law_same 6)))) (F_law_struck : Fd P w K mg 4 ("_law_struck" : Str) (spP K 1 (ar1 m_law_struck))) (F_law_table : Fd P w K mg 6 ("_law_table" : Str) (spP K 3 (ar3 m_law_table))) (F_law_wonders : Fd P w K mg 1 ("_law_wonders" : Str) (spI K 0 (ar0 m_law_wonders))) (Frank : Fd P w K mg 13 ("rank" : Str) (spI K 3 (ar3 m_rank))) (Freason : FdE P w K mg 5 ("reason" : Str) (spE K xc 5 (xr5 m_reason))) : ∀ A a, Room 13 A → DS (bodyX P w K mg A N_law s_law) (some a) [.un, .po, .un, .un, .un, .un, .un, .un, .un, .un, .un, .un, .un, .un, .un] (defBody s_law).tail m_law En.rt := fun A q hr => by
    have nd : (N_law).Nodup := by decide +kernel
    exact (ds_at (ρ' := [.un, .po, .un, .un, .un, .un, .un, .un, .un, .un, .un, .un, .un, .un, .un]) rfl (ds_forO (S := Unit) (η := fun s1 => [.un, .po, .un, .un, .un, .un, .un, .un, .un, .un, .un, .un, .un, .un, .un]) (s0 := ()) (inj := (fun d => d)) (di_list (dx_call0 F_law_wonders (hr.mono (by decide)) (by rfl))) (And.intro trivial (And.intro rfl (And.intro trivial (And.intro trivial (And.intro trivial (And.intro trivial (And.intro trivial (And.intro trivial (And.intro trivial (And.intro trivial (And.intro trivial (And.intro trivial (And.intro trivial (And.intro trivial (And.intro trivial trivial))))))))))))))) (fun s1 => (dg_4 (dg_nm 2 nd rfl (by first | exact .inl rfl | exact .inr rfl)) (fun _ => (dg_nm 3 nd rfl (by first | exact .inl rfl | exact .inr rfl))) (fun _ _ => (dg_nm 4 nd rfl (by first | exact .inl rfl | exact .inr rfl))) fun _ _ _ => (dg_nm 5 nd rfl (by first | exact .inl rfl | exact .inr rfl)))) (fun s1 p2 => (ds_at (ρ' := [.un, .po, .va p2.1, .va p2.2.1, .va p2.2.2.1, .va p2.2.2.2, .un, .un, .un, .un, .un, .un, .un, .un, .un]) rfl (ds_ifx (RA := Xx (Unit)) (εA := enX (fun (s1 : Unit) => [.un, .po, .un, .un, .un, .un, .un, .un, .un, .un, .un, .un, .un, .un, .un])) (conv := Xx.o) (dt_not (dt_truth (dx_call2 F_law_same (hr.mono (by decide)) (by rfl) (dx_call3 Frank (hr.mono (by decide)) (by rfl) (dx_va 2 rfl rfl (by first | exact .inl rfl | exact .inr (.inl rfl) | exact .inr (.inr rfl))) (dx_va 3 rfl rfl (by first | exact .inl rfl | exact .inr (.inl rfl) | exact .inr (.inr rfl))) (dx_va 4 rfl rfl (by first | exact .inl rfl | exact .inr (.inl rfl) | exact .inr (.inr rfl)))) (dx_va 5 rfl rfl (by first | exact .inl rfl | exact .inr (.inl rfl) | exact .inr (.inr rfl)))))) (ds_at (ρ' := [.un, .po, .va p2.1, .va p2.2.1, .va p2.2.2.1, .va p2.2.2.2, .un, .un, .un, .un, .un, .un, .un, .un, .un]) rfl (ds_retI (inj := Xx.rt) (fun _ => rfl) dx_bl)) enX_no enX_o (ds_at (ρ' := [.un, .po, .va p2.1, .va p2.2.1, .va p2.2.2.1, .va p2.2.2.2, .un, .un, .un, .un, .un, .un, .un, .un, .un]) rfl (ds_nil rfl (And.intro trivial (And.intro rfl (And.intro trivial (And.intro trivial (And.intro trivial (And.intro trivial (And.intro trivial (And.intro trivial (And.intro trivial (And.intro trivial (And.intro trivial (And.intro trivial (And.intro trivial (And.intro trivial (And.intro trivial trivial)))))))))))))))))))) (fun s1 => (ds_at (ρ' := [.un, .po, .un, .un, .un, .un, .un, .un, .un, .un, .un, .un, .un, .un, .un]) rfl (ds_forO (S := Unit) (η := fun s11 => [.un, .po, .un, .un, .un, .un, .un, .un, .un, .un, .un, .un, .un, .un, .un]) (s0 := ()) (inj := (fun d => d)) (di_range1 (by rfl) G.b_range dx_int) (And.intro trivial (And.intro rfl (And.intro trivial (And.intro trivial (And.intro trivial (And.intro trivial (And.intro trivial (And.intro trivial (And.intro trivial (And.intro trivial (And.intro trivial (And.intro trivial (And.intro trivial (And.intro trivial (And.intro trivial trivial))))))))))))))) (fun s11 => (dg_nm 14 nd rfl (by first | exact .inl rfl | exact .inr rfl))) (fun s11 trial12 => (ds_at (ρ' := [.un, .po, .un, .un, .un, .un, .un, .un, .un, .un, .un, .un, .un, .un, .va trial12]) rfl (ds_expr (dx_callP0 1 F_law_next (hr.mono (by decide)) (by rfl) rfl rfl (by first | exact .inl rfl | exact .inr (.inl rfl) | exact .inr (.inr rfl))) fun z13 => (ds_at (ρ' := [.un, .po, .un, .un, .un, .un, .un, .un, .un, .un, .un, .un, .un, .un, .va trial12]) rfl (ds_asg (i := 3) (dxa nd rfl (by first | exact .inl rfl | exact .inr rfl) (dx_callP3 1 F_law_table (hr.mono (by decide)) (by rfl) rfl rfl (by first | exact .inl rfl | exact .inr (.inl rfl) | exact .inr (.inr rfl)) dx_int dx_int dx_int)) fun table14 => (ds_at (ρ' := [.un, .po, .un, .va table14, .un, .un, .un, .un, .un, .un, .un, .un, .un, .un, .va trial12]) rfl (ds_expr (dx_callP0 1 F_law_next (hr.mono (by decide)) (by rfl) rfl rfl (by first | exact .inl rfl | exact .inr (.inl rfl) | exact .inr (.inr rfl))) fun z15 => (ds_at (ρ' := [.un, .po, .un, .va table14, .un, .un, .un, .un, .un, .un, .un, .un, .un, .un, .va trial12]) rfl (ds_asg (i := 2) (dxa nd rfl (by first | exact .inl rfl | exact .inr rfl) (dx_callP1 1 F_law_book (hr.mono (by decide)) (by rfl) rfl rfl (by first | exact .inl rfl | exact .inr (.inl rfl) | exact .inr (.inr rfl)) dx_int)) fun book16 => (ds_at (ρ' := [.un, .po, .va book16, .va table14, .un, .un, .un, .un, .un, .un, .un, .un, .un, .un, .va trial12]) rfl (ds_asg (i := 4) (dxa nd rfl (by first | exact .inl rfl | exact .inr rfl) (dx_callP1 1 F_law_struck (hr.mono (by decide)) (by rfl) rfl rfl (by first | exact .inl rfl | exact .inr (.inl rfl) | exact .inr (.inr rfl)) (dx_ix (dx_ix (dx_va 3 rfl rfl (by first | exact .inl rfl | exact .inr (.inl rfl) | exact .inr (.inr rfl))) dx_int) dx_int))) fun struck17 => (ds_at (ρ' := [.un, .po, .va book16, .va table14, .va struck17, .un, .un, .un, .un, .un, .un, .un, .un, .un, .va trial12]) rfl (ds_asg (i := 6) (dxa nd rfl (by first | exact .inl rfl | exact .inr rfl) (dx_call3 Frank (hr.mono (by decide)) (by rfl) (dx_va 2 rfl rfl (by first | exact .inl rfl | exact .inr (.inl rfl) | exact .inr (.inr rfl))) (dx_va 3 rfl rfl (by first | exact .inl rfl | exact .inr (.inl rfl) | exact .inr (.inr rfl))) (dx_va 4 rfl rfl (by first | exact .inl rfl | exact .inr (.inl rfl) | exact .inr (.inr rfl))))) fun lots18 => (ds_at (ρ' := [.un, .po, .va book16, .va table14, .va struck17, .un, .va lots18, .un, .un, .un, .un, .un, .un, .un, .va trial12]) rfl (ds_asg (i := 7) (dxa nd rfl (by first | exact .inl rfl | exact .inr rfl) (dx_ix (dx_ix (dx_va 3 rfl rfl (by first | exact .inl rfl | exact .inr (.inl rfl) | exact .inr (.inr rfl))) dx_int) dx_int)) fun names19 => (ds_at (ρ' := [.un, .po, .va book16, .va table14, .va struck17, .un, .va lots18, .va names19, .un, .un, .un, .un, .un, .un, .va trial12]) rfl (ds_forO (S := Unit) (η := fun s20 => [.un, .po, .va book16, .va table14, .va struck17, .un, .va lots18, .va names19, .un, .un, .un, .un, .un, .un, .va trial12]) (s0 := ()) (inj := O.rt) (di_range1 (by rfl) G.b_range (dx_b1 dc_len (by rfl) G.b_len PySem.boot_len (dx_va 7 rfl rfl (by first | exact .inl rfl | exact .inr (.inl rfl) | exact .inr (.inr rfl))))) (And.intro trivial (And.intro rfl (And.intro rfl (And.intro rfl (And.intro rfl (And.intro trivial (And.intro rfl (And.intro rfl (And.intro trivial (And.intro trivial (And.intro trivial (And.intro trivial (And.intro trivial (And.intro trivial (And.intro rfl trivial))))))))))))))) (fun s20 => (dg_nm 11 nd rfl (by first | exact .inl rfl | exact .inr rfl))) (fun s20 i21 => (ds_at (ρ' := [.un, .po, .va book16, .va table14, .va struck17, .un, .va lots18, .va names19, .un, .un, .un, .va i21, .un, .un, .va trial12]) rfl (ds_forO (S := Unit) (η := fun s22 => [.un, .po, .va book16, .va table14, .va struck17, .un, .va lots18, .va names19, .un, .un, .un, .va i21, .un, .un, .va trial12]) (s0 := ()) (inj := O.rt) (di_range1 (by rfl) G.b_range (dx_b1 dc_len (by rfl) G.b_len PySem.boot_len (dx_va 7 rfl rfl (by first | exact .inl rfl | exact .inr (.inl rfl) | exact .inr (.inr rfl))))) (And.intro trivial (And.intro rfl (And.intro rfl (And.intro rfl (And.intro rfl (And.intro trivial (And.intro rfl (And.intro rfl (And.intro trivial (And.intro trivial (And.intro trivial (And.intro rfl (And.intro trivial (And.intro trivial (And.intro rfl trivial))))))))))))))) (fun s22 => (dg_nm 10 nd rfl (by first | exact .inl rfl | exact .inr rfl))) (fun s22 j23 => (ds_at (ρ' := [.un, .po, .va book16, .va table14, .va struck17, .un, .va lots18, .va names19, .un, .un, .va j23, .va i21, .un, .un, .va trial12]) rfl (ds_ite (dt_cmp (do_ne (r64 hr)) (dx_va 11 rfl rfl (by first | exact .inl rfl | exact .inr (.inl rfl) | exact .inr (.inr rfl))) (dx_va 10 rfl rfl (by first | exact .inl rfl | exact .inr (.inl rfl) | exact .inr (.inr rfl))) (by first | exact nomark _ | rfl | with_unfolding_all rfl)) (ds_at (ρ' := [.un, .po, .va book16, .va table14, .va struck17, .un, .va lots18, .va names19, .un, .un, .va j23, .va i21, .un, .un, .va trial12]) rfl (ds_asg (i := 8) (dxa nd rfl (by first | exact .inl rfl | exact .inr rfl) (dx_ofE (dxe_call5 Freason (hr.mono (by decide)) (by rfl) (dx_va 2 rfl rfl (by first | exact .inl rfl | exact .inr (.inl rfl) | exact .inr (.inr rfl))) (dx_va 3 rfl rfl (by first | exact .inl rfl | exact .inr (.inl rfl) | exact .inr (.inr rfl))) (dx_ix (dx_va 7 rfl rfl (by first | exact .inl rfl | exact .inr (.inl rfl) | exact .inr (.inr rfl))) (dx_va 11 rfl rfl (by first | exact .inl rfl | exact .inr (.inl rfl) | exact .inr (.inr rfl)))) (dx_ix (dx_va 7 rfl rfl (by first | exact .inl rfl | exact .inr (.inl rfl) | exact .inr (.inr rfl))) (dx_va 10 rfl rfl (by first | exact .inl rfl | exact .inr (.inl rfl) | exact .inr (.inr rfl)))) (dx_va 4 rfl rfl (by first | exact .inl rfl | exact .inr (.inl rfl) | exact .inr (.inr rfl)))))) fun told24 => (ds_at (ρ' := [.un, .po, .va book16, .va table14, .va struck17, .un, .va lots18, .va names19, .va told24, .un, .va j23, .va i21, .un, .un, .va trial12]) rfl (ds_ifx (RA := Xx (Unit)) (εA := enX (fun (s22 : Unit) => [.un, .po, .va book16, .va table14, .va struck17, .un, .va lots18, .va names19, .un, .un, .un, .va i21, .un, .un, .va trial12])) (conv := Xx.o) (dt_not (dt_truth (dx_call2 F_law_same (hr.mono (by decide)) (by rfl) (dx_va 8 rfl rfl (by first | exact .inl rfl | exact .inr (.inl rfl) | exact .inr (.inr rfl))) (dx_call5 F_law_reason (hr.mono (by decide)) (by rfl) (dx_va 2 rfl rfl (by first | exact .inl rfl | exact .inr (.inl rfl) | exact .inr (.inr rfl))) (dx_va 3 rfl rfl (by first | exact .inl rfl | exact .inr (.inl rfl) | exact .inr (.inr rfl))) (dx_ix (dx_va 7 rfl rfl (by first | exact .inl rfl | exact .inr (.inl rfl) | exact .inr (.inr rfl))) (dx_va 11 rfl rfl (by first | exact .inl rfl | exact .inr (.inl rfl) | exact .inr (.inr rfl)))) (dx_ix (dx_va 7 rfl rfl (by first | exact .inl rfl | exact .inr (.inl rfl) | exact .inr (.inr rfl))) (dx_va 10 rfl rfl (by first | exact .inl rfl | exact .inr (.inl rfl) | exact .inr (.inr rfl)))) (dx_va 4 rfl rfl (by first | exact .inl rfl | exact .inr (.inl rfl) | exact .inr (.inr rfl))))))) (ds_at (ρ' := [.un, .po, .va book16, .va table14, .va struck17, .un, .va lots18, .va names19, .va told24, .un, .va j23, .va i21, .un, .un, .va trial12]) rfl (ds_retI (inj := Xx.rt) (fun _ => rfl) dx_bl)) enX_no enX_o (ds_at (ρ' := [.un, .po, .va book16, .va table14, .va struck17, .un, .va lots18, .va names19, .va told24, .un, .va j23, .va i21, .un, .un, .va trial12]) rfl (ds_asg (i := 9) (dxa nd rfl (by first | exact .inl rfl | exact .inr rfl) (dx_cmpB (do_eq (r64 hr)) (dx_call2 F_law_place (hr.mono (by decide)) (by rfl) (dx_va 6 rfl rfl (by first | exact .inl rfl | exact .inr (.inl rfl) | exact .inr (.inr rfl))) (dx_ix (dx_va 7 rfl rfl (by first | exact .inl rfl | exact .inr (.inl rfl) | exact .inr (.inr rfl))) (dx_va 11 rfl rfl (by first | exact .inl rfl | exact .inr (.inl rfl) | exact .inr (.inr rfl))))) (dx_call2 F_law_place (hr.mono (by decide)) (by rfl) (dx_va 6 rfl rfl (by first | exact .inl rfl | exact .inr (.inl rfl) | exact .inr (.inr rfl))) (dx_ix (dx_va 7 rfl rfl (by first | exact .inl rfl | exact .inr (.inl rfl) | exact .inr (.inr rfl))) (dx_va 10 rfl rfl (by first | exact .inl rfl | exact .inr (.inl rfl) | exact .inr (.inr rfl))))) (by first | exact nomark _ | rfl | with_unfolding_all rfl))) fun level25 => (ds_at (ρ' := [.un, .po, .va book16, .va table14, .va struck17, .un, .va lots18, .va names19, .va told24, .va level25, .va j23, .va i21, .un, .un, .va trial12]) rfl (ds_ifx (RA := Xx (Unit)) (εA := enX (fun (s22 : Unit) => [.un, .po, .va book16, .va table14, .va struck17, .un, .va lots18, .va names19, .un, .un, .un, .va i21, .un, .un, .va trial12])) (conv := Xx.o) (dt_cmp (do_ne (r64 hr)) (dx_va 9 rfl rfl (by first | exact .inl rfl | exact .inr (.inl rfl) | exact .inr (.inr rfl))) (dx_cmpB (do_eq (r64 hr)) (dx_ix (dx_va 8 rfl rfl (by first | exact .inl rfl | exact .inr (.inl rfl) | exact .inr (.inr rfl))) dx_int) dx_str (by first | exact nomark _ | rfl | with_unfolding_all rfl)) (by first | exact nomark _ | rfl | with_unfolding_all rfl)) (ds_at (ρ' := [.un, .po, .va book16, .va table14, .va struck17, .un, .va lots18, .va names19, .va told24, .va level25, .va j23, .va i21, .un, .un, .va trial12]) rfl (ds_retI (inj := Xx.rt) (fun _ => rfl) dx_bl)) enX_no enX_o (ds_at (ρ' := [.un, .po, .va book16, .va table14, .va struck17, .un, .va lots18, .va names19, .va told24, .va level25, .va j23, .va i21, .un, .un, .va trial12]) rfl (ds_ifx (RA := Xx (Unit)) (εA := enX (fun (s22 : Unit) => [.un, .po, .va book16, .va table14, .va struck17, .un, .va lots18, .va names19, .un, .un, .un, .va i21, .un, .un, .va trial12])) (conv := Xx.o) (dt_of_dw (dw_and (dt_not (dt_truth (dx_va 9 rfl rfl (by first | exact .inl rfl | exact .inr (.inl rfl) | exact .inr (.inr rfl))))) (dw_and1 (dt_cmp (do_ne (r64 hr)) (dx_cmpB (do_eq (r64 hr)) (dx_cmpB do_gt (dx_ix (dx_va 8 rfl rfl (by first | exact .inl rfl | exact .inr (.inl rfl) | exact .inr (.inr rfl))) dx_int) (dx_ix (dx_va 8 rfl rfl (by first | exact .inl rfl | exact .inr (.inl rfl) | exact .inr (.inr rfl))) dx_int) (by first | exact nomark _ | rfl | with_unfolding_all rfl)) (dx_cmpB (do_ne (r64 hr)) (dx_ix (dx_ix (dx_ix (dx_va 2 rfl rfl (by first | exact .inl rfl | exact .inr (.inl rfl) | exact .inr (.inr rfl))) dx_int) (dx_ix (dx_va 8 rfl rfl (by first | exact .inl rfl | exact .inr (.inl rfl) | exact .inr (.inr rfl))) dx_int)) dx_int) dx_str (by first | exact nomark _ | rfl | with_unfolding_all rfl)) (by first | exact nomark _ | rfl | with_unfolding_all rfl)) (dx_cmpB do_lt (dx_ix (dx_call2 F_law_place (hr.mono (by decide)) (by rfl) (dx_va 6 rfl rfl (by first | exact .inl rfl | exact .inr (.inl rfl) | exact .inr (.inr rfl))) (dx_ix (dx_va 7 rfl rfl (by first | exact .inl rfl | exact .inr (.inl rfl) | exact .inr (.inr rfl))) (dx_va 11 rfl rfl (by first | exact .inl rfl | exact .inr (.inl rfl) | exact .inr (.inr rfl))))) dx_int) (dx_ix (dx_call2 F_law_place (hr.mono (by decide)) (by rfl) (dx_va 6 rfl rfl (by first | exact .inl rfl | exact .inr (.inl rfl) | exact .inr (.inr rfl))) (dx_ix (dx_va 7 rfl rfl (by first | exact .inl rfl | exact .inr (.inl rfl) | exact .inr (.inr rfl))) (dx_va 10 rfl rfl (by first | exact .inl rfl | exact .inr (.inl rfl) | exact .inr (.inr rfl))))) dx_int) (by first | exact nomark _ | rfl | with_unfolding_all rfl)) (by first | exact nomark _ | rfl | with_unfolding_all rfl))))) (ds_at (ρ' := [.un, .po, .va book16, .va table14, .va struck17, .un, .va lots18, .va names19, .va told24, .va level25, .va j23, .va i21, .un, .un, .va trial12]) rfl (ds_retI (inj := Xx.rt) (fun _ => rfl) dx_bl)) enX_no enX_o (ds_at (ρ' := [.un, .po, .va book16, .va table14, .va struck17, .un, .va lots18, .va names19, .va told24, .va level25, .va j23, .va i21, .un, .un, .va trial12]) rfl (ds_nil rfl (And.intro trivial (And.intro rfl (And.intro rfl (And.intro rfl (And.intro rfl (And.intro trivial (And.intro rfl (And.intro rfl (And.intro trivial (And.intro trivial (And.intro trivial (And.intro rfl (And.intro trivial (And.intro trivial (And.intro rfl trivial))))))))))))))))))))))))))) (ds_at (ρ' := [.un, .po, .va book16, .va table14, .va struck17, .un, .va lots18, .va names19, .un, .un, .va j23, .va i21, .un, .un, .va trial12]) rfl (ds_nil rfl (And.intro trivial (And.intro rfl (And.intro rfl (And.intro rfl (And.intro rfl (And.intro trivial (And.intro rfl (And.intro rfl (And.intro trivial (And.intro trivial (And.intro trivial (And.intro rfl (And.intro trivial (And.intro trivial (And.intro rfl trivial)))))))))))))))))))) (fun s22 => (ds_at (ρ' := [.un, .po, .va book16, .va table14, .va struck17, .un, .va lots18, .va names19, .un, .un, .un, .va i21, .un, .un, .va trial12]) rfl (ds_nil rfl (And.intro trivial (And.intro rfl (And.intro rfl (And.intro rfl (And.intro rfl (And.intro trivial (And.intro rfl (And.intro rfl (And.intro trivial (And.intro trivial (And.intro trivial (And.intro trivial (And.intro trivial (And.intro trivial (And.intro rfl trivial)))))))))))))))))) (fun _ => rfl)))) (fun s20 => (ds_at (ρ' := [.un, .po, .va book16, .va table14, .va struck17, .un, .va lots18, .va names19, .un, .un, .un, .un, .un, .un, .va trial12]) rfl (ds_forO (S := Unit) (η := fun s26 => [.un, .po, .va book16, .va table14, .va struck17, .un, .va lots18, .va names19, .un, .un, .un, .un, .un, .un, .va trial12]) (s0 := ()) (inj := O.rt) (di_list (dx_of_df (df_lst2 (dx_tup2 dx_str (dx_ix (dx_va 7 rfl rfl (by first | exact .inl rfl | exact .inr (.inl rfl) | exact .inr (.inr rfl))) dx_int)) (dx_tup2 (dx_ix (dx_va 7 rfl rfl (by first | exact .inl rfl | exact .inr (.inl rfl) | exact .inr (.inr rfl))) dx_int) dx_str)))) (And.intro trivial (And.intro rfl (And.intro rfl (And.intro rfl (And.intro rfl (And.intro trivial (And.intro rfl (And.intro rfl (And.intro trivial (And.intro trivial (And.intro trivial (And.intro trivial (And.intro trivial (And.intro trivial (And.intro rfl trivial))))))))))))))) (fun s26 => (dg_nm 13 nd rfl (by first | exact .inl rfl | exact .inr rfl))) (fun s26 pair27 => (ds_at (ρ' := [.un, .po, .va book16, .va table14, .va struck17, .un, .va lots18, .va names19, .un, .un, .un, .un, .un, .va pair27, .va trial12]) rfl (ds_try1 (i := 12) (C := (xc ("NoSide" : Str)).1) (f := ("side" : Str)) hr rfl nd rfl rfl GX.x_NoSide (Prod.ext rfl GX.s_NoSide) (by rfl) (fun W => (dxe_call5 Freason (hr.mono (by decide)) (by rfl) (dx_va 2 rfl rfl (by first | exact .inl rfl | exact .inr (.inl rfl) | exact .inr (.inr rfl))) (dx_va 3 rfl rfl (by first | exact .inl rfl | exact .inr (.inl rfl) | exact .inr (.inr rfl))) (dx_ix (dx_va 13 rfl rfl (by first | exact .inl rfl | exact .inr (.inl rfl) | exact .inr (.inr rfl))) dx_int) (dx_ix (dx_va 13 rfl rfl (by first | exact .inl rfl | exact .inr (.inl rfl) | exact .inr (.inr rfl))) dx_int) (dx_va 4 rfl rfl (by first | exact .inl rfl | exact .inr (.inl rfl) | exact .inr (.inr rfl))))) (fun _ => rfl) (ds_at (ρ' := [.un, .po, .va book16, .va table14, .va struck17, .un, .va lots18, .va names19, .un, .un, .un, .un, .un, .va pair27, .va trial12]) rfl (ds_nil rfl (And.intro trivial (And.intro rfl (And.intro rfl (And.intro rfl (And.intro rfl (And.intro trivial (And.intro rfl (And.intro rfl (And.intro trivial (And.intro trivial (And.intro trivial (And.intro trivial (And.intro trivial (And.intro trivial (And.intro rfl trivial))))))))))))))))) (Nat.le_of_ble_eq_true rfl)))) (fun s26 => (ds_at (ρ' := [.un, .po, .va book16, .va table14, .va struck17, .un, .va lots18, .va names19, .un, .un, .un, .un, .un, .un, .va trial12]) rfl (ds_nil rfl (And.intro trivial (And.intro rfl (And.intro trivial (And.intro trivial (And.intro trivial (And.intro trivial (And.intro trivial (And.intro trivial (And.intro trivial (And.intro trivial (And.intro trivial (And.intro trivial (And.intro trivial (And.intro trivial (And.intro trivial trivial)))))))))))))))))) (fun _ => rfl)))) (fun _ => rfl)))))))))))))))))) (fun s11 => (ds_at (ρ' := [.un, .po, .un, .un, .un, .un, .un, .un, .un, .un, .un, .un, .un, .un, .un]) rfl (ds_ret dx_bl))) (fun _ => rfl)))) (fun _ => rfl)))
end
end K02
end T_W_K02

section T_R1_K02
set_option Elab.async false
set_option linter.all false
set_option maxRecDepth 1000000
set_option maxHeartbeats 1000000
set_option autoImplicit false
namespace K02
open PySem L2 DD RK
theorem t0 (a b c : D) : ixD (.tuple [a, b, c]) (.int 0) = .ret a := rfl
theorem t1 (a b c : D) : ixD (.tuple [a, b, c]) (.int 1) = .ret b := rfl
theorem t2 (a b c : D) : ixD (.tuple [a, b, c]) (.int 2) = .ret c := rfl
theorem p0 (a b : D) : ixD (.tuple [a, b]) (.int 0) = .ret a := rfl
theorem p1 (a b : D) : ixD (.tuple [a, b]) (.int 1) = .ret b := rfl
theorem q0 (a b c d : D) : ixD (.tuple [a, b, c, d]) (.int 0) = .ret a := rfl
theorem q1 (a b c d : D) : ixD (.tuple [a, b, c, d]) (.int 1) = .ret b := rfl
theorem q2 (a b c d : D) : ixD (.tuple [a, b, c, d]) (.int 2) = .ret c := rfl
theorem q3 (a b c d : D) : ixD (.tuple [a, b, c, d]) (.int 3) = .ret d := rfl
theorem b2_retL {f : D → D → T (List D)} (x y : D) : T.b2 f (.ret x) (.ret y) = f x y := rfl
theorem b2_ret {f : D → D → T D} (x y : D) : T.b2 f (.ret x) (.ret y) = f x y := rfl
theorem seen_ok {m : Nat × Nat × Int} {r : Int × Int} {side : Nat} (h1 : m.1 < 8) (hs : side < 8) : m_seen_from (eM m) (eR (some r)) (sd side) = .ret (if m.1 = side then .tuple [.int r.1, .int r.2, .bool false] else .tuple [.int r.2, .int r.1, .bool true]) := by
  unfold m_seen_from
  simp only [T.b2, T.ret_bind, eM, eR, t0, p0, p1, eq_sd h1 hs]
  by_cases h : m.1 = side
  · simp only [h, decide_true, if_true]
  · simp only [h, decide_false, if_false, Bool.false_eq_true]
theorem meas_ok (b : Bk) (m : Ms) (own oth : Int) (away : Bool) : m_measured (eB b) (.str m.s) (.int own) (.int oth) (.bool away) = .ret (.int (meas b.p m own oth away)) := by
  unfold m_measured
  have hp : eqD (.str m.s) (.str ("points" : Str)) = .ret (decide (m = .pt)) := ms_eq m .pt
  have hd : eqD (.str m.s) (.str ("difference" : Str)) = .ret (decide (m = .df)) := ms_eq m .df
  have ht : eqD (.str m.s) (.str ("taken" : Str)) = .ret (decide (m = .tk)) := ms_eq m .tk
  have hg : eqD (.str m.s) (.str ("goals" : Str)) = .ret (decide (m = .gl)) := ms_eq m .gl
  have hw : eqD (.str m.s) (.str ("wins" : Str)) = .ret (decide (m = .wn)) := ms_eq m .wn
  simp only [T.b2, T.ret_bind, hp, hd, ht, hg, hw, ms_wins, gtD, int_eq, andT, orT, bo, boolD, truth, eB, eP, q1, subD, intD]
  cases m <;> simp only [meas, decide_true, decide_false, if_true, Bool.false_eq_true, if_false, reduceCtorEq, or_self, true_or, or_true, T.ret_bind]
  all_goals first
    | (by_cases c : oth < own <;> by_cases e : own = oth <;> (simp [c, e, t0, t1, t2, T.ret_bind]; done))
    | (cases away <;> by_cases c : oth < own <;> (simp [c, intD, T.ret_bind]; done))
theorem eM_ix0 (m : Nat × Nat × Int) : ixD (eM m) (.int 0) = .ret (sd m.1) := rfl
theorem eM_ix1 (m : Nat × Nat × Int) : ixD (eM m) (.int 1) = .ret (sd m.2.1) := rfl
theorem eM_sl (m : Nat × Nat × Int) : slD (eM m) none (some 2) = .ret (.tuple ([m.1, m.2.1].map sd)) := rfl
theorem eT_ms (t : Tb) : (T.b2 ixD (T.b2 ixD (.ret (eT t)) (.ret (.int 1))) (.ret (.int 2))) = .ret (.tuple (t.ms.map eM)) := rfl
theorem eT_ns (t : Tb) : (T.b2 ixD (T.b2 ixD (.ret (eT t)) (.ret (.int 1))) (.ret (.int 1))) = .ret (.tuple (t.ns.map sd)) := rfl
theorem eT_rs (t : Tb) : (T.b2 ixD (.ret (eT t)) (.ret (.int 2))) = .ret (.tuple (t.rs.map eR)) := rfl
theorem eB_ks (b : Bk) : (T.b2 ixD (.ret (eB b)) (.ret (.int 2))) = .ret (.tuple (b.ks.map eK)) := rfl
theorem eB_an (b : Bk) : (T.b2 ixD (.ret (eB b)) (.ret (.int 3))) = .ret (.str (if b.anew then ("anew" : Str) else ("on" : Str))) := rfl
theorem nis_eR (r : Option (Int × Int)) : nisD (eR r) .none = .ret r.isSome := by cases r <;> rfl
theorem two8 {m : Nat × Nat × Int} (h : m.1 < 8 ∧ m.2.1 < 8) : ∀ j ∈ [m.1, m.2.1], j < 8 := fun j hj => by
  rcases List.mem_cons.mp hj with rfl | hj
  · exact h.1
  · rcases List.mem_cons.mp hj with rfl | hj
    · exact h.2
    · cases hj
theorem mem_zip {α β : Type} {l : List α} {m : List β} {x : α × β} (h : x ∈ l.zip m) : x.1 ∈ l ∧ x.2 ∈ m := ⟨List.of_mem_zip h |>.1, List.of_mem_zip h |>.2⟩
theorem cond_or (k : Bool) (P Q : Prop) [Decidable P] [Decidable Q] : (if k = true then T.ret true else if decide P = true then T.ret (decide Q) else T.ret false) = T.ret (decide (k = true ∨ P ∧ Q)) := by
  cases k <;> by_cases p : P <;> by_cases q : Q <;> simp [p, q]
theorem value_ok {b : Bk} {t : Tb} {lot : List Nat} {k : Ms × Bool} {side : Nat} (ht : t.Ok) (hl : ∀ i ∈ lot, i < 8) (hs : side < 8) : m_value_of (eB b) (eT t) (.tuple (lot.map sd)) (eK k) (sd side) = .ret (.int (val b t lot k side)) := by
  unfold m_value_of
  rw [eT_ms, eT_rs]
  simp only [T.ret_bind, eK, pairO, Option.bind_some, opt_some, b2_retL, zsT_map eM eR ht.len]
  rw [foldM_sum (v := fun x => inc b.p lot k side x.1 x.2)]
  · rw [T.ret_bind, Int.zero_add] <;> rfl
  · rintro ⟨m, r⟩ hx s
    have h8 := ht.m8 m (mem_zip hx).1
    simp only [T.b2, T.ret_bind, pairO, Option.bind_some, opt_some, nis_eR, andT, partD, eM_sl, in_sides (two8 h8) hs, sc_all, orT, eM_ix0, eM_ix1, in_sides hl h8.1, in_sides hl h8.2]
    cases r with
    | none => simp [inc]
    | some r =>
      simp only [Option.isSome_some, if_true, inc]
      rw [T.ret_bind, seen_ok h8.1 hs, cond_or, T.ret_bind]
      by_cases c1 : side = m.1 ∨ side = m.2.1
      · by_cases c2 : k.2 = true ∨ m.1 ∈ lot ∧ m.2.1 ∈ lot
        · rw [if_pos (by simpa using c1), if_pos (by simpa using c2), if_pos (show (side = m.1 ∨ side = m.2.1) ∧ (k.2 = true ∨ m.1 ∈ lot ∧ m.2.1 ∈ lot) from ⟨c1, c2⟩), T.ret_bind]
          by_cases c3 : m.1 = side
          · rw [if_pos c3, if_pos c3.symm]
            simp only [tripO, Option.bind_some, opt_some, T.ret_bind, meas_ok, addD]
          · rw [if_neg c3, if_neg (Ne.symm c3)]
            simp only [tripO, Option.bind_some, opt_some, T.ret_bind, meas_ok, addD]
        · rw [if_pos (by simpa using c1), if_neg (by simpa using c2), if_neg (show ¬((side = m.1 ∨ side = m.2.1) ∧ (k.2 = true ∨ m.1 ∈ lot ∧ m.2.1 ∈ lot)) from fun h => c2 h.2), Int.add_zero]
      · rw [if_neg (by simpa using c1), if_neg (show ¬((side = m.1 ∨ side = m.2.1) ∧ (k.2 = true ∨ m.1 ∈ lot ∧ m.2.1 ∈ lot)) from fun h => c1 h.1), Int.add_zero]
/-! ### points struck -/
theorem struck_ok {s : List (Nat × Int)} (hs : SOk s) (k : Ms × Bool) {side : Nat} (h8 : side < 8) : m_struck_from (eS s) (eK k) (sd side) = .ret (.int (strk s k side)) := by
  unfold m_struck_from
  simp only [T.b2, T.ret_bind, key_ne]
  by_cases h : k = (.pt, true)
  · rw [h]
    simp only [decide_true, Bool.not_true, Bool.false_eq_true, if_false]
    rw [show (itemsT (eS s)) = .ret (s.map fun p => .tuple [sd p.1, .int p.2]) from rfl]
    rw [lc_map (b := fun p : Nat × Int => (sd p.1, PyData.int p.2)) (c := fun p => decide (p.1 = side)) (v := fun p => .int p.2) (Nat.lt_trans hs.1 (by decide)) (fun _ _ => rfl) (fun p hp => eq_sd (hs.2 p hp) h8) (fun _ _ _ => rfl)]
    rw [T.ret_bind, T.ret_bind, show (List.map (fun p : Nat × Int => PyData.int p.2) (s.filter fun p => decide (p.1 = side))) = ((s.filter fun p => decide (p.1 = side)).map (·.2)).map .int by rw [List.map_map] <;> rfl, sum_ints]
    unfold strk
    rw [if_pos rfl]
  · simp only [h, decide_false, Bool.not_false, if_true, strk, if_false]
/-! ### values, groups -/
theorem values_ok {b : Bk} {t : Tb} {lot : List Nat} {k : Ms × Bool} {s : List (Nat × Int)} (ht : t.Ok) (h8 : ∀ i ∈ lot, i < 8) (hp : lot.Pairwise (· < ·)) (hl : lot.length < 1000) (hs : SOk s) : m_values (eB b) (eT t) (.tuple (lot.map sd)) (eK k) (eS s) = .ret (eD lot (wor b t s lot k)) := by
  unfold m_values
  show (T.chk (lot.map sd).length _) = _
  rw [T.chk_pos _ (by rw [List.length_map]; exact Nat.lt_trans hl (by decide))]
  rw [dict_fold (w := fun i => .int (wor b t s lot k i)) lot [] hp h8 (fun p hp => nomatch hp) fun i hi acc => ?_]
  · rw [T.ret_bind, List.nil_append] <;> rfl
  · unfold dcItem
    simp only [opt_some, T.ret_bind, if_true, T.b2, value_ok ht h8 (h8 i hi), struck_ok hs k (h8 i hi), subD]
    show (T.opt (some (Sum.inr (nm i)))).bind _ = _
    rw [opt_some, T.ret_bind] <;> rfl
theorem groups_ok {lot : List Nat} {w : Nat → Int} {k : Ms × Bool} (h8 : ∀ i ∈ lot, i < 8) (hp : lot.Pairwise (· < ·)) (hl : lot.length < 64) : m_groups (eD lot w) (eK k) = .ret (.list ((grp lot w (decide (k.1 = .tk))).map fun l => .tuple (l.map sd))) := by
  obtain ⟨r1, r2, hm, pw, _, few⟩ := srI_ok (is := lot.map w) (by rw [List.length_map]; exact hl)
  have ht : eqD (.str k.1.s) (.str ("taken" : Str)) = .ret (decide (k.1 = .tk)) := ms_eq k.1 .tk
  unfold m_groups
  simp only [T.ret_bind, vals_ok, r1, T.b2, eK, p0, ht]
  have len : (if decide (k.1 = .tk) = true then srI (lot.map w) else (srI (lot.map w)).reverse).length < 16777216 := by
    split <;> (try rw [List.length_reverse]) <;> omega
  have step : ∀ ns : List Int, ns.length < 16777216 → lcT (.ret (ns.map .int)) some (fun _ => T.ret true) (fun number3 => ((((lcT (itemsK (eD lot w)) some (fun side4 => (dgetD (eD lot w) side4).bind fun x => eqD x number3) fun side4 => T.ret side4).bind fun ds => T.ret (PyData.list ds)).bind sortedD).bind fun ds => T.ret (PyData.list ds)).bind tupleD) = .ret (ns.map fun n => .tuple ((lot.filter fun i => decide (w i = n)).map sd)) := fun ns hn => by
    refine lc_all (b := fun n => PyData.int n) hn (fun _ _ => rfl) fun n _ => ?_
    rw [keys_ok, lc_map (b := sd) (c := fun i => decide (w i = n)) (v := sd) (Nat.lt_trans hl (by decide)) (fun _ _ => rfl) (fun i hi => ?_) (fun _ _ _ => rfl)]
    · rw [T.ret_bind, T.ret_bind, sort_sides (filter_lok h8 _) (hp.filter _), T.ret_bind, T.ret_bind] <;> rfl
    · rw [dget_ok h8 hi, T.ret_bind, int_eq]
  unfold grp
  rw [List.map_map]
  cases c : decide (k.1 = .tk) with
  | true =>
    rw [c, if_pos rfl] at len
    simp only [if_true, T.ret_bind]
    show (lcT (T.ret _) _ _ _).bind _ = _
    rw [step _ len, T.ret_bind] <;> rfl
  | false =>
    rw [c, if_neg Bool.false_ne_true] at len
    simp only [Bool.false_eq_true, if_false, T.ret_bind, revLD]
    show (lcT (T.ret (List.map PyData.int _).reverse) _ _ _).bind _ = _
    rw [← List.map_reverse, step _ len, T.ret_bind] <;> rfl
/-! ### the first key that parts -/
def eLs (ls : List (List Nat)) : D := .list (ls.map fun l => .tuple (l.map sd))
def encP (b : Bk) (t : Tb) (s : List (Nat × Int)) (lot : List Nat) (first : Nat) : D := match partN b t s lot first with
  | none => .none
  | some k => .tuple [.int (k : Nat), eLs (grp lot (wk b t s lot k) (tkAt b k)), eD lot (wk b t s lot k)]
theorem key_at {b : Bk} {k : Nat} (h : k < b.ks.length) : ixD (.tuple (b.ks.map eK)) (.int (k : Nat)) = .ret (eK (keyAt b k)) := by
  refine ix_tnat ?_
  rw [List.getElem?_map, List.getElem?_eq_getElem h]
  unfold keyAt
  rw [List.getD_eq_getElem?_getD, List.getElem?_eq_getElem h] <;> rfl
theorem mem_from {a n k : Nat} (h : k ∈ (List.range (n - a)).map (a + ·)) : a ≤ k ∧ k < n := by
  obtain ⟨i, hi, rfl⟩ := List.mem_map.mp h
  have := List.mem_range.mp hi
  omega
theorem len_tup (ds : List D) : lenD (.tuple ds) = .ret (.int (ds.length : Nat)) := rfl
theorem len_lst (ds : List D) : lenD (.list ds) = .ret (.int (ds.length : Nat)) := rfl
theorem gt_one (n : Nat) : gtD (.int (n : Nat)) (.int 1) = .ret (decide (1 < n)) := by
  show T.ret (decide ((1 : Int) < (n : Int))) = _
  congr 1
  exact decide_eq_decide.mpr (by omega)
def pBody (a_book a_table a_lot a_struck : D) : D → Unit → T (O Unit) := (fun d s1 => (T.opt (some d)).bind fun number2 => (((T.ret a_book).bind fun a => (T.ret a_table).bind fun b => (T.ret a_lot).bind fun c => (T.b2 ixD (T.b2 ixD (T.ret a_book) (T.ret (.int 2))) (T.ret number2)).bind fun d => (T.ret a_struck).bind fun e => m_values a b c d e).bind fun told3 => (((T.ret told3).bind fun a => (T.b2 ixD (T.b2 ixD (T.ret a_book) (T.ret (.int 2))) (T.ret number2)).bind fun b => m_groups a b).bind fun found4 => ((T.b2 gtD ((T.ret found4).bind lenD) (T.ret (.int 1))).bind fun k => if k then ((((T.ret number2).bind fun a => (T.ret found4).bind fun b => (T.ret told3).bind fun c => T.ret (.tuple [a, b, c])).bind fun d => T.ret (.rt d)) : T (Xx (Unit))).bind fun r => T.ret r.o else (T.ret (.nx ()))))))
theorem pBody_ok {b : Bk} {t : Tb} {lot : List Nat} {s : List (Nat × Int)} {k : Nat} (ht : t.Ok) (h8 : ∀ i ∈ lot, i < 8) (hp : lot.Pairwise (· < ·)) (hl : lot.length < 64) (hs : SOk s) (k2 : k < b.ks.length) :
    pBody (eB b) (eT t) (.tuple (lot.map sd)) (eS s) (.int (k : Nat)) () = .ret (if decide (1 < (srI (lot.map (wk b t s lot k))).length) = true then .rt (.tuple [.int (k : Nat), eLs (grp lot (wk b t s lot k) (tkAt b k)), eD lot (wk b t s lot k)]) else .nx ()) := by
  have ek : T.b2 ixD (T.b2 ixD (T.ret (eB b)) (T.ret (.int 2))) (T.ret (.int (k : Nat))) = .ret (eK (keyAt b k)) := by
    rw [eB_ks]
    exact key_at k2
  unfold pBody
  rw [opt_some, T.ret_bind, ek]
  simp only [T.ret_bind]
  rw [values_ok ht h8 hp (Nat.lt_trans hl (by decide)) hs, T.ret_bind]
  show ((m_groups (eD lot (wk b t s lot k)) (eK (keyAt b k))).bind _) = _
  rw [groups_ok h8 hp hl, T.ret_bind]
  show ((gtD (.int (((grp lot (wk b t s lot k) (tkAt b k)).map fun l => PyData.tuple (l.map sd)).length : Nat)) (.int 1)).bind _) = _
  rw [gt_one, T.ret_bind, List.length_map, grp_len]
  cases decide (1 < (srI (lot.map (wk b t s lot k))).length) <;> rfl
theorem parted_ok {b : Bk} {t : Tb} {lot : List Nat} {s : List (Nat × Int)} {first : Nat} (ht : t.Ok) (h8 : ∀ i ∈ lot, i < 8) (hp : lot.Pairwise (· < ·)) (hl : lot.length < 64) (hs : SOk s) (hf : first ≤ 1000) (hb : b.ks.length ≤ 1000) :
    m_parted (eB b) (eT t) (.tuple (lot.map sd)) (.int (first : Nat)) (eS s) = .ret (encP b t s lot first) := by
  have lo := loopM_first (f := pBody (eB b) (eT t) (.tuple (lot.map sd)) (eS s)) (c := fun k => decide (1 < (srI (lot.map (wk b t s lot k))).length)) (r := fun k => .tuple [.int (k : Nat), eLs (grp lot (wk b t s lot k) (tkAt b k)), eD lot (wk b t s lot k)])
    ((List.range (b.ks.length - first)).map (first + ·)) (fun k hk => pBody_ok ht h8 hp hl hs (mem_from hk).2)
  have e : m_parted (eB b) (eT t) (.tuple (lot.map sd)) (.int (first : Nat)) (eS s) = ((T.b2 range2 (T.ret (.int (first : Nat))) ((T.b2 ixD (T.ret (eB b)) (T.ret (.int 2))).bind lenD)).bind fun ds => (T.loopM (pBody (eB b) (eT t) (.tuple (lot.map sd)) (eS s)) ds ()).bind (endO (fun s1 => (T.ret .none)) (fun d => d))) := by
    with_unfolding_all rfl
  rw [e, eB_ks, T.ret_bind, len_tup, List.length_map, b2_retL, range_from hf hb, T.ret_bind, lo, T.ret_bind]
  unfold encP partN
  cases ((List.range (b.ks.length - first)).map (first + ·)).find? fun k => decide (1 < (srI (lot.map (wk b t s lot k))).length) <;> rfl
end K02
end T_R1_K02

section T_R2_K02
set_option Elab.async false
set_option linter.all false
set_option maxRecDepth 1000000
set_option maxHeartbeats 1000000
set_option autoImplicit false
namespace K02
open PySem L2 DD RK
theorem rb {α β : Type} (a : α) (f : α → T β) : (T.ret a).bind f = f a := Eq.trans (T.ret_bind a f) (Eq.refl _)
/-! ### the law's own values -/
theorem share_ok (p : Int × Int × Int) (m : Ms) (own oth : Int) (away : Bool) : m_law_share (eP p) (.str m.s) (.int own) (.int oth) (.bool away) = .ret (.int (meas p m own oth away)) := by
  unfold m_law_share
  have hp : eqD (.str m.s) (.str ("points" : Str)) = .ret (decide (m = .pt)) := ms_eq m .pt
  have hd : eqD (.str m.s) (.str ("difference" : Str)) = .ret (decide (m = .df)) := ms_eq m .df
  have ht : eqD (.str m.s) (.str ("taken" : Str)) = .ret (decide (m = .tk)) := ms_eq m .tk
  have hg : eqD (.str m.s) (.str ("goals" : Str)) = .ret (decide (m = .gl)) := ms_eq m .gl
  have hw : eqD (.str m.s) (.str ("wins" : Str)) = .ret (decide (m = .wn)) := ms_eq m .wn
  have ha : eqD (.str m.s) (.str ("awaywins" : Str)) = .ret (decide (m = .aw)) := ms_eq m .aw
  simp only [T.b2, T.ret_bind, hp, hd, ht, hg, hw, ha, gtD, int_eq, andT, orT, truth, eP, subD]
  cases m <;> simp only [meas, decide_true, decide_false, if_true, Bool.false_eq_true, if_false, reduceCtorEq, T.ret_bind]
  all_goals first
    | (by_cases c : oth < own <;> by_cases e : own = oth <;> (simp [c, e, t0, t1, t2, T.ret_bind]; done))
    | (cases away <;> by_cases c : oth < own <;> (simp [c, T.ret_bind]; done))
def wBody (a_book a_table a_lot a_key a_side : D) : D → D → T D := (fun d (s2 : D) => (T.opt (some d)).bind fun k3 => ((T.b2 ixD (T.b2 ixD (T.b2 ixD (T.ret a_table) (T.ret (.int 1))) (T.ret (.int 2))) (T.ret k3)).bind fun d => (T.opt ((tripO some some some) d)).bind fun p4 => ((T.b2 ixD (T.b2 ixD (T.ret a_table) (T.ret (.int 2))) (T.ret k3)).bind fun told11 => ((andT (T.b2 nisD (T.ret told11) (T.ret .none)) (andT (T.b2 inD (T.ret a_side) (((T.ret p4.1).bind fun a => (T.ret p4.2.1).bind fun b => T.ret [a, b]).bind fun ds => T.ret (.list ds))) (orT (T.b2 eqD (T.b2 ixD (T.ret a_key) (T.ret (.int 1))) (T.ret (.str ("all" : Str)))) (andT (T.b2 inD (T.ret p4.1) (T.ret a_lot)) (T.b2 inD (T.ret p4.2.1) (T.ret a_lot)))))).bind fun k => if k then ((T.b2 addD (T.ret s2) ((T.b2 eqD (T.ret a_side) (T.ret p4.1)).bind fun k => if k then ((T.b2 ixD (T.ret a_book) (T.ret (.int 1))).bind fun a => (T.b2 ixD (T.ret a_key) (T.ret (.int 0))).bind fun b => (T.b2 ixD (T.ret told11) (T.ret (.int 0))).bind fun c => (T.b2 ixD (T.ret told11) (T.ret (.int 1))).bind fun d => (T.ret (.bool false)).bind fun e => m_law_share a b c d e) else ((T.b2 ixD (T.ret a_book) (T.ret (.int 1))).bind fun a => (T.b2 ixD (T.ret a_key) (T.ret (.int 0))).bind fun b => (T.b2 ixD (T.ret told11) (T.ret (.int 1))).bind fun c => (T.b2 ixD (T.ret told11) (T.ret (.int 0))).bind fun d => (T.ret (.bool true)).bind fun e => m_law_share a b c d e))).bind fun total12 => (T.ret total12)) else (T.ret s2)))))
theorem range_get {α : Type} (l : List α) (d : α) : (List.range l.length).map (fun j => l.getD j d) = l := by
  apply List.ext_getElem
  · simp
  · intro i h1 h2
    simp only [List.getElem_map, List.getElem_range]
    rw [List.getD_eq_getElem?_getD, List.getElem?_eq_getElem h2] <;> rfl
theorem range_zip {α β : Type} {l : List α} {m : List β} (a : α) (b : β) (h : l.length = m.length) : (List.range m.length).map (fun j => (l.getD j a, m.getD j b)) = l.zip m := by
  apply List.ext_getElem
  · simp [h]
  · intro i h1 h2
    simp only [List.length_map, List.length_range] at h1
    simp only [List.getElem_map, List.getElem_range, List.getElem_zip]
    rw [List.getD_eq_getElem?_getD, List.getD_eq_getElem?_getD, List.getElem?_eq_getElem (by omega), List.getElem?_eq_getElem h1] <;> rfl
def mAt (t : Tb) (k : Nat) : Nat × Nat × Int := t.ms.getD k (0, 0, 0)
def rAt (t : Tb) (k : Nat) : Option (Int × Int) := t.rs.getD k none
theorem ix_m {t : Tb} {k : Nat} (h : k < t.ms.length) : ixD (.tuple (t.ms.map eM)) (.int (k : Nat)) = .ret (eM (mAt t k)) := by
  refine ix_tnat ?_
  rw [List.getElem?_map, List.getElem?_eq_getElem h]
  unfold mAt
  rw [List.getD_eq_getElem?_getD, List.getElem?_eq_getElem h] <;> rfl
theorem ix_r {t : Tb} {k : Nat} (h : k < t.rs.length) : ixD (.tuple (t.rs.map eR)) (.int (k : Nat)) = .ret (eR (rAt t k)) := by
  refine ix_tnat ?_
  rw [List.getElem?_map, List.getElem?_eq_getElem h]
  unfold rAt
  rw [List.getD_eq_getElem?_getD, List.getElem?_eq_getElem h] <;> rfl
theorem wBody_ok {b : Bk} {t : Tb} {lot : List Nat} {key : Ms × Bool} {side k : Nat} (ht : t.Ok) (hl : ∀ i ∈ lot, i < 8) (hs : side < 8) (hk : k < t.rs.length) (s : Int) :
    wBody (eB b) (eT t) (.list (lot.map sd)) (eK key) (sd side) (.int (k : Nat)) (.int s) = .ret (.int (s + inc b.p lot key side (mAt t k) (rAt t k))) := by
  have hk' : k < t.ms.length := by rw [ht.len]; exact hk
  have h8 : (mAt t k).1 < 8 ∧ (mAt t k).2.1 < 8 := ht.m8 _ (by
    unfold mAt
    rw [List.getD_eq_getElem?_getD, List.getElem?_eq_getElem hk']
    exact List.getElem_mem hk')
  unfold wBody
  rw [opt_some, T.ret_bind, eT_ms, eT_rs, b2_ret, b2_ret, ix_m hk', ix_r hk]
  generalize mAt t k = m at h8 ⊢
  generalize rAt t k = r
  simp only [T.ret_bind, eM, tripO, Option.bind_some, opt_some, T.b2, nis_eR, andT, eK, p0, p1, sc_all, orT, in_sidesL hl h8.1, in_sidesL hl h8.2]
  rw [show inD (sd side) (.list [sd m.1, sd m.2.1]) = .ret (decide (side ∈ [m.1, m.2.1])) from in_sidesL (two8 h8) hs]
  cases r with
  | none => simp [inc]
  | some r =>
    simp only [Option.isSome_some, if_true, inc, T.ret_bind]
    have eb : ixD (eB b) (.int 1) = .ret (eP b.p) := rfl
    have r0 : ixD (eR (some r)) (.int 0) = .ret (.int r.1) := rfl
    have r1 : ixD (eR (some r)) (.int 1) = .ret (.int r.2) := rfl
    simp only [eb, r0, r1, T.ret_bind, share_ok, eq_sd hs h8.1, cond_or]
    by_cases c1 : side = m.1 ∨ side = m.2.1
    · by_cases c2 : key.2 = true ∨ m.1 ∈ lot ∧ m.2.1 ∈ lot
      · rw [if_pos (show decide (side ∈ [m.1, m.2.1]) = true by simpa using c1), T.ret_bind, if_pos (decide_eq_true c2), if_pos (show (side = m.1 ∨ side = m.2.1) ∧ (key.2 = true ∨ m.1 ∈ lot ∧ m.2.1 ∈ lot) from ⟨c1, c2⟩)]
        by_cases c3 : side = m.1
        · rw [if_pos (decide_eq_true c3), if_pos c3] <;> rfl
        · rw [if_neg (by simpa using c3), if_neg c3] <;> rfl
      · rw [if_pos (show decide (side ∈ [m.1, m.2.1]) = true by simpa using c1), T.ret_bind, if_neg (by simpa using c2), if_neg (show ¬((side = m.1 ∨ side = m.2.1) ∧ (key.2 = true ∨ m.1 ∈ lot ∧ m.2.1 ∈ lot)) from fun h => c2 h.2), Int.add_zero]
    · rw [if_neg (show ¬decide (side ∈ [m.1, m.2.1]) = true by simpa using c1), T.ret_bind, if_neg Bool.false_ne_true, if_neg (show ¬((side = m.1 ∨ side = m.2.1) ∧ (key.2 = true ∨ m.1 ∈ lot ∧ m.2.1 ∈ lot)) from fun h => c1 h.1), Int.add_zero]
theorem worth_eq (a_book a_table a_lot a_key a_struck a_side : D) : m_law_worth a_book a_table a_lot a_key a_struck a_side = ((T.ret (.int 0)).bind fun total1 => ((((T.b2 ixD (T.ret a_table) (T.ret (.int 2))).bind lenD).bind range1).bind fun ds => (T.foldM (wBody a_book a_table a_lot a_key a_side) ds total1).bind fun s2 => (T.b2 subD (T.ret s2) ((T.b2 eqD (T.ret a_key) ((T.ret (.str ("points" : Str))).bind fun a => (T.ret (.str ("all" : Str))).bind fun b => T.ret (.tuple [a, b]))).bind fun k => if k then (((lcT ((T.ret a_struck).bind itemsT) some (fun row13 => (T.b2 eqD (T.b2 ixD (T.ret row13) (T.ret (.int 0))) (T.ret a_side))) fun row13 => (T.b2 ixD (T.ret row13) (T.ret (.int 1)))).bind fun ds => T.ret (.list ds)).bind sumD) else (T.ret (.int 0)))))) := by
  unfold m_law_worth wBody
  rfl
theorem worth_ok {b : Bk} {t : Tb} {lot : List Nat} {key : Ms × Bool} {s : List (Nat × Int)} {side : Nat} (ht : t.Ok) (hl : ∀ i ∈ lot, i < 8) (hs : side < 8) (hS : SOk s) :
    m_law_worth (eB b) (eT t) (.list (lot.map sd)) (eK key) (eS s) (sd side) = .ret (.int (wor b t s lot key side)) := by
  have e := worth_eq (eB b) (eT t) (.list (lot.map sd)) (eK key) (eS s) (sd side)
  simp only [rb] at e
  have hr : t.rs.length ≤ 1000 := by have := ht.few; have := ht.len; omega
  rw [e, show ixD (eT t) (.int 2) = .ret (.tuple (t.rs.map eR)) from rfl, T.ret_bind, len_tup, List.length_map, T.ret_bind, range_nat hr, T.ret_bind]
  rw [foldM_sum (e := fun k : Nat => PyData.int (k : Nat)) (v := fun k => inc b.p lot key side (mAt t k) (rAt t k)) _ _ fun k hk s => wBody_ok ht hl hs (List.mem_range.mp hk) s]
  rw [T.ret_bind, Int.zero_add, key_eq, T.ret_bind]
  have ev : ((List.range t.rs.length).map fun k => inc b.p lot key side (mAt t k) (rAt t k)).sum = val b t lot key side := by
    unfold val
    rw [← range_zip (0, 0, 0) none ht.len, List.map_map] <;> rfl
  rw [ev]
  unfold wor strk
  by_cases h : key = (.pt, true)
  · rw [if_pos (decide_eq_true h), if_pos h]
    rw [show (itemsT (eS s)) = .ret (s.map fun p => .tuple [sd p.1, .int p.2]) from rfl]
    rw [lc_map (b := fun p : Nat × Int => PyData.tuple [sd p.1, .int p.2]) (c := fun p => decide (p.1 = side)) (v := fun p => .int p.2) (Nat.lt_trans hS.1 (by decide)) (fun _ _ => rfl) (fun p hp => eq_sd (hS.2 p hp) hs) (fun _ _ _ => rfl)]
    rw [T.ret_bind, T.ret_bind, show (List.map (fun p : Nat × Int => PyData.int p.2) (s.filter fun p => decide (p.1 = side))) = ((s.filter fun p => decide (p.1 = side)).map (·.2)).map .int by rw [List.map_map] <;> rfl, sum_ints] <;> rfl
  · rw [if_neg (by simpa using h), if_neg h] <;> rfl
/-! ### the law's own first key -/
def fBody (a_book a_table a_lot a_struck : D) : D → Unit → T (O Unit) := (fun d s1 => (T.opt (some d)).bind fun k2 => ((lcT ((T.ret a_lot).bind itemsL) some (fun side4 => (T.ret true)) fun side4 => ((T.ret a_book).bind fun a => (T.ret a_table).bind fun b => (T.ret a_lot).bind fun c => (T.b2 ixD (T.b2 ixD (T.ret a_book) (T.ret (.int 2))) (T.ret k2)).bind fun d => (T.ret a_struck).bind fun e => (T.ret side4).bind fun f => m_law_worth a b c d e f)).bind fun told3 => ((T.b2 gtD ((T.ret (.list told3)).bind lenSetD) (T.ret (.int 1))).bind fun k => if k then (((((T.ret (.list told3)).bind srtSetD).bind fun ds => T.ret (.list ds)).bind fun numbers5 => (((T.b2 eqD (T.b2 ixD (T.b2 ixD (T.b2 ixD (T.ret a_book) (T.ret (.int 2))) (T.ret k2)) (T.ret (.int 0))) (T.ret (.str ("taken" : Str)))).bind fun k => if k then (T.ret numbers5) else (((T.ret numbers5).bind revLD).bind fun ds => T.ret (.list ds))).bind fun numbers6 => (((((T.ret k2).bind fun a => (((lcT ((T.ret numbers6).bind itemsL) some (fun number10 => (T.ret true)) fun number10 => ((lcT (((T.ret a_lot).bind lenD).bind range1) some (fun j11 => (T.b2 eqD (T.b2 ixD (T.ret (.list told3)) (T.ret j11)) (T.ret number10))) fun j11 => (T.b2 ixD (T.ret a_lot) (T.ret j11))).bind fun ds => T.ret (.list ds))).bind fun ds => T.ret (.list ds)).bind fun a => ((((lcT (((T.ret a_lot).bind lenD).bind range1) some (fun j12 => (T.ret true)) fun j12 => ((T.b2 ixD (T.ret a_lot) (T.ret j12)).bind fun a => (T.b2 ixD (T.ret (.list told3)) (T.ret j12)).bind fun b => T.ret (.tuple [a, b]))).bind fun ds => T.ret (.list ds)).bind dictPD).bind fun a => (T.ret []).bind fun as => T.ret (a :: as)).bind fun as => T.ret (a :: as)).bind fun as => T.ret (a :: as)).bind fun ds => T.chk ds.length (T.ret ds)).bind fun ds => T.ret (.list ds)).bind fun d => T.ret (.rt d)))) : T (Xx (Unit))).bind fun r => T.ret r.o else (T.ret (.nx ())))))
def eLL (ls : List (List Nat)) : D := .list (ls.map fun l => .list (l.map sd))
theorem pairs_ok : ∀ (l : List Nat) (w : Nat → Int), pairsKD (l.map fun i => .tuple [sd i, .int (w i)]) = some (l.map fun i => (Sum.inr (nm i), .int (w i)))
  | [], _ => rfl
  | i :: l, w => by
    have ih := pairs_ok l w
    show ((keyD (sd i)).bind fun kk => (pairsKD (l.map fun i => .tuple [sd i, .int (w i)])).map fun r => (kk, PyData.int (w i)) :: r) = _
    rw [ih] <;> rfl
theorem merge_new : ∀ (l acc : List (Key × D)), (acc ++ l).Pairwise (fun a b => a.1 ≠ b.1) → mergeA acc l = acc ++ l
  | [], acc, _ => by rw [List.append_nil] <;> rfl
  | p :: l, acc, h => by
    show mergeA (putA acc p.1 p.2) l = _
    rw [putA_new fun q hq => (List.pairwise_append.mp h).2.2 q hq p List.mem_cons_self, merge_new l _ (by rw [List.append_assoc]; exact h), List.append_assoc] <;> rfl
theorem dict_pairs {lot : List Nat} (w : Nat → Int) (h8 : ∀ i ∈ lot, i < 8) (hp : lot.Pairwise (· < ·)) : dictPD (.list (lot.map fun i => .tuple [sd i, .int (w i)])) = .ret (eD lot w) := by
  simp only [dictPD, pairs_ok]
  rw [merge_new _ _ (by
    rw [List.nil_append]
    refine List.pairwise_map.mpr (hp.imp_of_mem fun {i j} hi hj h e => ?_)
    exact absurd (nm_inj i (h8 i hi) j (h8 j hj) (Sum.inr.inj e)) (Nat.ne_of_lt h)), List.nil_append] <;> rfl
theorem ix_sd {lot : List Nat} {j : Nat} (h : j < lot.length) : ixD (.list (lot.map sd)) (.int (j : Nat)) = .ret (sd (lot.getD j 0)) := by
  refine ix_lnat ?_
  rw [List.getElem?_map, List.getElem?_eq_getElem h, List.getD_eq_getElem?_getD, List.getElem?_eq_getElem h] <;> rfl
theorem ix_w {lot : List Nat} {w : Nat → Int} {j : Nat} (h : j < lot.length) : ixD (.list ((lot.map w).map .int)) (.int (j : Nat)) = .ret (.int (w (lot.getD j 0))) := by
  refine ix_lnat ?_
  rw [List.getElem?_map, List.getElem?_map, List.getElem?_eq_getElem h, List.getD_eq_getElem?_getD, List.getElem?_eq_getElem h] <;> rfl
end K02
end T_R2_K02

section T_R3_K02
set_option Elab.async false
set_option linter.all false
set_option maxRecDepth 1000000
set_option maxHeartbeats 1000000
set_option autoImplicit false
namespace K02
open PySem L2 DD RK
theorem fBody_ok {b : Bk} {t : Tb} {lot : List Nat} {s : List (Nat × Int)} {k : Nat} (ht : t.Ok) (h8 : ∀ i ∈ lot, i < 8) (hp : lot.Pairwise (· < ·)) (hl : lot.length < 64) (hs : SOk s) (k2 : k < b.ks.length) :
    fBody (eB b) (eT t) (.list (lot.map sd)) (eS s) (.int (k : Nat)) () = .ret (if decide (1 < (srI (lot.map (wk b t s lot k))).length) = true then .rt (.list [.int (k : Nat), eLL (grp lot (wk b t s lot k) (tkAt b k)), eD lot (wk b t s lot k)]) else .nx ()) := by
  have ek : (ixD (eB b) (.int 2)).bind (fun x => ixD x (.int (k : Nat))) = .ret (eK (keyAt b k)) := by
    rw [show ixD (eB b) (.int 2) = .ret (.tuple (b.ks.map eK)) from rfl, T.ret_bind, key_at k2]
  have hl2 : lot.length < 16777216 := Nat.lt_trans hl (by decide)
  obtain ⟨r1, r2, hm, pw, r3, few⟩ := srI_ok (is := lot.map (wk b t s lot k)) (by rw [List.length_map]; exact hl)
  have told : lcT (T.ret (lot.map sd)) some (fun _ => T.ret true) (fun side4 => m_law_worth (eB b) (eT t) (.list (lot.map sd)) (eK (keyAt b k)) (eS s) side4) = .ret ((lot.map (wk b t s lot k)).map .int) := by
    rw [lc_all (b := sd) (v := fun i => .int (wk b t s lot k i)) hl2 (fun _ _ => rfl) fun i hi => worth_ok ht h8 (h8 i hi) hs, List.map_map] <;> rfl
  have tk : eqD (.str (keyAt b k).1.s) (.str ("taken" : Str)) = .ret (tkAt b k) := ms_eq (keyAt b k).1 .tk
  unfold fBody
  simp only [opt_some, T.b2, rb, ek]
  rw [show itemsL (.list (lot.map sd)) = .ret (lot.map sd) from rfl, told]
  simp only [rb, r3, gt_one, r1, eK, p0, tk]
  have rng : (lenD (.list (lot.map sd))).bind range1 = .ret ((List.range lot.length).map fun (k : Nat) => PyData.int (k : Nat)) := by
    rw [len_lst, rb, List.length_map, range_nat (by omega)]
  have hr : (List.range lot.length).length < 16777216 := by rw [List.length_range]; exact hl2
  have dct : lcT (T.ret ((List.range lot.length).map fun (k : Nat) => PyData.int (k : Nat))) some (fun _ => T.ret true) (fun j12 => (ixD (.list (lot.map sd)) j12).bind fun a => (ixD (.list ((lot.map (wk b t s lot k)).map .int)) j12).bind fun b => T.ret (.tuple [a, b])) =
      .ret (lot.map fun i => .tuple [sd i, .int (wk b t s lot k i)]) := by
    rw [lc_all (b := fun j : Nat => PyData.int (j : Nat)) (v := fun j => .tuple [sd (lot.getD j 0), .int (wk b t s lot k (lot.getD j 0))]) hr (fun _ _ => rfl) fun j hj => by rw [ix_sd (List.mem_range.mp hj), rb, ix_w (List.mem_range.mp hj), rb]]
    rw [show (fun j => PyData.tuple [sd (lot.getD j 0), .int (wk b t s lot k (lot.getD j 0))]) = (fun i => PyData.tuple [sd i, .int (wk b t s lot k i)]) ∘ fun j => lot.getD j 0 from rfl, ← List.map_map, range_get]
  have gr : ∀ ns : List Int, ns.length < 16777216 → lcT (T.ret (ns.map .int)) some (fun _ => T.ret true) (fun number10 => (lcT (T.ret ((List.range lot.length).map fun (k : Nat) => PyData.int (k : Nat))) some (fun j11 => (ixD (.list ((lot.map (wk b t s lot k)).map .int)) j11).bind fun x => eqD x number10) fun j11 => ixD (.list (lot.map sd)) j11).bind fun ds => T.ret (.list ds)) =
      .ret (ns.map fun n => .list ((lot.filter fun i => decide (wk b t s lot k i = n)).map sd)) := fun ns hn => by
    refine lc_all (b := fun n => PyData.int n) hn (fun _ _ => rfl) fun n _ => ?_
    rw [lc_map (b := fun j : Nat => PyData.int (j : Nat)) (c := fun j => decide (wk b t s lot k (lot.getD j 0) = n)) (v := fun j => sd (lot.getD j 0)) hr (fun _ _ => rfl) (fun j hj => by rw [ix_w (List.mem_range.mp hj), rb, int_eq]) (fun j hj _ => ix_sd (List.mem_range.mp hj)), rb]
    refine congrArg (fun l => T.ret (PyData.list l)) ?_
    have e := range_get lot 0
    have e2 : ((List.range lot.length).filter fun j => decide (wk b t s lot k (lot.getD j 0) = n)).map (fun j => lot.getD j 0) = lot.filter fun i => decide (wk b t s lot k i = n) := by
      have z := List.filter_map (p := fun i => decide (wk b t s lot k i = n)) (f := fun j => lot.getD j 0) (l := List.range lot.length)
      rw [e] at z
      exact z.symm
    rw [← e2, List.map_map]
    rfl
  rw [rng, dct]
  simp only [rb, dict_pairs _ h8 hp]
  cases decide (1 < (srI (lot.map (wk b t s lot k))).length) with
  | false => rfl
  | true =>
    rw [if_pos rfl, if_pos rfl]
    unfold grp eLL
    cases tkAt b k with
    | true =>
      rw [if_pos rfl, rb, show itemsL (.list ((srI (lot.map (wk b t s lot k))).map .int)) = .ret ((srI (lot.map (wk b t s lot k))).map .int) from rfl, gr _ (by omega)]
      simp only [rb, if_true, List.map_map]
      rfl
    | false =>
      rw [if_neg Bool.false_ne_true, show revLD (.list ((srI (lot.map (wk b t s lot k))).map .int)) = .ret ((srI (lot.map (wk b t s lot k))).reverse.map .int) by rw [List.map_reverse] <;> rfl, rb, rb]
      rw [show itemsL (.list ((srI (lot.map (wk b t s lot k))).reverse.map .int)) = .ret ((srI (lot.map (wk b t s lot k))).reverse.map .int) from rfl, gr _ (by rw [List.length_reverse]; omega)]
      simp only [rb, Bool.false_eq_true, if_false, List.map_map]
      rfl
theorem first_eq (a_book a_table a_lot a_begun a_struck : D) : m_law_first_key a_book a_table a_lot a_begun a_struck = ((T.b2 range2 (T.ret a_begun) ((T.b2 ixD (T.ret a_book) (T.ret (.int 2))).bind lenD)).bind fun ds => (T.loopM (fBody a_book a_table a_lot a_struck) ds ()).bind (endO (fun s1 => (T.ret .none)) (fun d => d))) := by
  unfold m_law_first_key fBody
  rfl
def encF (b : Bk) (t : Tb) (s : List (Nat × Int)) (lot : List Nat) (first : Nat) : D := match partN b t s lot first with
  | none => .none
  | some k => .list [.int (k : Nat), eLL (grp lot (wk b t s lot k) (tkAt b k)), eD lot (wk b t s lot k)]
theorem first_ok {b : Bk} {t : Tb} {lot : List Nat} {s : List (Nat × Int)} {first : Nat} (ht : t.Ok) (h8 : ∀ i ∈ lot, i < 8) (hp : lot.Pairwise (· < ·)) (hl : lot.length < 64) (hs : SOk s) (hf : first ≤ 1000) (hb : b.ks.length ≤ 1000) :
    m_law_first_key (eB b) (eT t) (.list (lot.map sd)) (.int (first : Nat)) (eS s) = .ret (encF b t s lot first) := by
  have lo := loopM_first (f := fBody (eB b) (eT t) (.list (lot.map sd)) (eS s)) (c := fun k => decide (1 < (srI (lot.map (wk b t s lot k))).length)) (r := fun k => .list [.int (k : Nat), eLL (grp lot (wk b t s lot k) (tkAt b k)), eD lot (wk b t s lot k)])
    ((List.range (b.ks.length - first)).map (first + ·)) (fun k hk => fBody_ok ht h8 hp hl hs (mem_from hk).2)
  rw [first_eq, eB_ks, T.ret_bind, len_tup, List.length_map, b2_retL, range_from hf hb, T.ret_bind, lo, T.ret_bind]
  unfold encF partN
  cases ((List.range (b.ks.length - first)).map (first + ·)).find? fun k => decide (1 < (srI (lot.map (wk b t s lot k))).length) <;> rfl
end K02
end T_R3_K02

section T_R4_K02
set_option Elab.async false
set_option linter.all false
set_option maxRecDepth 1000000
set_option maxHeartbeats 1000000
set_option autoImplicit false
namespace RK
open PySem DD L2
/-! ### the reason of a place, plainly -/
inductive Rs where
  | lv (lot : List Nat)
  | pa (lot : List Nat) (k : Nat) (a c : Int)
def eRs : Rs → D
  | .lv lot => .tuple [.str ("level" : Str), .tuple (lot.map sd)]
  | .pa lot k a c => .tuple [.str ("parted" : Str), .tuple (lot.map sd), .int (k : Nat), .int a, .int c]
def flw (b : Bk) (k : Nat) : Nat := if b.anew then 0 else k + 1
def own (w : Nat → Int) (lot : List Nat) (one : Nat) : List Nat := lot.filter fun i => decide (w i = w one)
def reas (b : Bk) (t : Tb) (s : List (Nat × Int)) (one oth : Nat) : Nat → List Nat → Nat → Option Rs
  | 0, _, _ => none
  | n + 1, lot, first => match partN b t s lot first with
    | none => some (.lv lot)
    | some k => if wk b t s lot k one ≠ wk b t s lot k oth then some (.pa lot k (wk b t s lot k one) (wk b t s lot k oth)) else reas b t s one oth n (own (wk b t s lot k) lot one) (flw b k)
theorem part_some {b : Bk} {t : Tb} {s : List (Nat × Int)} {lot : List Nat} {first k : Nat} (h : partN b t s lot first = some k) : first ≤ k ∧ k < b.ks.length ∧ 1 < (srI (lot.map (wk b t s lot k))).length := by
  unfold partN at h
  have h1 := List.find?_some h
  have h2 := List.mem_of_find?_eq_some h
  obtain ⟨i, hi, rfl⟩ := List.mem_map.mp h2
  have := List.mem_range.mp hi
  exact ⟨by omega, by omega, of_decide_eq_true h1⟩
/-- two sides of which the key tells different numbers -/
theorem two_of {lot : List Nat} {w : Nat → Int} (hl : lot.length < 64) (h : 1 < (srI (lot.map w)).length) : ∃ i ∈ lot, ∃ j ∈ lot, w i < w j := by
  obtain ⟨_, _, hm, pw, _⟩ := srI_ok (is := lot.map w) (by rw [List.length_map]; exact hl)
  match e : srI (lot.map w), h with
  | x :: y :: l, _ =>
    rw [e] at hm pw
    obtain ⟨i, hi, rfl⟩ := List.mem_map.mp ((hm x).mp (by simp))
    obtain ⟨j, hj, rfl⟩ := List.mem_map.mp ((hm y).mp (by simp))
    exact ⟨i, hi, j, hj, (List.pairwise_cons.mp pw).1 _ (by simp)⟩
theorem own_less {lot : List Nat} {w : Nat → Int} {one : Nat} (hl : lot.length < 64) (h : 1 < (srI (lot.map w)).length) : (own w lot one).length < lot.length := by
  obtain ⟨i, hi, j, hj, hij⟩ := two_of hl h
  have : ∃ x ∈ lot, ¬ (decide (w x = w one) = true) := by
    by_cases e : w i = w one
    · exact ⟨j, hj, by simp; omega⟩
    · exact ⟨i, hi, by simpa using e⟩
  obtain ⟨x, hx, n⟩ := this
  unfold own
  exact List.length_filter_lt_length_iff_exists.mpr ⟨x, hx, n⟩
theorem own_mem {lot : List Nat} {w : Nat → Int} {one : Nat} (h : one ∈ lot) : one ∈ own w lot one := List.mem_filter.mpr ⟨h, by simp⟩
theorem reas_some {b : Bk} {t : Tb} {s : List (Nat × Int)} {one oth : Nat} : ∀ (n : Nat) (lot : List Nat) (first : Nat), lot.length ≤ n → lot.length < 64 → one ∈ lot → ∃ r, reas b t s one oth n lot first = some r
  | 0, lot, first, h, _, h1 => by
    have : lot = [] := List.eq_nil_of_length_eq_zero (by omega)
    rw [this] at h1
    cases h1
  | n + 1, lot, first, h, hl, h1 => by
    unfold reas
    cases e : partN b t s lot first with
    | none => exact ⟨_, rfl⟩
    | some k =>
      by_cases c : wk b t s lot k one ≠ wk b t s lot k oth
      · exact ⟨_, if_pos c⟩
      · have h3 := own_less (one := one) hl (part_some e).2.2
        obtain ⟨r, hr⟩ := reas_some n (own (wk b t s lot k) lot one) (flw b k) (by omega) (by omega) (own_mem h1)
        exact ⟨r, by simp only [c, if_false]; exact hr⟩
theorem reas_mono {b : Bk} {t : Tb} {s : List (Nat × Int)} {one oth : Nat} {r : Rs} : ∀ (n m : Nat) (lot : List Nat) (first : Nat), reas b t s one oth n lot first = some r → n ≤ m → reas b t s one oth m lot first = some r
  | 0, _, _, _, h, _ => by cases h
  | n + 1, 0, _, _, _, h => absurd h (by omega)
  | n + 1, m + 1, lot, first, h, hm => by
    unfold reas at h ⊢
    cases e : partN b t s lot first with
    | none => rw [e] at h; exact h
    | some k =>
      rw [e] at h
      simp only at h ⊢
      split
      · rename_i c
        rw [if_pos c] at h
        exact h
      · rename_i c
        rw [if_neg c] at h
        exact reas_mono n m _ _ h (by omega)
/-- the groups that hold one: its own -/
theorem grp_own {lot : List Nat} {w : Nat → Int} {tk : Bool} {one : Nat} (hl : lot.length < 64) (h : one ∈ lot) : ((grp lot w tk).filter fun g => decide (one ∈ g))[0]? = some (own w lot one) := by
  have hin : own w lot one ∈ (grp lot w tk).filter fun g => decide (one ∈ g) := List.mem_filter.mpr ⟨(mem_grp hl).mpr ⟨one, h, rfl⟩, by simpa using own_mem h⟩
  have all : ∀ g ∈ (grp lot w tk).filter fun g => decide (one ∈ g), g = own w lot one := fun g hg => by
    obtain ⟨h1, h2⟩ := List.mem_filter.mp hg
    obtain ⟨i, _, rfl⟩ := (mem_grp hl).mp h1
    have h2 := of_decide_eq_true h2
    have e := of_decide_eq_true (List.mem_filter.mp h2).2
    unfold own
    rw [e]
  match e : (grp lot w tk).filter fun g => decide (one ∈ g) with
  | [] => rw [e] at hin; cases hin
  | g :: l => exact congrArg some (all g (by rw [e]; simp))
end RK
namespace K02
open PySem L2 DD RK
def wrBody (a_book a_table a_one a_other a_struck : D) : D × D → T (OX (D × D) Rx) := (fun s5 => (((T.ret a_book).bind fun a => (T.ret a_table).bind fun b => (T.ret s5.1).bind fun c => (T.ret s5.2).bind fun d => (T.ret a_struck).bind fun e => m_parted a b c d e).bind fun told6 => ((T.b2 isB (T.ret told6) (T.ret .none)).bind fun k => if k then ((((T.ret (.str ("level" : Str))).bind fun a => (T.ret s5.1).bind fun b => T.ret (.tuple [a, b])).bind fun d => T.ret (XX.out (Rx.v d))) : T (XX (D × D) Rx)).bind fun r => T.ret r.o else ((T.ret told6).bind fun d => (T.opt ((tripO some some some) d)).bind fun p7 => ((T.b2 neD (T.b2 dgetD (T.ret p7.2.2) (T.ret a_one)) (T.b2 dgetD (T.ret p7.2.2) (T.ret a_other))).bind fun k => if k then (((((T.ret (.str ("parted" : Str))).bind fun a => ((T.ret s5.1).bind fun a => ((T.ret p7.1).bind fun a => ((T.b2 dgetD (T.ret p7.2.2) (T.ret a_one)).bind fun a => ((T.b2 dgetD (T.ret p7.2.2) (T.ret a_other)).bind fun a => (T.ret []).bind fun as => T.ret (a :: as)).bind fun as => T.ret (a :: as)).bind fun as => T.ret (a :: as)).bind fun as => T.ret (a :: as)).bind fun as => T.ret (a :: as)).bind fun ds => T.chk ds.length (T.ret (.tuple ds))).bind fun d => T.ret (XX.out (Rx.v d))) : T (XX (D × D) Rx)).bind fun r => T.ret r.o else ((T.b2 ixD ((lcT ((T.ret p7.2.1).bind itemsL) some (fun part15 => (T.b2 inD (T.ret a_one) (T.ret part15))) fun part15 => (T.ret part15)).bind fun ds => T.ret (.list ds)) (T.ret (.int 0))).bind fun lot14 => (((T.b2 eqD (T.b2 ixD (T.ret a_book) (T.ret (.int 3))) (T.ret (.str ("anew" : Str)))).bind fun k => if k then (T.ret (.int 0)) else (T.b2 addD (T.ret p7.1) (T.ret (.int 1)))).bind fun first16 => (T.ret (.nx (lot14, first16))))))))))
def nsBody (a_table : D) : D → Unit → T (OX Unit Rx) := (fun d s1 => (T.opt (some d)).bind fun side2 => ((T.b2 ninD (T.ret side2) (T.b2 ixD (T.b2 ixD (T.ret a_table) (T.ret (.int 1))) (T.ret (.int 1)))).bind fun k => if k then (((T.ret side2).bind fun d => T.ret (XX.out (Rx.x ("NoSide" : Str) d))) : T (XX (Unit) Rx)).bind fun r => T.ret r.o else (T.ret (.nx ()))))
def lrBody (a_book a_table a_one a_other a_struck : D) : D → D × D → T (O (D × D)) := (fun d s3 => (T.opt (some d)).bind fun turn4 => (((T.ret a_book).bind fun a => (T.ret a_table).bind fun b => (T.ret s3.1).bind fun c => (T.ret s3.2).bind fun d => (T.ret a_struck).bind fun e => m_law_first_key a b c d e).bind fun told5 => ((T.b2 isB (T.ret told5) (T.ret .none)).bind fun k => if k then ((((T.ret (.str ("level" : Str))).bind fun a => ((T.ret s3.1).bind tupleD).bind fun b => T.ret (.tuple [a, b])).bind fun d => T.ret (.rt d)) : T (Xx (D × D))).bind fun r => T.ret r.o else ((T.b2 neD (T.b2 dgetD (T.b2 ixD (T.ret told5) (T.ret (.int 2))) (T.ret a_one)) (T.b2 dgetD (T.b2 ixD (T.ret told5) (T.ret (.int 2))) (T.ret a_other))).bind fun k => if k then (((((T.ret (.str ("parted" : Str))).bind fun a => (((T.ret s3.1).bind tupleD).bind fun a => ((T.b2 ixD (T.ret told5) (T.ret (.int 0))).bind fun a => ((T.b2 dgetD (T.b2 ixD (T.ret told5) (T.ret (.int 2))) (T.ret a_one)).bind fun a => ((T.b2 dgetD (T.b2 ixD (T.ret told5) (T.ret (.int 2))) (T.ret a_other)).bind fun a => (T.ret []).bind fun as => T.ret (a :: as)).bind fun as => T.ret (a :: as)).bind fun as => T.ret (a :: as)).bind fun as => T.ret (a :: as)).bind fun as => T.ret (a :: as)).bind fun ds => T.chk ds.length (T.ret (.tuple ds))).bind fun d => T.ret (.rt d)) : T (Xx (D × D))).bind fun r => T.ret r.o else ((T.b2 ixD ((lcT ((T.b2 ixD (T.ret told5) (T.ret (.int 1))).bind itemsL) some (fun part7 => (T.b2 inD (T.ret a_one) (T.ret part7))) fun part7 => (T.ret part7)).bind fun ds => T.ret (.list ds)) (T.ret (.int 0))).bind fun lot6 => (((T.b2 eqD (T.b2 ixD (T.ret a_book) (T.ret (.int 3))) (T.ret (.str ("anew" : Str)))).bind fun k => if k then (T.ret (.int 0)) else (T.b2 addD (T.b2 ixD (T.ret told5) (T.ret (.int 0))) (T.ret (.int 1)))).bind fun begun8 => (T.ret (.nx (lot6, begun8)))))))))
theorem reason_eq (a_book a_table a_one a_other a_struck : D) : m_reason a_book a_table a_one a_other a_struck = ((((T.ret a_one).bind fun a => (T.ret a_other).bind fun b => T.ret (.tuple [a, b])).bind itemsT).bind fun ds => (T.loopX (S := Unit) (R := Rx) (nsBody a_table) ds ()).bind (endX (fun s1 => ((T.b2 ixD (T.b2 ixD (T.ret a_table) (T.ret (.int 1))) (T.ret (.int 1))).bind fun lot3 => ((T.ret (.int 0)).bind fun first4 => ((T.whileX (S := D × D) (R := Rx) (fun s5 => ((T.ret (.bool true)).bind truth)) (wrBody a_book a_table a_one a_other a_struck) 8 (lot3, first4)).bind (endX (fun s5 => (T.fail)) (fun r => r)))))) (fun r => r))) := by
  unfold m_reason wrBody nsBody
  rfl
theorem lreason_eq (a_book a_table a_one a_other a_struck : D) : m_law_reason a_book a_table a_one a_other a_struck = ((((T.b2 ixD (T.b2 ixD (T.ret a_table) (T.ret (.int 1))) (T.ret (.int 1))).bind listD).bind fun ds => T.ret (.list ds)).bind fun lot1 => ((T.ret (.int 0)).bind fun begun2 => (((T.ret (.int 60)).bind range1).bind fun ds => (T.loopM (S := D × D) (lrBody a_book a_table a_one a_other a_struck) ds (lot1, begun2)).bind (endO (fun s3 => (T.ret .none)) (fun d => d))))) := by
  unfold m_law_reason lrBody
  rfl
end K02
end T_R4_K02

section T_R5_K02
set_option Elab.async false
set_option linter.all false
set_option maxRecDepth 1000000
set_option maxHeartbeats 1000000
set_option autoImplicit false
namespace K02
open PySem L2 DD RK
/-- a good run of a lot -/
structure LL (lot : List Nat) : Prop where
  n8 : ∀ i ∈ lot, i < 8
  asc : lot.Pairwise (· < ·)
  few : lot.length < 64
theorem LL.own {lot : List Nat} (h : LL lot) (w : Nat → Int) (one : Nat) : LL (own w lot one) := ⟨fun i hi => h.n8 i (List.mem_filter.mp hi).1, h.asc.filter _, Nat.lt_of_le_of_lt (List.length_filter_le _ _) h.few⟩
theorem flw_le {b : Bk} {k : Nat} (hb : b.ks.length ≤ 999) (hk : k < b.ks.length) : flw b k ≤ 1000 := by
  unfold flw
  split <;> omega
theorem flw_ok (b : Bk) (k : Nat) : ((eqD (.str (if b.anew then ("anew" : Str) else ("on" : Str))) (.str ("anew" : Str))).bind fun c => if c then (T.ret (.int 0)) else (addD (.int (k : Nat)) (.int 1))) = .ret (.int (flw b k : Nat)) := by
  rw [anew_eq, rb]
  unfold flw
  cases b.anew <;> rfl
section
variable {b : Bk} {t : Tb} {s : List (Nat × Int)} {one oth : Nat} {lot : List Nat} {first : Nat}
theorem pick_ok (h : LL lot) (w : Nat → Int) (tk : Bool) (h1 : one ∈ lot) (ec : List Nat → D) (hin : ∀ g : List Nat, (∀ i ∈ g, i < 8) → inD (sd one) (ec g) = .ret (decide (one ∈ g))) :
    (((lcT (T.ret ((grp lot w tk).map ec)) some (fun part => inD (sd one) part) fun part => T.ret part).bind fun ds => T.ret (PyData.list ds)).bind fun x => ixD x (.int 0)) = .ret (ec (own w lot one)) := by
  have few : (grp lot w tk).length < 16777216 := by
    rw [grp_len]
    have := (srI_ok (is := lot.map w) (by rw [List.length_map]; exact h.few)).2.2.2.2.2
    omega
  rw [lc_map (b := ec) (c := fun g => decide (one ∈ g)) (v := ec) few (fun _ _ => rfl) (fun g hg => hin g fun i hi => by
    obtain ⟨j, _, rfl⟩ := (mem_grp h.few).mp hg
    exact h.n8 i (List.mem_filter.mp hi).1) (fun _ _ _ => rfl), rb, rb]
  refine ix_lnat (k := 0) ?_
  rw [List.getElem?_map, grp_own h.few h1] <;> rfl
theorem wrBody_ok (ht : t.Ok) (h : LL lot) (hs : SOk s) (hf : first ≤ 1000) (hb : b.ks.length ≤ 999) (h1 : one ∈ lot) (h2 : oth ∈ lot) :
    wrBody (eB b) (eT t) (sd one) (sd oth) (eS s) (.tuple (lot.map sd), .int (first : Nat)) = .ret (match partN b t s lot first with
      | none => .out (.v (eRs (.lv lot)))
      | some k => if wk b t s lot k one ≠ wk b t s lot k oth then .out (.v (eRs (.pa lot k (wk b t s lot k one) (wk b t s lot k oth)))) else .nx (.tuple ((own (wk b t s lot k) lot one).map sd), .int (flw b k : Nat))) := by
  unfold wrBody
  simp only [rb]
  rw [parted_ok ht h.n8 h.asc h.few hs hf (by omega), rb]
  unfold encP
  cases e : partN b t s lot first with
  | none => rfl
  | some k =>
    have g1 := dget_ok (w := wk b t s lot k) h.n8 h1
    have g2 := dget_ok (w := wk b t s lot k) h.n8 h2
    simp only [T.b2, rb, show isB (PyData.tuple [.int (k : Nat), eLs (grp lot (wk b t s lot k) (tkAt b k)), eD lot (wk b t s lot k)]) .none = .ret false from rfl, Bool.false_eq_true, if_false, tripO, Option.bind_some, opt_some, g1, g2, int_ne]
    by_cases c : wk b t s lot k one = wk b t s lot k oth
    · simp only [c, decide_true, Bool.not_true, Bool.false_eq_true, if_false, ne_eq, not_true_eq_false]
      rw [show itemsL (eLs (grp lot (wk b t s lot k) (tkAt b k))) = .ret ((grp lot (wk b t s lot k) (tkAt b k)).map fun l => PyData.tuple (l.map sd)) from rfl]
      have p := pick_ok h (wk b t s lot k) (tkAt b k) h1 (fun l => PyData.tuple (l.map sd)) fun g hg => in_sides hg (h.n8 one h1)
      rw [p, rb, show ixD (eB b) (.int 3) = .ret (.str (if b.anew then ("anew" : Str) else ("on" : Str))) from rfl, rb, flw_ok, rb]
    · simp only [c, decide_false, Bool.not_false, if_true, ne_eq, not_false_eq_true]
      rfl
theorem lrBody_ok (ht : t.Ok) (h : LL lot) (hs : SOk s) (hf : first ≤ 1000) (hb : b.ks.length ≤ 999) (h1 : one ∈ lot) (h2 : oth ∈ lot) (d : D) :
    lrBody (eB b) (eT t) (sd one) (sd oth) (eS s) d (.list (lot.map sd), .int (first : Nat)) = .ret (match partN b t s lot first with
      | none => .rt (eRs (.lv lot))
      | some k => if wk b t s lot k one ≠ wk b t s lot k oth then .rt (eRs (.pa lot k (wk b t s lot k one) (wk b t s lot k oth))) else .nx (.list ((own (wk b t s lot k) lot one).map sd), .int (flw b k : Nat))) := by
  unfold lrBody
  simp only [opt_some, rb]
  rw [first_ok ht h.n8 h.asc h.few hs hf (by omega), rb]
  unfold encF
  cases e : partN b t s lot first with
  | none => rfl
  | some k =>
    have g1 := dget_ok (w := wk b t s lot k) h.n8 h1
    have g2 := dget_ok (w := wk b t s lot k) h.n8 h2
    have l0 : ixD (PyData.list [.int (k : Nat), eLL (grp lot (wk b t s lot k) (tkAt b k)), eD lot (wk b t s lot k)]) (.int 0) = .ret (.int (k : Nat)) := rfl
    have l1 : ixD (PyData.list [.int (k : Nat), eLL (grp lot (wk b t s lot k) (tkAt b k)), eD lot (wk b t s lot k)]) (.int 1) = .ret (eLL (grp lot (wk b t s lot k) (tkAt b k))) := rfl
    have l2 : ixD (PyData.list [.int (k : Nat), eLL (grp lot (wk b t s lot k) (tkAt b k)), eD lot (wk b t s lot k)]) (.int 2) = .ret (eD lot (wk b t s lot k)) := rfl
    simp only [T.b2, rb, show isB (PyData.list [.int (k : Nat), eLL (grp lot (wk b t s lot k) (tkAt b k)), eD lot (wk b t s lot k)]) .none = .ret false from rfl, Bool.false_eq_true, if_false, l0, l1, l2, g1, g2, int_ne]
    by_cases c : wk b t s lot k one = wk b t s lot k oth
    · simp only [c, decide_true, Bool.not_true, Bool.false_eq_true, if_false, ne_eq, not_true_eq_false]
      rw [show itemsL (eLL (grp lot (wk b t s lot k) (tkAt b k))) = .ret ((grp lot (wk b t s lot k) (tkAt b k)).map fun l => PyData.list (l.map sd)) from rfl]
      have p := pick_ok h (wk b t s lot k) (tkAt b k) h1 (fun l => PyData.list (l.map sd)) fun g hg => in_sidesL hg (h.n8 one h1)
      rw [p, rb, show ixD (eB b) (.int 3) = .ret (.str (if b.anew then ("anew" : Str) else ("on" : Str))) from rfl, rb, flw_ok, rb]
    · simp only [c, decide_false, Bool.not_false, if_true, ne_eq, not_false_eq_true]
      rfl
end
section
variable {b : Bk} {t : Tb} {s : List (Nat × Int)} {one oth : Nat}
theorem own_oth {w : Nat → Int} {lot : List Nat} (h2 : oth ∈ lot) (c : ¬ (w one ≠ w oth)) : oth ∈ own w lot one := List.mem_filter.mpr ⟨h2, by simp only [ne_eq, Classical.not_not] at c; simp [c]⟩
theorem while_ok (ht : t.Ok) (hs : SOk s) (hb : b.ks.length ≤ 999) {c : D × D → T Bool} (hc : ∀ x, c x = .ret true) {r : Rs} : ∀ (n : Nat) (lot : List Nat) (first : Nat), LL lot → first ≤ 1000 → one ∈ lot → oth ∈ lot → reas b t s one oth n lot first = some r →
    T.whileX c (wrBody (eB b) (eT t) (sd one) (sd oth) (eS s)) n (.tuple (lot.map sd), .int (first : Nat)) = .ret (.out (.v (eRs r)))
  | 0, _, _, _, _, _, _, h => by cases h
  | n + 1, lot, first, hl, hf, h1, h2, h => by
    unfold T.whileX
    rw [hc, rb, if_pos rfl, wrBody_ok ht hl hs hf hb h1 h2, rb]
    unfold reas at h
    cases e : partN b t s lot first with
    | none =>
      rw [e] at h
      cases h
      rfl
    | some k =>
      rw [e] at h
      simp only at h ⊢
      by_cases c : wk b t s lot k one ≠ wk b t s lot k oth
      · rw [if_pos c] at h ⊢
        cases h
        rfl
      · rw [if_neg c] at h ⊢
        exact while_ok ht hs hb hc n _ _ (hl.own _ _) (flw_le hb (part_some e).2.1) (own_mem h1) (own_oth h2 c) h
theorem for_ok (ht : t.Ok) (hs : SOk s) (hb : b.ks.length ≤ 999) {r : Rs} : ∀ (n : Nat) (ds : List D) (lot : List Nat) (first : Nat), n ≤ ds.length → LL lot → first ≤ 1000 → one ∈ lot → oth ∈ lot → reas b t s one oth n lot first = some r →
    T.loopM (lrBody (eB b) (eT t) (sd one) (sd oth) (eS s)) ds (.list (lot.map sd), .int (first : Nat)) = .ret (.rt (eRs r))
  | 0, _, _, _, _, _, _, _, _, h => by cases h
  | n + 1, [], _, _, hn, _, _, _, _, _ => absurd hn (by simp)
  | n + 1, d :: ds, lot, first, hn, hl, hf, h1, h2, h => by
    unfold T.loopM
    rw [lrBody_ok ht hl hs hf hb h1 h2, rb]
    unfold reas at h
    cases e : partN b t s lot first with
    | none =>
      rw [e] at h
      cases h
      rfl
    | some k =>
      rw [e] at h
      simp only at h ⊢
      by_cases c : wk b t s lot k one ≠ wk b t s lot k oth
      · rw [if_pos c] at h ⊢
        cases h
        rfl
      · rw [if_neg c] at h ⊢
        exact for_ok ht hs hb n ds _ _ (by simpa using hn) (hl.own _ _) (flw_le hb (part_some e).2.1) (own_mem h1) (own_oth h2 c) h
theorem names_ll (ht : t.Ok) : LL t.ns := ⟨ht.n8, ht.asc, Nat.lt_of_le_of_lt ht.six (by decide)⟩
theorem ns_in (ht : t.Ok) {i : Nat} (hi : i < 8) : nsBody (eT t) (sd i) () = .ret (if i ∈ t.ns then .nx () else .out (.x ("NoSide" : Str) (sd i))) := by
  unfold nsBody
  rw [opt_some, rb, eT_ns]
  simp only [T.b2, rb, ninD, in_sides ht.n8 hi]
  by_cases c : i ∈ t.ns
  · simp [c]
  · simp [c]; rfl
theorem endX_nx {S R R' : Type} (k : S → T R') (inj : R → R') (x : S) : endX k inj (.nx x) = k x := Eq.trans (Eq.refl _) rfl
theorem endX_out {S R R' : Type} (k : S → T R') (inj : R → R') (x : R) : endX k inj (.out x) = .ret (inj x) := Eq.trans (Eq.refl _) rfl
/-- the program's reason -/
theorem reason_ok (ht : t.Ok) (hs : SOk s) (hb : b.ks.length ≤ 999) (h1 : one ∈ t.ns) (h2 : oth ∈ t.ns) {r : Rs} (h : reas b t s one oth 8 t.ns 0 = some r) : m_reason (eB b) (eT t) (sd one) (sd oth) (eS s) = .ret (.v (eRs r)) := by
  rw [reason_eq]
  simp only [rb]
  rw [show itemsT (PyData.tuple [sd one, sd oth]) = .ret [sd one, sd oth] from rfl, rb]
  have e : T.loopX (nsBody (eT t)) [sd one, sd oth] () = .ret (.nx ()) := by
    simp only [T.loopX, ns_in ht (ht.n8 one h1), ns_in ht (ht.n8 oth h2), h1, h2, if_true, rb]
  have w := while_ok (c := fun _ => (T.ret (.bool true)).bind truth) ht hs hb (fun _ => rfl) 8 t.ns 0 (names_ll ht) (by omega) h1 h2 h
  rw [show ((0 : Nat) : Int) = 0 from rfl] at w
  simp only [rb] at w
  rw [e, rb]
  rw [endX_nx, show T.b2 ixD (ixD (eT t) (.int 1)) (T.ret (.int 1)) = .ret (.tuple (t.ns.map sd)) from rfl, rb, w, rb, endX_out]
/-- the law's reason -/
theorem lreason_ok (ht : t.Ok) (hs : SOk s) (hb : b.ks.length ≤ 999) (h1 : one ∈ t.ns) (h2 : oth ∈ t.ns) {r : Rs} (h : reas b t s one oth 8 t.ns 0 = some r) : m_law_reason (eB b) (eT t) (sd one) (sd oth) (eS s) = .ret (eRs r) := by
  rw [lreason_eq, eT_ns, rb, show listD (.tuple (t.ns.map sd)) = .ret (t.ns.map sd) from rfl, rb, rb, rb, rb, show range1 (.int 60) = .ret ((List.range 60).map fun (k : Nat) => PyData.int (k : Nat)) from range_nat (b := 60) (by decide), rb]
  have w := for_ok ht hs hb 8 ((List.range 60).map fun (k : Nat) => PyData.int (k : Nat)) t.ns 0 (by simp) (names_ll ht) (by omega) h1 h2 h
  rw [show ((0 : Nat) : Int) = 0 from rfl] at w
  rw [w, rb]
  rfl
end
end K02
end T_R5_K02

section T_R6_K02
set_option Elab.async false
set_option linter.all false
set_option maxRecDepth 1000000
set_option maxHeartbeats 1000000
set_option autoImplicit false
namespace K02
open PySem L2 DD RK
/-! ### the same data -/
def plT : Nat → D → Bool
  | _ + 1, .int _ => true
  | _ + 1, .str x => SeqAt.shaped (.str x)
  | n + 1, .tuple ds => decide (ds.length ≤ 1000) && ds.all (plT n)
  | _, _ => false
def sBody (self : D → D → T D) (a_answer a_due : D) : D → Unit → T (O Unit) := (fun d s1 => (T.opt (some d)).bind fun k2 => ((notT (((T.b2 ixD (T.ret a_answer) (T.ret k2)).bind fun a => (T.b2 ixD (T.ret a_due) (T.ret k2)).bind fun b => self a b).bind truth)).bind fun k => if k then (((T.ret (.bool false)).bind fun d => T.ret (.rt d)) : T (Xx (Unit))).bind fun r => T.ret r.o else (T.ret (.nx ()))))
theorem same_eq (self : D → D → T D) (a_answer a_due : D) : b_law_same self a_answer a_due = ((orT (T.b2 isB (T.ret a_due) (T.ret .none)) (orT (T.b2 isB (T.ret a_due) (T.ret (.bool true))) (T.b2 isB (T.ret a_due) (T.ret (.bool false))))).bind fun k => if k then (bo (orT (andT (T.b2 isB (T.ret a_due) (T.ret .none)) (T.b2 isB (T.ret a_answer) (T.ret .none))) (orT (andT (T.b2 isB (T.ret a_due) (T.ret (.bool true))) (T.b2 isB (T.ret a_answer) (T.ret (.bool true)))) (andT (T.b2 isB (T.ret a_due) (T.ret (.bool false))) (T.b2 isB (T.ret a_answer) (T.ret (.bool false))))))) else (((T.ret a_due).bind fun d => T.ret (isiD "int" d)).bind fun k => if k then (bo (andT ((T.ret a_answer).bind fun d => T.ret (isiD "int" d)) (andT (notT ((T.ret a_answer).bind fun d => T.ret (isiD "bool" d))) (T.b2 eqD (T.ret a_answer) (T.ret a_due))))) else (((T.ret a_due).bind fun d => T.ret (isiD "str" d)).bind fun k => if k then (bo (andT ((T.ret a_answer).bind fun d => T.ret (isiD "str" d)) (T.b2 eqD (T.ret a_answer) (T.ret a_due)))) else (((T.ret a_due).bind fun d => T.ret (isiD "dict" d)).bind fun k => if k then (T.fail) else ((andT ((T.ret a_due).bind fun d => T.ret (isiD "tuple" d)) (notT ((T.ret a_answer).bind fun d => T.ret (isiD "tuple" d)))).bind fun k => if k then (T.ret (.bool false)) else ((andT ((T.ret a_due).bind fun d => T.ret (isiD "list" d)) (notT ((T.ret a_answer).bind fun d => T.ret (isiD "list" d)))).bind fun k => if k then (T.ret (.bool false)) else ((T.b2 neD ((T.ret a_answer).bind lenD) ((T.ret a_due).bind lenD)).bind fun k => if k then (T.ret (.bool false)) else ((((T.ret a_due).bind lenD).bind range1).bind fun ds => (T.loopM (S := Unit) (sBody self a_answer a_due) ds ()).bind (endO (fun s1 => (T.ret (.bool true))) (fun d => d)))))))))) := by
  unfold b_law_same sBody
  rfl
theorem eqv_self {d : D} (h : SeqAt.shaped d = true) : PyData.eqv d d = true := SeqAt.eqv_refl d (SeqAt.canLay_of_shaped h)
theorem loop_nx {f : D → Unit → T (O Unit)} : ∀ (l : List D), (∀ d ∈ l, f d () = .ret (.nx ())) → T.loopM f l () = .ret (.nx ())
  | [], _ => rfl
  | d :: l, h => by
    show (f d ()).bind _ = _
    rw [h d List.mem_cons_self, rb]
    exact loop_nx l fun e he => h e (List.mem_cons_of_mem _ he)
theorem same_ok : ∀ (n : Nat) (d : D), plT n d = true → m_law_same n d d = .ret (.bool true)
  | 0, d, h => by cases d <;> cases h
  | n + 1, d, h => by
    rw [show m_law_same (n + 1) d d = b_law_same (m_law_same n) d d from rfl, same_eq]
    cases d with
    | int i =>
      simp only [T.b2, rb, orT, andT, notT, bo, isB, DD.isNon, Bool.false_eq_true, if_false, show isiD "int" (.int i) = true from rfl, show isiD "bool" (.int i) = false from rfl, if_true, Bool.not_false, int_eq, decide_true]
    | str x =>
      have h : SeqAt.shaped (.str x) = true := h
      simp only [T.b2, rb, orT, andT, notT, bo, isB, DD.isNon, Bool.false_eq_true, if_false, show isiD "int" (.str x) = false from rfl, show isiD "str" (.str x) = true from rfl, if_true, eqD_ret h h, eqv_self h]
    | tuple ds =>
      have h : (decide (ds.length ≤ 1000) && ds.all (plT n)) = true := h
      rw [Bool.and_eq_true, decide_eq_true_eq, List.all_eq_true] at h
      have lp : T.loopM (sBody (m_law_same n) (.tuple ds) (.tuple ds)) ((List.range ds.length).map fun (k : Nat) => PyData.int (k : Nat)) () = .ret (.nx ()) := loop_nx _ fun d hd => by
        obtain ⟨k, hk, rfl⟩ := List.mem_map.mp hd
        have hk := List.mem_range.mp hk
        have e := ix_tnat (ds := ds) (List.getElem?_eq_getElem hk)
        unfold sBody
        rw [opt_some, rb]
        simp only [T.b2, rb, e, same_ok n _ (h.2 _ (List.getElem_mem hk)), truth, notT, Bool.not_true, Bool.false_eq_true, if_false]
      simp only [T.b2, rb, orT, andT, notT, bo, isB, DD.isNon, Bool.false_eq_true, if_false, show isiD "int" (.tuple ds) = false from rfl, show isiD "str" (.tuple ds) = false from rfl, show isiD "dict" (.tuple ds) = false from rfl, show isiD "tuple" (.tuple ds) = true from rfl, show isiD "list" (.tuple ds) = false from rfl, if_true, Bool.not_true, len_tup, int_ne, decide_true]
      rw [range_nat h.1, rb, lp, rb]
      rfl
    | _ => cases h
theorem sd_pl {n : Nat} {i : Nat} (h : i < 8) : plT (n + 1) (sd i) = true := sd_sh i h
theorem sides_pl {n : Nat} {l : List Nat} (h : ∀ i ∈ l, i < 8) (hl : l.length ≤ 1000) : plT (n + 2) (.tuple (l.map sd)) = true := by
  show (decide ((l.map sd).length ≤ 1000) && (l.map sd).all (plT (n + 1))) = true
  rw [Bool.and_eq_true, decide_eq_true_eq, List.length_map, List.all_eq_true]
  refine ⟨hl, fun d hd => ?_⟩
  obtain ⟨i, hi, rfl⟩ := List.mem_map.mp hd
  exact sd_pl (h i hi)
theorem lv_pl : plT 5 (.str ("level" : Str)) = true := by decide +kernel
theorem pa_pl : plT 5 (.str ("parted" : Str)) = true := by decide +kernel
theorem rs_pl {r : Rs} (h : ∀ lot, (r = .lv lot ∨ ∃ k a c, r = .pa lot k a c) → LL lot) : plT 6 (eRs r) = true := by
  cases r with
  | lv lot =>
    have hl := h lot (.inl rfl)
    have e := sides_pl (n := 3) hl.n8 (by have := hl.few; omega)
    show (decide (2 ≤ 1000) && (plT 5 (.str ("level" : Str)) && (plT 5 (.tuple (lot.map sd)) && true))) = true
    rw [e, lv_pl] <;> rfl
  | pa lot k a c =>
    have hl := h lot (.inr ⟨k, a, c, rfl⟩)
    have e := sides_pl (n := 3) hl.n8 (by have := hl.few; omega)
    show (decide (5 ≤ 1000) && (plT 5 (.str ("parted" : Str)) && (plT 5 (.tuple (lot.map sd)) && (true && (true && (true && true)))))) = true
    rw [e, pa_pl] <;> rfl
/-! ### places -/
def plBody (a_side : D) : D → D → T (O D) := (fun d s2 => (T.opt (some d)).bind fun lot3 => ((T.b2 inD (T.ret a_side) (T.ret lot3)).bind fun k => if k then ((((T.b2 addD (T.ret s2) (T.ret (.int 1))).bind fun a => (T.b2 addD (T.ret s2) ((T.ret lot3).bind lenD)).bind fun b => T.ret (.tuple [a, b])).bind fun d => T.ret (.rt d)) : T (Xx (D))).bind fun r => T.ret r.o else ((T.b2 addD (T.ret s2) ((T.ret lot3).bind lenD)).bind fun before4 => (T.ret (.nx before4)))))
theorem place_eq (a_lots a_side : D) : m_law_place a_lots a_side = ((T.ret (.int 0)).bind fun before1 => (((T.ret a_lots).bind itemsT).bind fun ds => (T.loopM (S := D) (plBody a_side) ds before1).bind (endO (fun s2 => (T.ret .none)) (fun d => d)))) := by
  unfold m_law_place plBody
  rfl
/-- the place of a side: how many stand before its lot, how many its lot has -/
def plc (i : Nat) : List (List Nat) → Nat → Option (Nat × Nat)
  | [], _ => none
  | l :: ls, n => if i ∈ l then some (n, l.length) else plc i ls (n + l.length)
theorem plBody_ok {i : Nat} (hi : i < 8) {l : List Nat} (h : ∀ j ∈ l, j < 8) (n : Nat) : plBody (sd i) (.tuple (l.map sd)) (.int (n : Nat)) = .ret (if i ∈ l then .rt (.tuple [.int ((n : Nat) + 1), .int ((n : Nat) + (l.length : Nat))]) else .nx (.int ((n + l.length : Nat)))) := by
  unfold plBody
  rw [opt_some, rb]
  simp only [T.b2, rb, in_sides h hi, len_tup, List.length_map, addD]
  by_cases c : i ∈ l
  · simp only [c, decide_true, if_true]
    rfl
  · simp only [c, decide_false, Bool.false_eq_true, if_false]
    rw [Int.natCast_add]
theorem place_ok {i : Nat} (hi : i < 8) : ∀ (ls : List (List Nat)) (n : Nat), (∀ l ∈ ls, ∀ j ∈ l, j < 8) → T.loopM (plBody (sd i)) (ls.map fun l => .tuple (l.map sd)) (.int (n : Nat)) = .ret (match plc i ls n with
    | some p => .rt (.tuple [.int ((p.1 : Nat) + 1), .int ((p.1 : Nat) + (p.2 : Nat))])
    | none => .nx (.int ((n + (ls.map List.length).sum : Nat))))
  | [], n, _ => by simp [T.loopM, plc]
  | l :: ls, n, h => by
    show (plBody (sd i) (.tuple (l.map sd)) (.int (n : Nat))).bind _ = _
    rw [plBody_ok hi (h l List.mem_cons_self), rb]
    unfold plc
    by_cases c : i ∈ l
    · simp only [c, if_true]
    · simp only [c, if_false]
      have := place_ok hi ls (n + l.length) fun x hx => h x (List.mem_cons_of_mem _ hx)
      rw [this]
      cases plc i ls (n + l.length) with
      | some p => rfl
      | none => simp only [List.map_cons, List.sum_cons, Nat.add_assoc]
end K02
end T_R6_K02

section T_R7_K02
set_option Elab.async false
set_option linter.all false
set_option maxRecDepth 1000000
set_option maxHeartbeats 1000000
set_option autoImplicit false
namespace K02
open PySem L2 DD RK
/-! ### the ranking, plainly -/
def nums (lot : List Nat) (w : Nat → Int) (tk : Bool) : List Int := if tk then srI (lot.map w) else (srI (lot.map w)).reverse
def part (lot : List Nat) (w : Nat → Int) (n : Int) : List Nat := lot.filter fun i => decide (w i = n)
theorem grp_nums (lot : List Nat) (w : Nat → Int) (tk : Bool) : grp lot w tk = (nums lot w tk).map (part lot w) := rfl
def rankP (b : Bk) (t : Tb) (s : List (Nat × Int)) : Nat → List Nat → Nat → List (List Nat)
  | 0, lot, _ => [lot]
  | n + 1, lot, first => if lot.length ≤ 1 then [lot] else match partN b t s lot first with
    | none => [lot]
    | some k => (nums lot (wk b t s lot k) (tkAt b k)).flatMap fun x => rankP b t s n (part lot (wk b t s lot k) x) (flw b k)
section
variable {b : Bk} {t : Tb} {s : List (Nat × Int)} {lot : List Nat} {w : Nat → Int} {tk : Bool}
theorem mem_nums (h : LL lot) (x : Int) : x ∈ nums lot w tk ↔ ∃ i ∈ lot, w i = x := by
  have hm := (srI_ok (is := lot.map w) (by rw [List.length_map]; exact h.few)).2.2.1
  unfold nums
  cases tk
  · simp only [Bool.false_eq_true, if_false, List.mem_reverse, hm, List.mem_map]
  · simp only [if_true, hm, List.mem_map]
/-- x stands ahead of y -/
def Ah (tk : Bool) (x y : Int) : Prop := if tk then x < y else y < x
theorem nums_pw (h : LL lot) : (nums lot w tk).Pairwise (Ah tk) := by
  have pw := (srI_ok (is := lot.map w) (by rw [List.length_map]; exact h.few)).2.2.2.1
  unfold nums Ah
  cases tk
  · simp only [Bool.false_eq_true, if_false]
    exact List.pairwise_reverse.mpr pw
  · simpa using pw
theorem Ah.ne {x y : Int} (h : Ah tk x y) : x ≠ y := by
  unfold Ah at h
  cases tk <;> simp at h <;> omega
theorem LL.part (h : LL lot) (x : Int) : LL (part lot w x) := ⟨fun i hi => h.n8 i (List.mem_filter.mp hi).1, h.asc.filter _, Nat.lt_of_le_of_lt (List.length_filter_le _ _) h.few⟩
theorem part_less (h : LL lot) {first k : Nat} (e : partN b t s lot first = some k) (x : Int) : (part lot (wk b t s lot k) x).length < lot.length := by
  obtain ⟨i, hi, j, hj, hij⟩ := two_of h.few (part_some e).2.2
  have : ∃ y ∈ lot, ¬ (decide (wk b t s lot k y = x) = true) := by
    by_cases q : wk b t s lot k i = x
    · exact ⟨j, hj, by simp; omega⟩
    · exact ⟨i, hi, by simpa using q⟩
  obtain ⟨y, hy, n⟩ := this
  exact List.length_filter_lt_length_iff_exists.mpr ⟨y, hy, n⟩
theorem sum_add {α : Type} (f g : α → Nat) : ∀ l : List α, (l.map fun a => f a + g a).sum = (l.map f).sum + (l.map g).sum
  | [] => rfl
  | a :: l => by
    simp only [List.map_cons, List.sum_cons, sum_add f g l]
    omega
theorem sum_le {α : Type} {f g : α → Nat} : ∀ l : List α, (∀ a ∈ l, f a ≤ g a) → (l.map f).sum ≤ (l.map g).sum
  | [], _ => Nat.le_refl _
  | a :: l, h => by
    simp only [List.map_cons, List.sum_cons]
    have h1 := h a List.mem_cons_self
    have h2 := sum_le l fun b hb => h b (List.mem_cons_of_mem _ hb)
    omega
theorem sum_zero {α : Type} : ∀ l : List α, (l.map fun _ => (0 : Nat)).sum = 0
  | [] => rfl
  | a :: l => by
    rw [List.map_cons, List.sum_cons, sum_zero l]
theorem sum_ind (x : Int) : ∀ ns : List Int, ns.Pairwise (· ≠ ·) → (ns.map fun n => if x = n then 1 else 0).sum ≤ 1
  | [], _ => by simp
  | n :: ns, h => by
    obtain ⟨h1, h2⟩ := List.pairwise_cons.mp h
    simp only [List.map_cons, List.sum_cons]
    by_cases e : x = n
    · have z : (ns.map fun n => if x = n then 1 else 0).sum = 0 := by
        have : ns.map (fun n => if x = n then 1 else 0) = ns.map fun _ => 0 := List.map_congr_left fun m hm => if_neg fun q => h1 m hm (by rw [← e, q])
        rw [this, sum_zero]
      rw [z, if_pos e]
      exact Nat.le_refl _
    · rw [if_neg e]
      have := sum_ind x ns h2
      omega
theorem sum_part (w : Nat → Int) {ns : List Int} (hn : ns.Pairwise (· ≠ ·)) : ∀ lot : List Nat, (ns.map fun n => (part lot w n).length).sum ≤ lot.length
  | [] => by
    show (ns.map fun _ => 0).sum ≤ 0
    rw [sum_zero]
    exact Nat.le_refl _
  | i :: lot => by
    have e : (ns.map fun n => (part (i :: lot) w n).length) = ns.map fun n => (if w i = n then 1 else 0) + (part lot w n).length := List.map_congr_left fun n _ => by
      unfold part
      by_cases q : w i = n
      · rw [List.filter_cons_of_pos (by simpa using q), List.length_cons, if_pos q]; omega
      · rw [List.filter_cons_of_neg (by simpa using q), if_neg q]; omega
    rw [e, sum_add, List.length_cons]
    have h1 := sum_ind (w i) ns hn
    have h2 := sum_part w hn lot
    omega
theorem rank_len : ∀ (n : Nat) (lot : List Nat) (first : Nat), LL lot → lot ≠ [] → (rankP b t s n lot first).length ≤ lot.length
  | 0, lot, first, _, h => by
    show 1 ≤ _
    exact List.length_pos_iff.mpr h
  | n + 1, lot, first, hl, h => by
    have h1 : 1 ≤ lot.length := List.length_pos_iff.mpr h
    unfold rankP
    split
    · exact h1
    · cases e : partN b t s lot first with
      | none => exact h1
      | some k =>
        simp only
        rw [List.length_flatMap]
        refine Nat.le_trans (sum_le _ fun x hx => rank_len n _ _ (hl.part x) ?_) (sum_part (wk b t s lot k) ((nums_pw hl).imp fun h => h.ne) lot)
        obtain ⟨i, hi, q⟩ := (mem_nums hl x).mp hx
        exact List.ne_nil_of_mem (List.mem_filter.mpr ⟨hi, by simpa using q⟩)
/-! ### the program's ranking -/
theorem flatM_map {α : Type} {f : D → T (List D)} {e : α → D} {g : α → List D} : ∀ (l : List α), (∀ a ∈ l, f (e a) = .ret (g a)) → T.flatM f (l.map e) = .ret (l.flatMap g)
  | [], _ => rfl
  | a :: l, h => by
    show (f (e a)).bind _ = _
    rw [h a List.mem_cons_self, rb]
    show (T.flatM f (l.map e)).bind _ = _
    rw [flatM_map l fun b hb => h b (List.mem_cons_of_mem _ hb), rb, List.flatMap_cons]
theorem filt_id (es : List D) : T.filtM (itemT some (fun _ => T.ret true) fun x => T.ret x) es = .ret es := by
  have h := filtM_some (te := fun x => T.ret x) (e := id) (ds := es) fun _ _ => rfl
  rw [List.map_id] at h
  exact h
theorem ranked_ok (ht : t.Ok) (hs : SOk s) (hb : b.ks.length ≤ 999) : ∀ (n : Nat) (lot : List Nat) (first : Nat), LL lot → first ≤ 1000 → lot ≠ [] → lot.length ≤ n →
    m_ranked n (eB b) (eT t) (.tuple (lot.map sd)) (.int (first : Nat)) (eS s) = .ret (eLs (rankP b t s n lot first))
  | 0, lot, first, _, _, h, hn => absurd (List.eq_nil_of_length_eq_zero (by omega)) h
  | n + 1, lot, first, hl, hf, h, hn => by
    rw [show m_ranked (n + 1) = b_ranked (m_ranked n) from rfl]
    unfold b_ranked
    simp only [T.b2, rb]
    rw [len_tup, rb, gt_one, rb, List.length_map]
    unfold rankP
    by_cases c : lot.length ≤ 1
    · rw [if_neg (by simp; omega), rb, if_pos c]
      rfl
    · rw [if_pos (by simp; omega), if_neg c, parted_ok ht hl.n8 hl.asc hl.few hs hf (by omega), rb]
      unfold encP
      cases e : partN b t s lot first with
      | none => rfl
      | some k =>
        simp only [show isB (PyData.tuple [.int (k : Nat), eLs (grp lot (wk b t s lot k) (tkAt b k)), eD lot (wk b t s lot k)]) .none = .ret false from rfl, rb, Bool.false_eq_true, if_false, t0, t1]
        rw [show ixD (eB b) (.int 3) = .ret (.str (if b.anew then ("anew" : Str) else ("on" : Str))) from rfl, rb, flw_ok, rb]
        rw [show itemsL (eLs (grp lot (wk b t s lot k) (tkAt b k))) = .ret ((nums lot (wk b t s lot k) (tkAt b k)).map fun x => PyData.tuple ((part lot (wk b t s lot k) x).map sd)) by
          rw [grp_nums]
          show T.ret _ = _
          rw [List.map_map] <;> rfl]
        unfold lc2T
        rw [rb, flatM_map (g := fun x => (rankP b t s n (part lot (wk b t s lot k) x) (flw b k)).map fun l => PyData.tuple (l.map sd))]
        · have len := rank_len (b := b) (t := t) (s := s) (n + 1) lot first hl h
          unfold rankP at len
          rw [if_neg c, e] at len
          simp only at len
          rw [rb, T.chk_pos _ (by
            rw [← List.map_flatMap, List.length_map]
            have := hl.few
            omega), rb, ← List.map_flatMap]
          rfl
        · intro x hx
          have hne : part lot (wk b t s lot k) x ≠ [] := by
            obtain ⟨i, hi, q⟩ := (mem_nums hl x).mp hx
            exact List.ne_nil_of_mem (List.mem_filter.mpr ⟨hi, by simpa using q⟩)
          have ih := ranked_ok ht hs hb n (part lot (wk b t s lot k) x) (flw b k) (hl.part x) (flw_le hb (part_some e).2.1) hne (by have := part_less hl e x; omega)
          unfold lc2I
          rw [opt_some, rb, rb, if_pos rfl]
          show T.bind (T.bind (m_ranked n (eB b) (eT t) (.tuple ((part lot (wk b t s lot k) x).map sd)) (.int (flw b k : Nat)) (eS s)) itemsL) (fun es => T.filtM (itemT some (fun _ => T.ret true) fun x => T.ret x) es) = _
          rw [ih, rb, show itemsL (eLs (rankP b t s n (part lot (wk b t s lot k) x) (flw b k))) = .ret ((rankP b t s n (part lot (wk b t s lot k) x) (flw b k)).map fun l => PyData.tuple (l.map sd)) from rfl, rb, filt_id]
end
/-! ### places in the ranking -/
section
variable {b : Bk} {t : Tb} {s : List (Nat × Int)}
theorem plc_bd {i : Nat} : ∀ (ls : List (List Nat)) (c : Nat) {p : Nat × Nat}, plc i ls c = some p → c ≤ p.1 ∧ p.1 + p.2 ≤ c + (ls.map List.length).sum ∧ 0 < p.2
  | [], _, _, h => by cases h
  | l :: ls, c, p, h => by
    unfold plc at h
    simp only [List.map_cons, List.sum_cons]
    split at h
    · rename_i hi
      cases h
      have := List.length_pos_of_mem hi
      exact ⟨Nat.le_refl _, by simp only; omega, this⟩
    · obtain ⟨h1, h2, h3⟩ := plc_bd ls _ h
      exact ⟨by omega, by omega, h3⟩
theorem plc_cons (i : Nat) (l : List Nat) (ls : List (List Nat)) (c : Nat) : plc i (l :: ls) c = if i ∈ l then some (c, l.length) else plc i ls (c + l.length) := rfl
theorem plc_app {i : Nat} : ∀ (ls ms : List (List Nat)) (c : Nat), plc i (ls ++ ms) c = match plc i ls c with | some p => some p | none => plc i ms (c + (ls.map List.length).sum)
  | [], ms, c => by simp [plc]
  | l :: ls, ms, c => by
    rw [List.cons_append, plc_cons, plc_cons]
    split
    · rfl
    · rw [plc_app ls ms, List.map_cons, List.sum_cons, Nat.add_assoc]
theorem plc_none {i : Nat} : ∀ (ls : List (List Nat)) (c : Nat), (∀ l ∈ ls, i ∉ l) → plc i ls c = none
  | [], _, _ => rfl
  | l :: ls, c, h => by
    unfold plc
    rw [if_neg (h l List.mem_cons_self), plc_none ls _ fun m hm => h m (List.mem_cons_of_mem _ hm)]
theorem rank_sub : ∀ (n : Nat) (lot : List Nat) (first : Nat) (l : List Nat), l ∈ rankP b t s n lot first → ∀ j ∈ l, j ∈ lot
  | 0, lot, first, l, h, j, hj => by
    rw [List.mem_singleton.mp h] at hj
    exact hj
  | n + 1, lot, first, l, h, j, hj => by
    unfold rankP at h
    split at h
    · rw [List.mem_singleton.mp h] at hj
      exact hj
    · cases e : partN b t s lot first with
      | none =>
        rw [e] at h
        rw [List.mem_singleton.mp h] at hj
        exact hj
      | some k =>
        rw [e] at h
        obtain ⟨x, _, hx⟩ := List.mem_flatMap.mp h
        exact (List.mem_filter.mp (rank_sub n _ _ l hx j hj)).1
/-- two sides as they stand: alike, or one ahead of the other -/
def Two (one oth : Nat) (ls : List (List Nat)) (R : Nat × Nat → Nat × Nat → Prop) : Prop := ∀ c, ∃ p q, plc one ls c = some p ∧ plc oth ls c = some q ∧ R p q
/-- over numbers, of which the two have the same -/
theorem two_same {one oth : Nat} {F : Int → List (List Nat)} {R : Nat × Nat → Nat × Nat → Prop} {x : Int} : ∀ (ns : List Int), ns.Pairwise (· ≠ ·) → x ∈ ns → (∀ y ∈ ns, y ≠ x → ∀ l ∈ F y, one ∉ l ∧ oth ∉ l) → Two one oth (F x) R → Two one oth (ns.flatMap F) R
  | [], _, h, _, _ => by cases h
  | y :: ns, hp, hx, hn, h2 => fun c => by
    obtain ⟨hp1, hp2⟩ := List.pairwise_cons.mp hp
    rw [List.flatMap_cons, plc_app, plc_app]
    by_cases e : y = x
    · subst e
      obtain ⟨p, q, h3, h4, h5⟩ := h2 c
      exact ⟨p, q, by rw [h3], by rw [h4], h5⟩
    · have z := hn y List.mem_cons_self e
      rw [plc_none _ _ fun l hl => (z l hl).1, plc_none _ _ fun l hl => (z l hl).2]
      have hx' : x ∈ ns := by
        rcases List.mem_cons.mp hx with q | q
        · exact absurd q.symm e
        · exact q
      exact two_same ns hp2 hx' (fun y hy => hn y (List.mem_cons_of_mem _ hy)) h2 _
/-- over numbers, of which the two have different ones -/
theorem two_diff {one oth : Nat} {F : Int → List (List Nat)} {A : Int → Int → Prop} {x y : Int} (hxy : x ≠ y) (hA : ∀ a b, A a b → ¬ A b a) : ∀ (ns : List Int), ns.Pairwise (fun a b => A a b ∧ a ≠ b) → x ∈ ns → y ∈ ns → (∀ z ∈ ns, ∀ l ∈ F z, (one ∈ l → z = x) ∧ (oth ∈ l → z = y)) →
    (∀ c, ∃ p, plc one (F x) c = some p) → (∀ c, ∃ q, plc oth (F y) c = some q) → Two one oth (ns.flatMap F) fun p q => p.1 ≠ q.1 ∧ (p.1 < q.1 ↔ A x y)
  | [], _, h, _, _, _, _ => by cases h
  | z :: ns, hp, hx, hy, hn, h1, h2 => fun c => by
    obtain ⟨hp1, hp2⟩ := List.pairwise_cons.mp hp
    rw [List.flatMap_cons, plc_app, plc_app]
    have rest : ∀ {i : Nat} {v : Int}, (∀ w ∈ ns, ∀ l ∈ F w, i ∈ l → w = v) → v ∈ ns → (∀ c, ∃ p, plc i (F v) c = some p) → ∀ c, ∃ p, plc i (ns.flatMap F) c = some p := by
      intro i v hv hm hf c
      have t := two_same (one := i) (oth := i) (R := fun _ _ => True) ns (hp2.imp fun h => h.2) hm (fun w hw ne l hl => ⟨fun q => ne (hv w hw l hl q), fun q => ne (hv w hw l hl q)⟩) (fun c => by obtain ⟨p, e⟩ := hf c; exact ⟨p, p, e, e, trivial⟩) c
      obtain ⟨p, _, e, _⟩ := t
      exact ⟨p, e⟩
    by_cases e : z = x
    · subst e
      have hy' : y ∈ ns := by
        rcases List.mem_cons.mp hy with q | q
        · exact absurd q.symm hxy
        · exact q
      obtain ⟨p, hp'⟩ := h1 c
      have no : plc oth (F z) c = none := plc_none _ _ fun l hl q => hxy ((hn z List.mem_cons_self l hl).2 q)
      obtain ⟨q, hq⟩ := rest (i := oth) (v := y) (fun w hw l hl => (hn w (List.mem_cons_of_mem _ hw) l hl).2) hy' h2 (c + ((F z).map List.length).sum)
      have b1 := plc_bd _ _ hp'
      have b2 := plc_bd _ _ hq
      refine ⟨p, q, by rw [hp'], by rw [no]; exact hq, by omega, ⟨fun _ => (hp1 y hy').1, fun _ => by omega⟩⟩
    · have hx' : x ∈ ns := by
        rcases List.mem_cons.mp hx with q | q
        · exact absurd q.symm e
        · exact q
      have n1 : plc one (F z) c = none := plc_none _ _ fun l hl q => e ((hn z List.mem_cons_self l hl).1 q)
      by_cases e2 : z = y
      · subst e2
        obtain ⟨q, hq⟩ := h2 c
        obtain ⟨p, hp'⟩ := rest (i := one) (v := x) (fun w hw l hl => (hn w (List.mem_cons_of_mem _ hw) l hl).1) hx' h1 (c + ((F z).map List.length).sum)
        have b1 := plc_bd _ _ hq
        have b2 := plc_bd _ _ hp'
        refine ⟨p, q, by rw [n1]; exact hp', by rw [hq], by omega, ⟨fun _ => by omega, fun a => absurd (hp1 x hx').1 (hA _ _ a)⟩⟩
      · have n2 : plc oth (F z) c = none := plc_none _ _ fun l hl q => e2 ((hn z List.mem_cons_self l hl).2 q)
        have hy' : y ∈ ns := by
          rcases List.mem_cons.mp hy with q | q
          · exact absurd q.symm e2
          · exact q
        rw [n1, n2]
        exact two_diff hxy hA ns hp2 hx' hy' (fun w hw => hn w (List.mem_cons_of_mem _ hw)) h1 h2 _
end
end K02
end T_R7_K02

section T_R8_K02
set_option Elab.async false
set_option linter.all false
set_option maxRecDepth 1000000
set_option maxHeartbeats 1000000
set_option autoImplicit false
namespace K02
open PySem L2 DD RK
section
variable {b : Bk} {t : Tb} {s : List (Nat × Int)} {one oth : Nat}
theorem plc_one {i : Nat} {lot : List Nat} (h : i ∈ lot) (c : Nat) : plc i [lot] c = some (c, lot.length) := by
  rw [plc_cons, if_pos h]
theorem few_none {lot : List Nat} {first : Nat} (hl : LL lot) (h : lot.length ≤ 1) : partN b t s lot first = none := by
  cases e : partN b t s lot first with
  | none => rfl
  | some k =>
    obtain ⟨i, hi, j, hj, hij⟩ := two_of hl.few (part_some e).2.2
    match lot, h, hi, hj with
    | [x], _, hi, hj =>
      rw [List.mem_singleton] at hi hj
      rw [hi, hj] at hij
      omega
theorem sep_part {lot : List Nat} {k n : Nat} {f : Nat} {x : Int} {i : Nat} {l : List Nat} (h : l ∈ rankP b t s n (part lot (wk b t s lot k) x) f) (hi : i ∈ l) : wk b t s lot k i = x := by
  have := rank_sub _ _ _ _ h i hi
  simpa using (List.mem_filter.mp this).2
theorem rank_has : ∀ (n : Nat) (lot : List Nat) (first : Nat), LL lot → one ∈ lot → lot.length ≤ n → ∀ c, ∃ p, plc one (rankP b t s n lot first) c = some p
  | 0, lot, first, _, h, _, c => ⟨_, plc_one h c⟩
  | n + 1, lot, first, hl, h, hn, c => by
    unfold rankP
    split
    · exact ⟨_, plc_one h c⟩
    · cases e : partN b t s lot first with
      | none => exact ⟨_, plc_one h c⟩
      | some k =>
        have t2 := two_same (one := one) (oth := one) (R := fun _ _ => True) (F := fun x => rankP b t s n (part lot (wk b t s lot k) x) (flw b k)) (x := wk b t s lot k one) (nums lot (wk b t s lot k) (tkAt b k)) ((nums_pw hl).imp fun h => h.ne) ((mem_nums hl _).mpr ⟨one, h, rfl⟩)
          (fun y _ ne l hl => ⟨fun q => ne (sep_part hl q).symm, fun q => ne (sep_part hl q).symm⟩)
          (fun c => by
            have hm : one ∈ part lot (wk b t s lot k) (wk b t s lot k one) := List.mem_filter.mpr ⟨h, by simp⟩
            obtain ⟨p, hp⟩ := rank_has n _ (flw b k) (hl.part _) hm (by have := part_less hl e (wk b t s lot k one); omega) c
            exact ⟨p, p, hp, hp, trivial⟩) c
        obtain ⟨p, _, hp, _⟩ := t2
        exact ⟨p, hp⟩
/-- what a reason says of the places -/
def Says (b : Bk) : Rs → Nat × Nat → Nat × Nat → Prop
  | .lv _, p, q => p = q
  | .pa _ k a d, p, q => p.1 ≠ q.1 ∧ (p.1 < q.1 ↔ Ah (tkAt b k) a d)
theorem ah_anti (tk : Bool) (x y : Int) (h : Ah tk x y) : ¬ Ah tk y x := by
  unfold Ah at h ⊢
  cases tk <;> simp at h ⊢ <;> omega
theorem rank_two : ∀ (n m : Nat) (lot : List Nat) (first : Nat) (r : Rs), LL lot → one ∈ lot → oth ∈ lot → lot.length ≤ n → reas b t s one oth m lot first = some r → Two one oth (rankP b t s n lot first) (Says b r)
  | 0, _, lot, _, _, _, h, _, hn, _ => by
    have := List.length_pos_of_mem h
    omega
  | n + 1, 0, _, _, _, _, _, _, _, h => by cases h
  | n + 1, m + 1, lot, first, r, hl, h1, h2, hn, h => by
    unfold reas at h
    by_cases c : lot.length ≤ 1
    · rw [few_none hl c] at h
      cases h
      unfold rankP
      rw [if_pos c]
      exact fun c => ⟨_, _, plc_one h1 c, plc_one h2 c, rfl⟩
    · unfold rankP
      rw [if_neg c]
      cases e : partN b t s lot first with
      | none =>
        rw [e] at h
        cases h
        exact fun c => ⟨_, _, plc_one h1 c, plc_one h2 c, rfl⟩
      | some k =>
        rw [e] at h
        simp only at h ⊢
        have pw := nums_pw (w := wk b t s lot k) (tk := tkAt b k) hl
        by_cases q : wk b t s lot k one ≠ wk b t s lot k oth
        · rw [if_pos q] at h
          cases h
          refine two_diff (A := Ah (tkAt b k)) (x := wk b t s lot k one) (y := wk b t s lot k oth) q (ah_anti _) _ (pw.imp fun h => ⟨h, h.ne⟩) ((mem_nums hl _).mpr ⟨one, h1, rfl⟩) ((mem_nums hl _).mpr ⟨oth, h2, rfl⟩) (fun z _ l hz => ⟨fun i => (sep_part hz i).symm, fun i => (sep_part hz i).symm⟩) ?_ ?_
          · exact rank_has n _ _ (hl.part _) (List.mem_filter.mpr ⟨h1, by simp⟩) (by have := part_less hl e (wk b t s lot k one); omega)
          · exact rank_has n _ _ (hl.part _) (List.mem_filter.mpr ⟨h2, by simp⟩) (by have := part_less hl e (wk b t s lot k oth); omega)
        · rw [if_neg q] at h
          simp only [ne_eq, Classical.not_not] at q
          refine two_same (x := wk b t s lot k one) _ (pw.imp fun h => h.ne) ((mem_nums hl _).mpr ⟨one, h1, rfl⟩) (fun y _ ne l hz => ⟨fun i => ne (sep_part hz i).symm, fun i => ne (by rw [q]; exact (sep_part hz i).symm)⟩) ?_
          exact rank_two n m _ _ r (hl.part _) (List.mem_filter.mpr ⟨h1, by simp⟩) (List.mem_filter.mpr ⟨h2, by simp [q]⟩) (by have := part_less hl e (wk b t s lot k one); omega) h
/-- the places told -/
theorem mplace_ok {i : Nat} (hi : i < 8) {ls : List (List Nat)} (h : ∀ l ∈ ls, ∀ j ∈ l, j < 8) {p : Nat × Nat} (e : plc i ls 0 = some p) : m_law_place (.tuple (ls.map fun l => .tuple (l.map sd))) (sd i) = .ret (.tuple [.int ((p.1 : Nat) + 1), .int ((p.1 : Nat) + (p.2 : Nat))]) := by
  have w := place_ok hi ls 0 h
  rw [e, show ((0 : Nat) : Int) = 0 from rfl] at w
  rw [place_eq, rb, rb, show itemsT (.tuple (ls.map fun l => PyData.tuple (l.map sd))) = .ret (ls.map fun l => PyData.tuple (l.map sd)) from rfl, rb, w, rb]
  rfl
theorem mrank_ok (ht : t.Ok) (hs : SOk s) (hb : b.ks.length ≤ 999) : m_rank (eB b) (eT t) (eS s) = .ret (.tuple ((rankP b t s 8 t.ns 0).map fun l => .tuple (l.map sd))) := by
  have w := ranked_ok ht hs hb 8 t.ns 0 (names_ll ht) (by omega) (by
    intro e
    have := ht.two
    rw [e] at this
    simp at this) (by have := ht.six; omega)
  rw [show ((0 : Nat) : Int) = 0 from rfl] at w
  unfold m_rank
  rw [eT_ns, rb, rb, rb, rb, rb, w, rb]
  rfl
end
end K02
end T_R8_K02

section T_R9_K02
set_option Elab.async false
set_option linter.all false
set_option maxRecDepth 1000000
set_option maxHeartbeats 1000000
set_option autoImplicit false
namespace K02
open PySem L2 DD RK
def jBody (book16 table14 struck17 lots18 names19 i21 : D) : D → Unit → T (O Unit) := (fun d s22 => (T.opt (some d)).bind fun j23 => ((T.b2 neD (T.ret i21) (T.ret j23)).bind fun k => if k then ((((T.ret book16).bind fun a => (T.ret table14).bind fun b => (T.b2 ixD (T.ret names19) (T.ret i21)).bind fun c => (T.b2 ixD (T.ret names19) (T.ret j23)).bind fun d => (T.ret struck17).bind fun e => m_reason a b c d e).bind noRx).bind fun told24 => ((notT (((T.ret told24).bind fun a => ((T.ret book16).bind fun a => (T.ret table14).bind fun b => (T.b2 ixD (T.ret names19) (T.ret i21)).bind fun c => (T.b2 ixD (T.ret names19) (T.ret j23)).bind fun d => (T.ret struck17).bind fun e => m_law_reason a b c d e).bind fun b => (m_law_same 6) a b).bind truth)).bind fun k => if k then (((T.ret (.bool false)).bind fun d => T.ret (.rt d)) : T (Xx (Unit))).bind fun r => T.ret r.o else ((bo (T.b2 eqD ((T.ret lots18).bind fun a => (T.b2 ixD (T.ret names19) (T.ret i21)).bind fun b => m_law_place a b) ((T.ret lots18).bind fun a => (T.b2 ixD (T.ret names19) (T.ret j23)).bind fun b => m_law_place a b))).bind fun level25 => ((T.b2 neD (T.ret level25) (bo (T.b2 eqD (T.b2 ixD (T.ret told24) (T.ret (.int 0))) (T.ret (.str ("level" : Str)))))).bind fun k => if k then (((T.ret (.bool false)).bind fun d => T.ret (.rt d)) : T (Xx (Unit))).bind fun r => T.ret r.o else ((andT (notT ((T.ret level25).bind truth)) (T.b2 neD (bo (T.b2 eqD (bo (T.b2 gtD (T.b2 ixD (T.ret told24) (T.ret (.int 3))) (T.b2 ixD (T.ret told24) (T.ret (.int 4))))) (bo (T.b2 neD (T.b2 ixD (T.b2 ixD (T.b2 ixD (T.ret book16) (T.ret (.int 2))) (T.b2 ixD (T.ret told24) (T.ret (.int 2)))) (T.ret (.int 0))) (T.ret (.str ("taken" : Str))))))) (bo (T.b2 ltD (T.b2 ixD ((T.ret lots18).bind fun a => (T.b2 ixD (T.ret names19) (T.ret i21)).bind fun b => m_law_place a b) (T.ret (.int 0))) (T.b2 ixD ((T.ret lots18).bind fun a => (T.b2 ixD (T.ret names19) (T.ret j23)).bind fun b => m_law_place a b) (T.ret (.int 0))))))).bind fun k => if k then (((T.ret (.bool false)).bind fun d => T.ret (.rt d)) : T (Xx (Unit))).bind fun r => T.ret r.o else (T.ret (.nx ()))))))) else (T.ret (.nx ()))))
def iBody (book16 table14 struck17 lots18 names19 : D) : D → Unit → T (O Unit) := (fun d s20 => (T.opt (some d)).bind fun i21 => ((((T.ret names19).bind lenD).bind range1).bind fun ds => (T.loopM (S := Unit) (jBody book16 table14 struck17 lots18 names19 i21) ds ()).bind (endO (fun s22 => (T.ret (.nx ()))) O.rt)))
def zBody (book16 table14 struck17 : D) : D → Unit → T (O Unit) := (fun d s26 => (T.opt (some d)).bind fun pair27 => (((T.ret book16).bind fun a => (T.ret table14).bind fun b => (T.b2 ixD (T.ret pair27) (T.ret (.int 0))).bind fun c => (T.b2 ixD (T.ret pair27) (T.ret (.int 1))).bind fun d => (T.ret struck17).bind fun e => m_reason a b c d e).bind (tryR ("NoSide" : Str) ("zed" : Str) false false O.rt (T.ret (.nx ())))))
def chkT (book16 table14 struck17 : D) : T (O Unit) := (((T.ret book16).bind fun a => (T.ret table14).bind fun b => (T.ret struck17).bind fun c => m_rank a b c).bind fun lots18 => ((T.b2 ixD (T.b2 ixD (T.ret table14) (T.ret (.int 1))) (T.ret (.int 1))).bind fun names19 => ((((T.ret names19).bind lenD).bind range1).bind fun ds => (T.loopM (S := Unit) (iBody book16 table14 struck17 lots18 names19) ds ()).bind (endO (fun s20 => ((((((T.ret (.str ("zed" : Str))).bind fun a => (T.b2 ixD (T.ret names19) (T.ret (.int 0))).bind fun b => T.ret (.tuple [a, b])).bind fun a => ((T.b2 ixD (T.ret names19) (T.ret (.int 0))).bind fun a => (T.ret (.str ("zed" : Str))).bind fun b => T.ret (.tuple [a, b])).bind fun b => T.ret [a, b]).bind fun ds => T.ret (.list ds)).bind itemsL).bind fun ds => (T.loopM (S := Unit) (zBody book16 table14 struck17) ds ()).bind (endO (fun s26 => (T.ret (.nx ()))) O.rt))) O.rt))))
def trBody : D → Unit → T (O Unit) := (fun d s11 => (T.opt (some d)).bind fun trial12 => (nextD.bind fun z13 => (((T.ret (.int 5)).bind fun a => (T.ret (.int 2)).bind fun b => (T.ret (.int 6)).bind fun c => m_law_table a b c).bind fun table14 => (nextD.bind fun z15 => (((T.ret (.int 5)).bind m_law_book).bind fun book16 => (((T.b2 ixD (T.b2 ixD (T.ret table14) (T.ret (.int 1))) (T.ret (.int 1))).bind m_law_struck).bind fun struck17 => (chkT book16 table14 struck17)))))))
def woBody : D → Unit → T (O Unit) := (fun d s1 => (T.opt ((quadO some some some some) d)).bind fun p2 => ((notT ((((T.ret p2.1).bind fun a => (T.ret p2.2.1).bind fun b => (T.ret p2.2.2.1).bind fun c => m_rank a b c).bind fun a => (T.ret p2.2.2.2).bind fun b => (m_law_same 6) a b).bind truth)).bind fun k => if k then (((T.ret (.bool false)).bind fun d => T.ret (.rt d)) : T (Xx (Unit))).bind fun r => T.ret r.o else (T.ret (.nx ()))))
theorem law_eq : m_law = ((m_law_wonders.bind itemsL).bind fun ds => (T.loopM (S := Unit) woBody ds ()).bind (endO (fun s1 => (((T.ret (.int 3)).bind range1).bind fun ds => (T.loopM (S := Unit) trBody ds ()).bind (endO (fun s11 => (T.ret (.bool true))) (fun d => d)))) (fun d => d))) := by
  unfold m_law woBody trBody chkT zBody iBody jBody
  rfl
theorem reas_inv {b : Bk} {t : Tb} {s : List (Nat × Int)} {one oth : Nat} {r : Rs} : ∀ (m : Nat) (lot : List Nat) (first : Nat), LL lot → reas b t s one oth m lot first = some r →
    (∀ lot', (r = .lv lot' ∨ ∃ k a c, r = .pa lot' k a c) → LL lot') ∧ ∀ l k a d, r = .pa l k a d → a ≠ d ∧ k < b.ks.length
  | 0, _, _, _, h => by cases h
  | m + 1, lot, first, hl, h => by
    unfold reas at h
    cases e : partN b t s lot first with
    | none =>
      rw [e] at h
      cases h
      refine ⟨fun lot' z => ?_, fun l k a d z => by cases z⟩
      rcases z with z | ⟨k, a, c, z⟩
      · cases z; exact hl
      · cases z
    | some k =>
      rw [e] at h
      simp only at h
      by_cases q : wk b t s lot k one ≠ wk b t s lot k oth
      · rw [if_pos q] at h
        cases h
        refine ⟨fun lot' z => ?_, fun l k a d z => ?_⟩
        · rcases z with z | ⟨k, a, c, z⟩
          · cases z
          · cases z; exact hl
        · cases z
          exact ⟨q, (part_some e).2.1⟩
      · rw [if_neg q] at h
        exact reas_inv m _ _ (hl.own _ _) h
theorem tup_eq (a b c d : Int) : eqD (.tuple [.int a, .int b]) (.tuple [.int c, .int d]) = .ret (decide (a = c) && decide (b = d)) := by
  rw [eqD_ret rfl rfl]
  congr 1
  simp only [PyData.eqv, PyData.eqvAll, Bool.and_true]
  first
    | rfl
    | (by_cases h1 : a = c <;> by_cases h2 : b = d <;> simp [h1, h2])
theorem bl_eq (a b : Bool) : eqD (.bool a) (.bool b) = .ret (a == b) := by
  cases a <;> cases b <;> rfl
theorem bl_ne (a b : Bool) : neD (.bool a) (.bool b) = .ret (!(a == b)) := by
  cases a <;> cases b <;> rfl
theorem lv_lv : eqD (.str ("level" : Str)) (.str ("level" : Str)) = .ret true := T.val_eq (by decide +kernel)
theorem pa_lv : eqD (.str ("parted" : Str)) (.str ("level" : Str)) = .ret false := T.val_eq (by decide +kernel)
theorem ms_tk (m : Ms) : neD (.str m.s) (.str ("taken" : Str)) = .ret (!decide (m = .tk)) := by cases m <;> exact T.val_eq (by decide +kernel)
section
variable {b : Bk} {t : Tb} {s : List (Nat × Int)}
theorem ix_name {ns : List Nat} {i : Nat} (h : i < ns.length) : ixD (.tuple (ns.map sd)) (.int (i : Nat)) = .ret (sd (ns.getD i 0)) := by
  refine ix_tnat ?_
  rw [List.getElem?_map, List.getElem?_eq_getElem h, List.getD_eq_getElem?_getD, List.getElem?_eq_getElem h] <;> rfl
theorem get_mem {ns : List Nat} {i : Nat} (h : i < ns.length) : ns.getD i 0 ∈ ns := by
  rw [List.getD_eq_getElem?_getD, List.getElem?_eq_getElem h]
  exact List.getElem_mem h
abbrev lotsD (b : Bk) (t : Tb) (s : List (Nat × Int)) : D := .tuple ((rankP b t s 8 t.ns 0).map fun l => .tuple (l.map sd))
theorem jBody_ok (ht : t.Ok) (hs : SOk s) (hb : b.ks.length ≤ 999) {i j : Nat} (hi : i < t.ns.length) (hj : j < t.ns.length) :
    jBody (eB b) (eT t) (eS s) (lotsD b t s) (.tuple (t.ns.map sd)) (.int (i : Nat)) (.int (j : Nat)) () = .ret (.nx ()) := by
  unfold jBody lotsD
  rw [opt_some, rb]
  simp only [T.b2, rb]
  rw [int_ne, rb]
  by_cases e : ((i : Nat) : Int) = ((j : Nat) : Int)
  · rw [if_neg (by simpa using e)]
  · rw [if_pos (by simpa using e)]
    have m1 := get_mem hi
    have m2 := get_mem hj
    have i8 := ht.n8 _ m1
    have j8 := ht.n8 _ m2
    rw [ix_name hi, ix_name hj]
    generalize t.ns.getD i 0 = one at m1 i8 ⊢
    generalize t.ns.getD j 0 = oth at m2 j8 ⊢
    have hl := names_ll ht
    have few : t.ns.length ≤ 8 := by have := ht.six; omega
    obtain ⟨r, hr⟩ := reas_some (b := b) (t := t) (s := s) (one := one) (oth := oth) 8 t.ns 0 few hl.few m1
    obtain ⟨inv1, inv2⟩ := reas_inv 8 t.ns 0 hl hr
    obtain ⟨p, q, hp, hq, says⟩ := rank_two 8 8 t.ns 0 r hl m1 m2 few hr 0
    have sub8 : ∀ l ∈ rankP b t s 8 t.ns 0, ∀ j ∈ l, j < 8 := fun l h j hj => ht.n8 j (rank_sub _ _ _ l h j hj)
    have pl1 := mplace_ok i8 sub8 hp
    have pl2 := mplace_ok j8 sub8 hq
    have rx : noRx (.v (eRs r)) = .ret (eRs r) := rfl
    have same := same_ok 6 (eRs r) (rs_pl inv1)
    simp only [rb, reason_ok ht hs hb m1 m2 hr, rx, lreason_ok ht hs hb m1 m2 hr, same, truth, notT, Bool.not_true, Bool.false_eq_true, if_false, pl1, pl2, tup_eq, bo, p0]
    cases r with
    | lv lot =>
      have pq : p = q := says
      subst pq
      have r0 : ixD (eRs (.lv lot)) (.int 0) = .ret (.str ("level" : Str)) := rfl
      simp only [r0, rb, lv_lv, decide_true, Bool.and_self, bl_ne, beq_self_eq_true, Bool.not_true, Bool.false_eq_true, if_false, andT]
    | pa lot k a d =>
      obtain ⟨ne, ah⟩ : p.1 ≠ q.1 ∧ (p.1 < q.1 ↔ Ah (tkAt b k) a d) := says
      obtain ⟨had, hk⟩ := inv2 lot k a d rfl
      have r0 : ixD (eRs (.pa lot k a d)) (.int 0) = .ret (.str ("parted" : Str)) := rfl
      have r2 : ixD (eRs (.pa lot k a d)) (.int 2) = .ret (.int (k : Nat)) := rfl
      have r3 : ixD (eRs (.pa lot k a d)) (.int 3) = .ret (.int a) := rfl
      have r4 : ixD (eRs (.pa lot k a d)) (.int 4) = .ret (.int d) := rfl
      have rb2 : ixD (eB b) (.int 2) = .ret (.tuple (b.ks.map eK)) := rfl
      have rk : ixD (eK (keyAt b k)) (.int 0) = .ret (.str (keyAt b k).1.s) := rfl
      have lv : (decide ((p.1 : Int) + 1 = (q.1 : Int) + 1) && decide ((p.1 : Int) + (p.2 : Int) = (q.1 : Int) + (q.2 : Int))) = false := by
        rw [decide_eq_false (by omega), Bool.false_and]
      simp only [r0, r2, r3, r4, rb2, rk, rb, pa_lv, lv, bl_ne, key_at hk, gtD, ms_tk, bl_eq, ltD, beq_self_eq_true, Bool.not_true, Bool.false_eq_true, if_false, andT, Bool.not_false, if_true]
      have fin : (decide (d < a) == !decide ((keyAt b k).1 = .tk)) = decide ((p.1 : Int) + 1 < (q.1 : Int) + 1) := by
        unfold Ah tkAt at ah
        cases hc : decide ((keyAt b k).1 = .tk) with
        | true =>
          rw [hc] at ah
          simp only [if_true] at ah
          by_cases z : d < a
          · rw [decide_eq_true z, decide_eq_false (p := (p.1 : Int) + 1 < (q.1 : Int) + 1) (by omega)] <;> rfl
          · rw [decide_eq_false z, decide_eq_true (p := (p.1 : Int) + 1 < (q.1 : Int) + 1) (by omega)] <;> rfl
        | false =>
          rw [hc] at ah
          simp only [Bool.false_eq_true, if_false] at ah
          by_cases z : d < a
          · rw [decide_eq_true z, decide_eq_true (p := (p.1 : Int) + 1 < (q.1 : Int) + 1) (by omega)] <;> rfl
          · rw [decide_eq_false z, decide_eq_false (p := (p.1 : Int) + 1 < (q.1 : Int) + 1) (by omega)] <;> rfl
      rw [fin, beq_self_eq_true]
      rfl
end
end K02
end T_R9_K02

section T_R10_K02
set_option Elab.async false
set_option linter.all false
set_option maxRecDepth 1000000
set_option maxHeartbeats 1000000
set_option autoImplicit false
namespace K02
open PySem L2 DD RK
abbrev zed : D := .str ("zed" : Str)
theorem zed_eqv : ∀ i < 8, PyData.eqv (sd i) zed = false := by decide +kernel
theorem zed_sh : SeqAt.shaped zed = true := by decide +kernel
theorem zed_ne : neD zed zed = .ret false := T.val_eq (by decide +kernel)
section
variable {b : Bk} {t : Tb} {s : List (Nat × Int)}
theorem zed_in (ht : t.Ok) : inD zed (.tuple (t.ns.map sd)) = .ret false := by
  rw [inD_tret zed_sh (sides_sh ht.n8)]
  have : anyD (t.ns.map sd) zed = false := by
    unfold anyD
    rw [List.any_eq_false]
    intro d hd
    obtain ⟨i, hi, rfl⟩ := List.mem_map.mp hd
    rw [zed_eqv i (ht.n8 i hi)]
    exact Bool.false_ne_true
  rw [this]
theorem ns_zed (ht : t.Ok) : nsBody (eT t) zed () = .ret (.out (.x ("NoSide" : Str) zed)) := by
  unfold nsBody
  rw [opt_some, rb, eT_ns]
  simp only [T.b2, rb, ninD, zed_in ht, Bool.not_false, if_true]
  rfl
theorem reason_two (x y : D) {o : OX Unit Rx} (h : T.loopX (nsBody (eT t)) [x, y] () = .ret (.out (.x ("NoSide" : Str) zed))) : m_reason (eB b) (eT t) x y (eS s) = .ret (.x ("NoSide" : Str) zed) := by
  rw [reason_eq]
  simp only [rb]
  rw [show itemsT (PyData.tuple [x, y]) = .ret [x, y] from rfl, rb, h, rb, endX_out]
theorem reason_z1 (ht : t.Ok) (x : D) : m_reason (eB b) (eT t) zed x (eS s) = .ret (.x ("NoSide" : Str) zed) := reason_two (o := .nx ()) zed x (by
  simp only [T.loopX, ns_zed ht, rb])
theorem reason_z2 (ht : t.Ok) {i : Nat} (hi : i ∈ t.ns) : m_reason (eB b) (eT t) (sd i) zed (eS s) = .ret (.x ("NoSide" : Str) zed) := reason_two (o := .nx ()) (sd i) zed (by
  simp only [T.loopX, ns_in ht (ht.n8 i hi), hi, if_true, ns_zed ht, rb])
theorem try_zed : tryR ("NoSide" : Str) ("zed" : Str) false false O.rt (T.ret (O.nx ())) (.x ("NoSide" : Str) zed) = .ret (.nx ()) := by
  show T.need (decide (("NoSide" : Str) = ("NoSide" : Str))) _ = _
  rw [decide_eq_true rfl, zed_ne]
  rfl
theorem zBody_ok (ht : t.Ok) {i : Nat} (hi : i ∈ t.ns) : T.loopM (zBody (eB b) (eT t) (eS s)) [.tuple [zed, sd i], .tuple [sd i, zed]] () = .ret (.nx ()) := by
  refine loop_nx _ fun d hd => ?_
  unfold zBody
  rcases List.mem_cons.mp hd with rfl | hd
  · rw [opt_some, rb]
    simp only [T.b2, rb, p0, p1]
    rw [reason_z1 ht, rb, try_zed]
  · rcases List.mem_cons.mp hd with rfl | hd
    · rw [opt_some, rb]
      simp only [T.b2, rb, p0, p1]
      rw [reason_z2 ht hi, rb, try_zed]
    · cases hd
theorem loop_idx {f : D → Unit → T (O Unit)} (n : Nat) (h : ∀ k, k < n → f (.int (k : Nat)) () = .ret (.nx ())) : T.loopM f ((List.range n).map fun (k : Nat) => PyData.int (k : Nat)) () = .ret (.nx ()) := loop_nx _ fun d hd => by
  obtain ⟨k, hk, rfl⟩ := List.mem_map.mp hd
  exact h k (List.mem_range.mp hk)
theorem endO_nx {S R : Type} (k : S → T R) (inj : D → R) (x : S) : endO k inj (.nx x) = k x := Eq.trans (Eq.refl _) rfl
theorem iBody_ok (ht : t.Ok) (hs : SOk s) (hb : b.ks.length ≤ 999) {i : Nat} (hi : i < t.ns.length) : iBody (eB b) (eT t) (eS s) (lotsD b t s) (.tuple (t.ns.map sd)) (.int (i : Nat)) () = .ret (.nx ()) := by
  unfold iBody
  rw [opt_some, rb, rb, len_tup, rb, List.length_map, range_nat (by have := ht.six; omega), rb]
  rw [loop_idx t.ns.length fun j hj => jBody_ok ht hs hb hi hj, rb, endO_nx]
theorem chk_ok (ht : t.Ok) (hs : SOk s) (hb : b.ks.length ≤ 999) : chkT (eB b) (eT t) (eS s) = .ret (.nx ()) := by
  have h0 : 0 < t.ns.length := by have := ht.two; omega
  unfold chkT
  rw [rb, rb, rb, mrank_ok ht hs hb, rb, eT_ns, rb, rb, len_tup, rb, List.length_map, range_nat (by have := ht.six; omega), rb]
  rw [loop_idx t.ns.length fun i hi => iBody_ok ht hs hb hi, rb, endO_nx]
  have n0 : ixD (.tuple (t.ns.map sd)) (.int 0) = .ret (sd (t.ns.getD 0 0)) := ix_name h0
  simp only [T.b2, rb, n0]
  rw [show itemsL (.list [.tuple [zed, sd (t.ns.getD 0 0)], .tuple [sd (t.ns.getD 0 0), zed]]) = .ret [.tuple [zed, sd (t.ns.getD 0 0)], .tuple [sd (t.ns.getD 0 0), zed]] from rfl, rb, zBody_ok ht (get_mem h0), rb, endO_nx]
end
end K02
end T_R10_K02

section T_R11_K02
set_option Elab.async false
set_option linter.all false
set_option maxRecDepth 1000000
set_option maxHeartbeats 1000000
set_option autoImplicit false
namespace K02
open PySem L2 DD RK
/-! ### tables drawn -/
def nmsD (n : Nat) : D := .tuple ((List.range n).map sd)
def nmT : T D := ((T.b2 addD (T.ret (.int 2)) ((T.b2 subD (T.ret (.int 5)) (T.ret (.int 1))).bind drawD)).bind m_law_names)
theorem nm_ok : nmT.okc 1 fun d => ∃ n, 2 ≤ n ∧ n ≤ 5 ∧ d = nmsD n :=
  T.okc_mono (T.all_okc (p := fun d => [2, 3, 4, 5].any fun n => sameD d (nmsD n)) (by decide +kernel)) fun d h => by
    obtain ⟨n, hn, e⟩ := List.any_eq_true.mp h
    refine ⟨n, ?_, ?_, sameD_eq e⟩ <;> (simp at hn; omega)
def idx (d : D) : Nat := ((List.range 8).find? fun i => sameD (sd i) d).getD 0
def decM : D → Nat × Nat × Int
  | .tuple [a, b, .int c] => (idx a, idx b, c)
  | _ => (0, 0, 0)
def mts (n : Nat) (r : Int) : List (Nat × Nat × Int) := match T.val (m_law_matches (nmsD n) (.int r)) with
  | some (.list ds) => ds.map decM
  | _ => []
def mtT (n : Nat) : T D := (T.b2 addD (T.ret (.int 1)) ((T.ret (.int 2)).bind drawD)).bind fun b => m_law_matches (nmsD n) b
def mGood (n : Nat) (ms : List (Nat × Nat × Int)) : Bool := (ms.all fun m => decide (m.1 < n) && decide (m.2.1 < n)) && decide (ms.length < 1000)
theorem mts_good : ([2, 3, 4, 5].all fun n => mGood n (mts n 1) && mGood n (mts n 2)) = true := by decide +kernel
theorem mt_all : ([2, 3, 4, 5].all fun n => T.all (fun d => sameD d (.list ((mts n 1).map eM)) || sameD d (.list ((mts n 2).map eM))) (mtT n) 1) = true := by decide +kernel
theorem mt_ok {n : Nat} (h1 : 2 ≤ n) (h2 : n ≤ 5) : (mtT n).okc 1 fun d => ∃ ms : List (Nat × Nat × Int), d = .list (ms.map eM) ∧ mGood n ms = true := by
  have hn : n ∈ [2, 3, 4, 5] := by simp; omega
  have g := List.all_eq_true.mp mts_good n hn
  rw [Bool.and_eq_true] at g
  refine T.okc_mono (T.all_okc (List.all_eq_true.mp mt_all n hn)) fun d h => ?_
  rcases Bool.or_eq_true_iff.mp h with h | h
  · exact ⟨_, sameD_eq h, g.1⟩
  · exact ⟨_, sameD_eq h, g.2⟩
theorem okc_b0 {α β : Type} {t : T α} {f : α → T β} {c : Nat} {Q : α → Prop} {R : β → Prop} (h : t.okc c Q) (k : ∀ a, Q a → (f a).okc 0 R) : (t.bind f).okc c R := by
  have := T.okc_bind (c' := 0) h k
  rw [Nat.zero_add] at this
  exact this
theorem okc_fold {S : Type} {f : D → S → T S} {c : Nat} {I : Nat → S → Prop} (N : Nat) : ∀ (l : List D) (i : Nat) (s : S), i + l.length ≤ N → I i s → (∀ j d s, j < N → d ∈ l → I j s → (f d s).okc c (I (j + 1))) → (T.foldM f l s).okc (c * l.length) (I (i + l.length))
  | [], i, s, _, h, _ => T.okc_ret h
  | d :: l, i, s, hN, h, hf => by
    rw [List.length_cons] at hN
    rw [List.length_cons, Nat.mul_add, Nat.mul_one]
    refine T.okc_bind (c' := c * l.length) (hf i d s (by omega) List.mem_cons_self h) fun s' h' => ?_
    have := okc_fold N l (i + 1) s' (by omega) h' fun j d s hj hd => hf j d s hj (List.mem_cons_of_mem _ hd)
    rw [show i + 1 + l.length = i + (l.length + 1) by omega] at this
    exact this
/-- some of a list, by draws -/
theorem okc_filt {α : Type} {e : α → D} {tc : D → T Bool} {c : Nat} : ∀ (l : List α), (∀ a ∈ l, (tc (e a)).okc c fun _ => True) → (T.filtM (itemT some tc fun x => T.ret x) (l.map e)).okc (c * l.length) fun r => ∃ m : List α, r = m.map e ∧ m.Sublist l
  | [], _ => T.okc_ret ⟨[], rfl, List.Sublist.slnil⟩
  | a :: l, h => by
    rw [List.length_cons, Nat.mul_add, Nat.mul_one]
    show ((itemT some tc (fun x => T.ret x) (e a)).bind _).okc _ _
    refine T.okc_bind (c' := c * l.length) (Q := fun o => o = none ∨ o = some (e a)) ?_ fun o ho => ?_
    · unfold itemT
      rw [opt_some, rb]
      have := T.okc_bind (c' := 0) (R := fun o => o = none ∨ o = some (e a)) (f := fun k => if k = true then (T.ret (e a)).bind fun e => T.ret (some e) else T.ret none) (h a List.mem_cons_self) fun k _ => by
        cases k
        · exact T.okc_ret (.inl rfl)
        · exact T.okc_ret (.inr rfl)
      rw [Nat.zero_add] at this
      exact this
    · have ih := okc_filt l fun b hb => h b (List.mem_cons_of_mem _ hb)
      show ((T.filtM (itemT some tc fun x => T.ret x) (l.map e)).bind _).okc _ _
      rcases ho with rfl | rfl
      · exact okc_b0 ih fun r ⟨m, er, hm⟩ => T.okc_ret ⟨m, er, List.Sublist.cons _ hm⟩
      · exact okc_b0 ih fun r ⟨m, er, hm⟩ => T.okc_ret ⟨a :: m, by rw [er] <;> rfl, List.Sublist.cons₂ _ hm⟩
theorem draw_cmp {n k : Int} (h : (decide (0 < n) && decide (n < 1073741824)) = true) : (T.b2 eqD ((T.ret (.int n)).bind drawD) (T.ret (.int k))).okc 1 fun _ => True := by
  have := T.okc_bind (c' := 0) (R := fun _ : Bool => True) (f := fun x => (T.ret (.int k)).bind fun y => eqD x y) (okc_drawD h) fun d ⟨v, e, _⟩ => by
    rw [e, rb, int_eq]
    exact T.okc_ret trivial
  rw [Nat.zero_add] at this
  exact this
theorem draw_gt {n k : Int} (h : (decide (0 < n) && decide (n < 1073741824)) = true) : (T.b2 gtD ((T.ret (.int n)).bind drawD) (T.ret (.int k))).okc 1 fun _ => True := by
  have := T.okc_bind (c' := 0) (R := fun _ : Bool => True) (f := fun x => (T.ret (.int k)).bind fun y => gtD x y) (okc_drawD h) fun d ⟨v, e, _⟩ => by
    rw [e, rb]
    exact T.okc_ret trivial
  rw [Nat.zero_add] at this
  exact this
theorem goals_ok : (m_law_goals (.int 2)).okc 3 fun d => ∃ r : Int × Int, d = eR (some r) := by
  unfold m_law_goals
  rw [show T.b2 addD (T.ret (.int 2)) (T.ret (.int 1)) = .ret (.int 3) from rfl, rb]
  refine T.okc_bind (c := 1) (c' := 2) (Q := fun d => ∃ v : Nat, d = .int v ∧ (v : Int) < 3) (okc_drawD (by decide)) fun d ⟨v, e, _⟩ => ?_
  subst e
  refine T.okc_bind (c := 1) (c' := 1) (draw_cmp (by decide)) fun k _ => ?_
  cases k with
  | true => exact T.okc_le (T.okc_ret ⟨((v : Nat), (v : Nat)), rfl⟩) (by omega)
  | false =>
    rw [if_neg Bool.false_ne_true, rb]
    refine T.okc_bind (c := 1) (c' := 0) (Q := fun d => ∃ v : Nat, d = .int v ∧ (v : Int) < 3) (okc_drawD (by decide)) fun d ⟨u, e, _⟩ => ?_
    subst e
    exact T.okc_ret ⟨((v : Nat), (u : Nat)), rfl⟩
theorem results_ok (ms : List (Nat × Nat × Int)) (h : ms.length < 1000) : (m_law_results (.list (ms.map eM)) (.int 2) (.int 6)).okc (5 * ms.length) fun d => ∃ rs : List (Option (Int × Int)), d = .list (rs.map eR) ∧ rs.length = ms.length := by
  unfold m_law_results
  rw [rb, rb, len_lst, rb, List.length_map, range_nat (by omega), rb]
  refine okc_b0 (Q := fun s2 : List D => ∃ rs : List (Option (Int × Int)), s2 = rs.map eR ∧ rs.length = ms.length) ?_ fun s2 ⟨rs, e, hl⟩ => T.okc_ret ⟨rs, by rw [e], hl⟩
  have f := okc_fold (c := 5) (I := fun i (s2 : List D) => ∃ rs : List (Option (Int × Int)), s2 = rs.map eR ∧ rs.length = i) (f := fun d (s2 : List D) => (T.opt (some d)).bind fun k3 => (nextD.bind fun z4 => (((T.ret (.int 2)).bind m_law_goals).bind fun told5 => (((andT (T.b2 gtD (T.ret (.int 6)) (T.ret (.int 0))) (T.b2 eqD ((T.ret (.int 6)).bind drawD) (T.ret (.int 0)))).bind fun k => if k then (T.ret .none) else (T.ret told5)).bind fun e6 => T.chk (List.length (α := D) s2) (T.ret (s2 ++ [e6]))))))
    1000 ((List.range ms.length).map fun (k : Nat) => PyData.int (k : Nat)) 0 [] (by rw [List.length_map, List.length_range]; omega) ⟨[], rfl, rfl⟩ fun j d s2 hj hd ⟨rs, e, hl⟩ => by
      rw [opt_some, rb]
      refine T.okc_bind (c := 1) (c' := 4) okc_nextD fun _ _ => ?_
      rw [rb]
      refine T.okc_bind (c := 3) (c' := 1) goals_ok fun told ⟨r, er⟩ => ?_
      rw [show andT (T.b2 gtD (T.ret (.int 6)) (T.ret (.int 0))) (T.b2 eqD ((T.ret (.int 6)).bind drawD) (T.ret (.int 0))) = T.b2 eqD ((T.ret (.int 6)).bind drawD) (T.ret (.int 0)) from rfl]
      refine okc_b0 (Q := fun e6 => ∃ o : Option (Int × Int), e6 = eR o) (okc_b0 (draw_cmp (by decide)) fun k _ => ?_) fun e6 ⟨o, eo⟩ => ?_
      · cases k
        · exact T.okc_ret ⟨some r, er⟩
        · exact T.okc_ret ⟨none, rfl⟩
      · rw [T.chk_pos _ (by rw [e, List.length_map]; omega)]
        exact T.okc_ret ⟨rs ++ [o], by rw [e, eo, List.map_append] <;> rfl, by rw [List.length_append, hl] <;> rfl⟩
  rw [List.length_map, List.length_range] at f
  exact T.okc_mono f fun s2 ⟨rs, e, hl⟩ => ⟨rs, e, by omega⟩
end K02
end T_R11_K02

section T_R12_K02
set_option Elab.async false
set_option linter.all false
set_option maxRecDepth 1000000
set_option maxHeartbeats 1000000
set_option autoImplicit false
namespace K02
open PySem L2 DD RK
/-! ### a ring in the table -/
def ringS (a_names : D) : T D := ((lcT ((T.ret (.int 3)).bind range1) some (fun k2 => (T.ret true)) fun k2 => (T.b2 ixD (T.ret a_names) (T.b2 modD (T.b2 addD (T.ret k2) ((T.ret (.int 2)).bind drawD)) ((T.ret a_names).bind lenD)))).bind fun ring1 => (((orT (T.b2 ltD ((T.ret a_names).bind lenD) (T.ret (.int 3))) (T.b2 ltD ((T.ret (.list ring1)).bind lenSetD) (T.ret (.int 3)))).bind fun k => if k then (((((T.ret a_names).bind fun x => (T.ret none : T (Option Int)).bind fun l => ((T.ret (.int 3)).bind partD).bind fun u => slD x l u).bind listD).bind fun ds => T.ret (.list ds)).bind fun ring4 => (T.ret ring4)) else (T.ret (.list ring1))) : T (D)))
def toldT : T D := ((((((T.ret (.int 1)).bind fun a => (T.ret (.int 0)).bind fun b => T.ret (.tuple [a, b])).bind fun a => (((T.ret (.int 2)).bind fun a => (T.ret (.int 1)).bind fun b => T.ret (.tuple [a, b])).bind fun a => (((T.ret (.int 3)).bind fun a => (T.ret (.int 0)).bind fun b => T.ret (.tuple [a, b])).bind fun a => (T.ret []).bind fun as => T.ret (a :: as)).bind fun as => T.ret (a :: as)).bind fun as => T.ret (a :: as)).bind fun ds => T.chk ds.length (T.ret ds)).bind fun ds => T.ret (.list ds)).bind m_law_pick)
def condT (s3 x y : D) : T Bool := (andT (T.b2 inD (T.ret x) (T.ret s3)) (andT (T.b2 inD (T.ret y) (T.ret s3)) (T.b2 eqD ((T.ret s3).bind lenD) (T.ret (.int 3)))))
def aheadT (s3 x y : D) : T D := (bo (T.b2 eqD (T.b2 ixD (T.ret s3) (T.b2 modD (T.b2 addD ((T.ret s3).bind fun a => (T.ret x).bind fun b => indexD a b) (T.ret (.int 1))) (T.ret (.int 3)))) (T.ret y)))
def ringB (a_matches s3 told5 : D) : D → List D → T (List D) := (fun d (s7 : List D) => (T.opt (some d)).bind fun k8 => ((T.b2 ixD (T.ret a_matches) (T.ret k8)).bind fun d => (T.opt ((tripO some some some) d)).bind fun p9 => ((condT s3 p9.1 p9.2.1).bind fun k => if k then ((aheadT s3 p9.1 p9.2.1).bind fun ahead16 => ((((T.ret ahead16).bind truth).bind fun k => if k then (T.ret told5) else ((T.ret told5).bind revD)).bind fun d => (T.ret k8).bind fun j => (putL s7 j d).bind fun l17 => (T.ret l17))) else (T.ret s7))))
theorem ring_eq (a_names a_matches a_results : D) : m_law_ring a_names a_matches a_results = (ringS a_names).bind fun s3 => toldT.bind fun told5 => (((T.ret a_results).bind listD).bind fun found6 => ((((T.ret a_matches).bind lenD).bind range1).bind fun ds => (T.foldM (ringB a_matches s3 told5) ds found6).bind fun s7 => (T.ret (.list s7)))) := by
  unfold m_law_ring ringS toldT ringB condT aheadT
  exact (T.bind_assoc _ _ _).symm
def ringQ (n : Nat) (d : D) : Bool := (List.range n).all fun a => (List.range n).all fun b => match T.val (condT d (sd a) (sd b)) with
  | some false => true
  | some true => (match T.val (aheadT d (sd a) (sd b)) with
    | some (.bool _) => true
    | _ => false)
  | none => false
theorem ring_all : ([2, 3, 4, 5].all fun n => T.all (ringQ n) (ringS (nmsD n)) 3) = true := by decide +kernel
theorem told_ok : toldT.okc 1 fun d => ∃ x y : Int, d = .tuple [.int x, .int y] :=
  T.okc_mono (T.all_okc (p := fun d => match d with | .tuple [.int _, .int _] => true | _ => false) (by decide +kernel)) fun d h => by
    split at h
    · exact ⟨_, _, rfl⟩
    · cases h
theorem ringQ_at {n : Nat} {d : D} (h : ringQ n d = true) {a b : Nat} (ha : a < n) (hb : b < n) : condT d (sd a) (sd b) = .ret false ∨ (condT d (sd a) (sd b) = .ret true ∧ ∃ v, aheadT d (sd a) (sd b) = .ret (.bool v)) := by
  unfold ringQ at h
  have g := List.all_eq_true.mp (List.all_eq_true.mp h a (List.mem_range.mpr ha)) b (List.mem_range.mpr hb)
  split at g
  · rename_i e
    exact .inl (T.val_eq e)
  · rename_i e
    split at g
    · rename_i v e2
      exact .inr ⟨T.val_eq e, v, T.val_eq e2⟩
    · cases g
  · cases g
theorem put_nat {l : List D} {k : Nat} (h : k < l.length) (d : D) : putL l (.int (k : Nat)) d = .ret (l.set k d) := by
  have : ixN l.length (k : Int) = some k := by
    unfold ixN
    rw [if_pos (by omega), if_pos (by omega)]
    rw [Int.toNat_natCast]
  simp only [putL, this]
theorem ring_ok {n : Nat} (h1 : 2 ≤ n) (h2 : n ≤ 5) {ms : List (Nat × Nat × Int)} (hm : ∀ m ∈ ms, m.1 < n ∧ m.2.1 < n) (few : ms.length < 1000) {rs : List (Option (Int × Int))} (hr : rs.length = ms.length) :
    (m_law_ring (nmsD n) (.list (ms.map eM)) (.list (rs.map eR))).okc 4 fun d => ∃ rs' : List (Option (Int × Int)), d = .list (rs'.map eR) ∧ rs'.length = ms.length := by
  rw [ring_eq]
  refine T.okc_bind (c := 3) (c' := 1) (T.all_okc (List.all_eq_true.mp ring_all n (by simp; omega))) fun s3 hq => ?_
  refine okc_b0 told_ok fun told ⟨x, y, et⟩ => ?_
  rw [rb, show listD (.list (rs.map eR)) = .ret (rs.map eR) from rfl, rb, rb, len_lst, rb, List.length_map, range_nat (by omega), rb]
  have f := okc_fold (c := 0) (I := fun _ (s7 : List D) => ∃ rs' : List (Option (Int × Int)), s7 = rs'.map eR ∧ rs'.length = ms.length) (f := ringB (.list (ms.map eM)) s3 told)
    1000 ((List.range ms.length).map fun (k : Nat) => PyData.int (k : Nat)) 0 (rs.map eR) (by rw [List.length_map, List.length_range]; omega) ⟨rs, rfl, hr⟩ fun j d s7 hj hd ⟨rs', e, hl⟩ => by
      obtain ⟨k, hk, rfl⟩ := List.mem_map.mp hd
      have hk := List.mem_range.mp hk
      have gm : (ms.map eM)[k]? = some (eM ms[k]) := by
        rw [List.getElem?_map, List.getElem?_eq_getElem hk] <;> rfl
      have hmk := hm _ (List.getElem_mem hk)
      unfold ringB
      rw [opt_some, rb]
      simp only [T.b2, rb]
      rw [ix_lnat gm, rb]
      generalize ms[k] = m at hmk
      rw [show T.opt (tripO some some some (eM m)) = .ret (sd m.1, sd m.2.1, PyData.int m.2.2) from rfl, rb]
      rcases ringQ_at hq hmk.1 hmk.2 with c | ⟨c, v, a⟩
      · rw [c, rb, if_neg Bool.false_ne_true]
        exact T.okc_ret ⟨rs', e, hl⟩
      · rw [c, rb, if_pos rfl, a, rb]
        have tr : truth (PyData.bool v) = .ret v := by cases v <;> rfl
        rw [tr, rb]
        have rv : revD told = .ret (.tuple [.int y, .int x]) := by rw [et] <;> rfl
        have hk7 : k < s7.length := by rw [e, List.length_map]; omega
        cases v with
        | true =>
          rw [if_pos rfl, rb, put_nat hk7, rb]
          exact T.okc_ret ⟨rs'.set k (some (x, y)), by rw [e, et, List.map_set] <;> rfl, by rw [List.length_set]; exact hl⟩
        | false =>
          rw [if_neg Bool.false_ne_true, rv, rb, put_nat hk7, rb]
          exact T.okc_ret ⟨rs'.set k (some (y, x)), by rw [e, List.map_set] <;> rfl, by rw [List.length_set]; exact hl⟩
  rw [Nat.zero_mul] at f
  exact okc_b0 f fun s7 ⟨rs', e, hl⟩ => T.okc_ret ⟨rs', by rw [e], hl⟩
end K02
end T_R12_K02

section T_R13_K02
set_option Elab.async false
set_option linter.all false
set_option maxRecDepth 1000000
set_option maxHeartbeats 1000000
set_option autoImplicit false
namespace K02
open PySem L2 DD RK
def pickT (t : T (List D)) : T D := ((t.bind fun ds => T.chk ds.length (T.ret ds)).bind fun ds => T.ret (.list ds)).bind m_law_pick
theorem mstruck_ok (n : Nat) (h2 : n ≤ 5) : (m_law_struck (nmsD n)).okc 11 fun d => ∃ s : List (Nat × Int), d = eS s ∧ SOk s := by
  unfold m_law_struck
  refine T.okc_bind (c := 1) (c' := 10) (draw_gt (by decide)) fun k _ => ?_
  cases k with
  | true => exact T.okc_le (T.okc_ret ⟨[], rfl, by decide, fun p hp => by cases hp⟩) (by omega)
  | false =>
    rw [if_neg Bool.false_ne_true]
    have f : ∀ (l : List Nat), (∀ i ∈ l, i < 8) → (T.filtM (itemT some (fun name1 => (T.b2 eqD ((T.ret (.int 2)).bind drawD) (T.ret (.int 0)))) fun name1 => ((T.ret name1).bind fun a => (T.b2 addD (T.ret (.int 1)) ((T.ret (.int 4)).bind drawD)).bind fun b => T.ret (.tuple [a, b]))) (l.map sd)).okc (2 * l.length) fun r => ∃ s : List (Nat × Int), r = (s.map fun p => PyData.tuple [sd p.1, .int p.2]) ∧ s.length ≤ l.length ∧ ∀ p ∈ s, p.1 < 8 := by
      intro l
      induction l with
      | nil => exact fun _ => T.okc_ret ⟨[], rfl, Nat.le_refl _, fun p hp => by cases hp⟩
      | cons i l ih =>
        intro h
        rw [List.length_cons, Nat.mul_add]
        show ((itemT some (fun name1 => (T.b2 eqD ((T.ret (.int 2)).bind drawD) (T.ret (.int 0)))) (fun name1 => ((T.ret name1).bind fun a => (T.b2 addD (T.ret (.int 1)) ((T.ret (.int 4)).bind drawD)).bind fun b => T.ret (.tuple [a, b]))) (sd i)).bind _).okc _ _
        refine T.okc_bind (c := 2) (c' := 2 * l.length) (Q := fun o => o = none ∨ ∃ v : Int, o = some (PyData.tuple [sd i, .int v])) ?_ fun o ho => ?_
        · unfold itemT
          rw [opt_some, rb]
          refine T.okc_bind (c := 1) (c' := 1) (draw_cmp (by decide)) fun k _ => ?_
          cases k with
          | false => exact T.okc_le (T.okc_ret (.inl rfl)) (by omega)
          | true =>
            rw [if_pos rfl, rb]
            simp only [T.b2, rb]
            refine okc_b0 (Q := fun d => ∃ v : Int, d = PyData.tuple [sd i, .int v]) (okc_b0 (Q := fun d => ∃ v : Int, d = .int v) (okc_b0 (okc_drawD (by decide)) fun d ⟨v, e, _⟩ => ?_) fun d ⟨v, e⟩ => T.okc_ret ⟨v, by rw [e]⟩) fun d ⟨v, e⟩ => T.okc_ret (.inr ⟨v, by rw [e]⟩)
            subst e
            exact T.okc_ret ⟨_, rfl⟩
        · have ih := ih fun j hj => h j (List.mem_cons_of_mem _ hj)
          show ((T.filtM _ (l.map sd)).bind _).okc _ _
          rcases ho with rfl | ⟨v, rfl⟩
          · exact okc_b0 ih fun r ⟨s, er, hl, h8⟩ => T.okc_ret ⟨s, er, by omega, h8⟩
          · exact okc_b0 ih fun r ⟨s, er, hl, h8⟩ => T.okc_ret ⟨(i, v) :: s, by rw [er] <;> rfl, by rw [List.length_cons]; omega, fun p hp => by
              rcases List.mem_cons.mp hp with rfl | hp
              · exact h i List.mem_cons_self
              · exact h8 p hp⟩
    have g := f (List.range n) fun i hi => by have := List.mem_range.mp hi; omega
    rw [List.length_range] at g
    rw [rb, show itemsT (nmsD n) = .ret ((List.range n).map sd) from rfl]
    unfold lcT
    rw [rb, T.chk_pos _ (by rw [List.length_map, List.length_range]; omega)]
    refine T.okc_le (c := 2 * n) (okc_b0 (Q := fun d => ∃ s : List (Nat × Int), d = PyData.list (s.map fun p => PyData.tuple [sd p.1, .int p.2]) ∧ s.length ≤ n ∧ ∀ p ∈ s, p.1 < 8) (okc_b0 g fun r ⟨s, e, hl, h8⟩ => T.okc_ret ⟨s, by rw [e], hl, h8⟩) fun d ⟨s, e, hl, h8⟩ => ?_) (by omega)
    subst e
    exact T.okc_ret ⟨s, rfl, by omega, h8⟩
def mtT0 (names1 : D) : T D := ((T.ret names1).bind fun a => (T.b2 addD (T.ret (.int 1)) ((T.ret (.int 2)).bind drawD)).bind fun b => m_law_matches a b)
def flT (matches2 : D) : T D := (((T.b2 eqD ((T.ret (.int 4)).bind drawD) (T.ret (.int 0))).bind fun k => if k then ((lcT ((T.ret matches2).bind itemsL) some (fun match5 => (T.b2 gtD ((T.ret (.int 5)).bind drawD) (T.ret (.int 0)))) fun match5 => (T.ret match5)).bind fun matches4 => (T.ret (.list matches4))) else (T.ret matches2)) : T (D))
def tabTail (names1 s3 : D) : T D := (((T.ret s3).bind fun a => (T.ret (.int 2)).bind fun b => (T.ret (.int 6)).bind fun c => m_law_results a b c).bind fun results6 => (nextD.bind fun z7 => ((((T.b2 eqD ((T.ret (.int 3)).bind drawD) (T.ret (.int 0))).bind fun k => if k then (((T.ret names1).bind fun a => (T.ret s3).bind fun b => (T.ret results6).bind fun c => m_law_ring a b c).bind fun results9 => (T.ret results9)) else (T.ret results6)) : T (D)).bind fun s8 => ((T.ret (.str ("table" : Str))).bind fun a => ((T.ret (.str ("fixtures" : Str))).bind fun a => (T.ret names1).bind fun b => ((T.ret s3).bind tupleD).bind fun c => T.ret (.tuple [a, b, c])).bind fun b => ((T.ret s8).bind tupleD).bind fun c => T.ret (.tuple [a, b, c])))))
theorem tab_eq : m_law_table (.int 5) (.int 2) (.int 6) = nmT.bind fun names1 => (mtT0 names1).bind fun matches2 => (flT matches2).bind fun s3 => tabTail names1 s3 := by
  unfold m_law_table nmT mtT0 flT tabTail
  rfl
def TQ (d : D) : Prop := ∃ t : Tb, d = eT t ∧ t.Ok ∧ ∃ n, 2 ≤ n ∧ n ≤ 5 ∧ PyData.tuple (t.ns.map sd) = nmsD n
theorem tail_ok {n : Nat} (h2 : 2 ≤ n) (h5 : n ≤ 5) {ms' : List (Nat × Nat × Int)} (hm : ∀ m ∈ ms', m.1 < n ∧ m.2.1 < n) (few : ms'.length < 1000) : (tabTail (nmsD n) (.list (ms'.map eM))).okc (6 + 5 * ms'.length) TQ := by
  unfold tabTail
  rw [rb, rb, rb]
  refine @T.okc_bind _ _ _ _ (5 * ms'.length) 6 _ _ (@results_ok ms' few) fun d ⟨rs, er, hl⟩ => ?_
  subst er
  refine T.okc_bind (c := 1) (c' := 5) okc_nextD fun _ _ => ?_
  refine okc_b0 (c := 5) (Q := fun d => ∃ rs' : List (Option (Int × Int)), d = .list (rs'.map eR) ∧ rs'.length = ms'.length) ?_ fun s8 ⟨rs', e8, hl8⟩ => ?_
  · refine T.okc_bind (c := 1) (c' := 4) (draw_cmp (by decide)) fun k _ => ?_
    cases k with
    | false => exact T.okc_le (T.okc_ret ⟨rs, rfl, hl⟩) (by omega)
    | true =>
      rw [if_pos rfl, rb, rb, rb]
      exact okc_b0 (ring_ok h2 h5 hm few hl) fun d h => T.okc_ret h
  · subst e8
    refine T.okc_ret ⟨⟨List.range n, ms', rs'⟩, rfl, ⟨fun i hi => by have := List.mem_range.mp hi; omega, List.pairwise_lt_range, ?_, ?_, hl8.symm, fun m h => by have := hm m h; omega, few⟩, n, h2, h5, rfl⟩
    · show 2 ≤ (List.range n).length
      rw [List.length_range]; exact h2
    · show (List.range n).length ≤ 6
      rw [List.length_range]; omega
theorem fl_ok (ms : List (Nat × Nat × Int)) (few : ms.length < 1000) : (flT (.list (ms.map eM))).okc 1001 fun d => ∃ ms' : List (Nat × Nat × Int), d = .list (ms'.map eM) ∧ ms'.Sublist ms := by
  unfold flT
  refine T.okc_bind (c := 1) (c' := 1000) (draw_cmp (by decide)) fun k _ => ?_
  cases k with
  | false => exact T.okc_le (T.okc_ret ⟨ms, rfl, List.Sublist.refl _⟩) (by omega)
  | true =>
    rw [if_pos rfl]
    have f := okc_filt (e := eM) (c := 1) (tc := fun match5 => (T.b2 gtD ((T.ret (.int 5)).bind drawD) (T.ret (.int 0)))) ms fun _ _ => draw_gt (by decide)
    unfold lcT
    rw [rb, show itemsL (.list (ms.map eM)) = .ret (ms.map eM) from rfl, rb, T.chk_pos _ (by rw [List.length_map]; omega)]
    exact T.okc_le (c := 1 * ms.length) (okc_b0 f fun r h => T.okc_ret (by obtain ⟨m, er, hs⟩ := h; exact ⟨m, by rw [er], hs⟩)) (by omega)
theorem table_ok : (m_law_table (.int 5) (.int 2) (.int 6)).okc 6004 TQ := by
  rw [tab_eq]
  refine T.okc_bind (c := 1) (c' := 6003) nm_ok fun names ⟨n, h2, h5, en⟩ => ?_
  subst en
  refine T.okc_bind (c := 1) (c' := 6002) (mt_ok h2 h5) fun matches2 ⟨ms, em, gd⟩ => ?_
  subst em
  unfold mGood at gd
  rw [Bool.and_eq_true, List.all_eq_true, decide_eq_true_eq] at gd
  have hm0 : ∀ m ∈ ms, m.1 < n ∧ m.2.1 < n := fun m hm => by
    have := gd.1 m hm
    rwa [Bool.and_eq_true, decide_eq_true_eq, decide_eq_true_eq] at this
  have few0 := gd.2
  refine T.okc_bind (c := 1001) (c' := 5001) (fl_ok ms few0) fun s3 ⟨ms', e3, sub⟩ => ?_
  subst e3
  have hl := sub.length_le
  exact @T.okc_le _ _ _ _ _ (@tail_ok n h2 h5 ms' (fun m h => hm0 m (sub.subset h)) (by omega)) (by omega)
end K02
end T_R13_K02

section T_R14_K02
set_option Elab.async false
set_option linter.all false
set_option maxRecDepth 1000000
set_option maxHeartbeats 1000000
set_option autoImplicit false
namespace K02
open PySem L2 DD RK
/-! ### books drawn -/
def KS : List (Ms × Bool) := [(.pt, true), (.pt, false), (.df, true), (.df, false), (.gl, true), (.gl, false), (.wn, true), (.wn, false), (.tk, true), (.tk, false), (.ag, true), (.ag, false), (.aw, true), (.aw, false)]
def evT : T D := (((T.ret []).bind fun ds => T.ret (.list ds)).bind fun every1 => ((((((T.ret (.str ("points" : Str))).bind fun a => ((T.ret (.str ("difference" : Str))).bind fun a => ((T.ret (.str ("goals" : Str))).bind fun a => ((T.ret (.str ("wins" : Str))).bind fun a => ((T.ret (.str ("taken" : Str))).bind fun a => ((T.ret (.str ("awaygoals" : Str))).bind fun a => ((T.ret (.str ("awaywins" : Str))).bind fun a => (T.ret []).bind fun as => T.ret (a :: as)).bind fun as => T.ret (a :: as)).bind fun as => T.ret (a :: as)).bind fun as => T.ret (a :: as)).bind fun as => T.ret (a :: as)).bind fun as => T.ret (a :: as)).bind fun as => T.ret (a :: as)).bind fun ds => T.chk ds.length (T.ret ds)).bind fun ds => T.ret (.list ds)).bind itemsL).bind fun ds => (T.foldM (fun d (s2 : D) => (T.opt (some d)).bind fun measure3 => (((T.b2 catD (T.ret s2) ((((T.ret measure3).bind fun a => (T.ret (.str ("all" : Str))).bind fun b => T.ret (.tuple [a, b])).bind fun a => ((T.ret measure3).bind fun a => (T.ret (.str ("among" : Str))).bind fun b => T.ret (.tuple [a, b])).bind fun b => T.ret [a, b]).bind fun ds => T.ret (.list ds))).bind fun ds => T.ret (.list ds)).bind fun every4 => (T.ret every4))) ds every1)))
theorem ev_ok : evT = .ret (.list (KS.map eK)) := T.is_eq (by decide +kernel)
def keyB (s2 : D) : D → List D → T (List D) := (fun d (s6 : List D) => (T.opt (some d)).bind fun turn7 => ((T.b2 ixD (T.ret s2) (((T.ret (.int 14)).bind drawD).bind fun a => ((T.ret (.int 14)).bind drawD).bind fun b => min2D [a, b])).bind fun key8 => (((T.ret key8).bind fun d => ninL s6 d).bind fun k => if k then ((T.ret key8).bind fun e9 => T.chk (List.length (α := D) s6) (T.ret (s6 ++ [e9]))) else (T.ret s6))))
def keysT (s2 : D) : T D := (((T.b2 gtD ((T.ret (.int 3)).bind drawD) (T.ret (.int 0))).bind fun k => if k then (((T.ret (.str ("points" : Str))).bind fun a => (T.ret (.str ("all" : Str))).bind fun b => T.ret (.tuple [a, b])).bind fun a => T.ret [a]) else (T.ret [])).bind fun found5 => (((T.b2 addD (T.ret (.int 1)) ((T.ret (.int 5)).bind drawD)).bind range1).bind fun ds => (T.foldM (keyB s2) ds found5).bind fun s6 => ((T.ret (.list s6)).bind tupleD)))
theorem keys_eq : m_law_keys_drawn (.int 5) = evT.bind keysT := by
  unfold m_law_keys_drawn evT keysT keyB
  exact (T.bind_assoc _ _ _).symm
end K02
end T_R14_K02

section T_R15_K02
set_option Elab.async false
set_option linter.all false
set_option maxRecDepth 1000000
set_option maxHeartbeats 1000000
set_option autoImplicit false
namespace K02
open PySem L2 DD RK
theorem eK_shp : ∀ k : Ms × Bool, shp 1 (eK k) = true := fun ⟨m, s⟩ => by cases m <;> cases s <;> decide +kernel
theorem eKs_sh (ks : List (Ms × Bool)) : SeqAt.shaped (.list (ks.map eK)) = true := shp_shaped (n := 2) (shp_list fun d hd => by
  obtain ⟨i, hi, rfl⟩ := List.mem_map.mp hd
  exact eK_shp i) (by decide)
theorem nin_key (ks : List (Ms × Bool)) (k : Ms × Bool) : ∃ v, ninL (ks.map eK) (eK k) = .ret v := by
  refine ⟨!anyD (ks.map eK) (eK k), ?_⟩
  unfold ninL
  rw [shp_shaped (n := 1) (eK_shp k) (by decide), eKs_sh]
  rfl
theorem keyB_ok (d : D) (ks : List (Ms × Bool)) (h : ks.length < 1000) : (keyB (.list (KS.map eK)) d (ks.map eK)).okc 2 fun s6 => ∃ ks' : List (Ms × Bool), s6 = ks'.map eK ∧ ks'.length ≤ ks.length + 1 := by
  unfold keyB
  rw [opt_some, rb]
  refine okc_b0 (c := 2) (Q := fun d => ∃ k, d = eK k) ?_ fun key ⟨k, e⟩ => ?_
  · simp only [T.b2, rb]
    refine okc_b0 (c := 2) (Q := fun d => ∃ v : Nat, v < 14 ∧ d = .int (v : Nat)) ?_ fun d ⟨v, hv, e⟩ => ?_
    · refine T.okc_bind (c := 1) (c' := 1) (okc_drawD (by decide)) fun d ⟨v, e, hv⟩ => ?_
      subst e
      refine T.okc_bind (c := 1) (c' := 0) (okc_drawD (by decide)) fun d ⟨u, e, hu⟩ => ?_
      subst e
      show (T.ret (PyData.int (if (u : Int) < (v : Int) then (u : Int) else (v : Int)))).okc 0 _
      by_cases z : (u : Int) < (v : Int)
      · rw [if_pos z]
        exact T.okc_ret ⟨u, by omega, rfl⟩
      · rw [if_neg z]
        exact T.okc_ret ⟨v, by omega, rfl⟩
    · subst e
      have g : (KS.map eK)[v]? = some (eK (KS.getD v (.pt, true))) := by
        have hl : v < KS.length := hv
        rw [List.getElem?_map, List.getElem?_eq_getElem hl, List.getD_eq_getElem?_getD, List.getElem?_eq_getElem hl] <;> rfl
      rw [ix_lnat g]
      exact T.okc_ret ⟨_, rfl⟩
  · subst e
    obtain ⟨v, hv⟩ := nin_key ks k
    rw [rb, hv, rb]
    cases v with
    | true =>
      rw [if_pos rfl, rb, T.chk_pos _ (by rw [List.length_map]; omega)]
      exact T.okc_ret ⟨ks ++ [k], by rw [List.map_append] <;> rfl, by rw [List.length_append] <;> exact Nat.le_refl _⟩
    | false =>
      rw [if_neg Bool.false_ne_true]
      exact T.okc_ret ⟨ks, rfl, by omega⟩
theorem keysT_ok : (keysT (.list (KS.map eK))).okc 12 fun d => ∃ ks : List (Ms × Bool), d = .tuple (ks.map eK) ∧ ks.length ≤ 999 := by
  unfold keysT
  refine T.okc_bind (c := 1) (c' := 11) (Q := fun s => ∃ ks : List (Ms × Bool), s = ks.map eK ∧ ks.length ≤ 1) ?_ fun s ⟨ks, e, hl⟩ => ?_
  · refine T.okc_bind (c := 1) (c' := 0) (draw_gt (by decide)) fun k _ => ?_
    cases k with
    | true => exact T.okc_ret ⟨[(.pt, true)], rfl, by decide⟩
    | false => exact T.okc_ret ⟨[], rfl, by decide⟩
  · subst e
    refine T.okc_bind (c := 1) (c' := 10) (Q := fun ds : List D => ds.length ≤ 5) ?_ fun ds hd => ?_
    · simp only [T.b2, rb]
      refine okc_b0 (c := 1) (Q := fun d => ∃ v : Nat, v ≤ 5 ∧ d = .int (v : Nat)) ?_ fun d ⟨v, hv, e⟩ => ?_
      · refine T.okc_bind (c := 1) (c' := 0) (okc_drawD (by decide)) fun d ⟨v, e, hv⟩ => ?_
        subst e
        exact T.okc_ret ⟨1 + v, by omega, rfl⟩
      · subst e
        rw [range_nat (by omega)]
        exact T.okc_ret (by rw [List.length_map, List.length_range]; exact hv)
    · have f := okc_fold (c := 2) (I := fun i (s6 : List D) => ∃ ks' : List (Ms × Bool), s6 = ks'.map eK ∧ ks'.length ≤ i + 1) (f := keyB (.list (KS.map eK))) 5 ds 0 (ks.map eK) (by omega) ⟨ks, rfl, by omega⟩ fun j d s6 hj _ ⟨ks', e, hl'⟩ => by
        subst e
        exact T.okc_mono (keyB_ok d ks' (by omega)) fun s ⟨k2, e2, h2⟩ => ⟨k2, e2, by omega⟩
      refine T.okc_le (c := 2 * ds.length) (okc_b0 f fun s6 ⟨ks', e, hl'⟩ => ?_) (by omega)
      subst e
      rw [rb]
      exact T.okc_ret ⟨ks', rfl, by omega⟩
theorem book_ok : (m_law_book (.int 5)).okc 14 fun d => ∃ b : Bk, d = eB b ∧ b.ks.length ≤ 999 := by
  unfold m_law_book
  refine T.okc_bind (c := 1) (c' := 13) (Q := fun d => ∃ p, d = eP p) ?_ fun d ⟨p, e⟩ => ?_
  · exact T.okc_mono (T.all_okc (p := fun d => match d with | .tuple [.int _, .int _, .int _] => true | _ => false) (by decide +kernel)) fun d h => by
      split at h
      · exact ⟨(_, _, _), rfl⟩
      · cases h
  · subst e
    rw [rb, rb, rb, keys_eq, ev_ok, rb]
    refine T.okc_bind (c := 12) (c' := 1) keysT_ok fun d ⟨ks, e, hl⟩ => ?_
    subst e
    refine T.okc_bind (c := 1) (c' := 0) (Q := fun d => ∃ z : Bool, d = .str (if z then ("anew" : Str) else ("on" : Str))) ?_ fun d ⟨z, e⟩ => ?_
    · exact T.okc_mono (T.all_okc (p := fun d => sameD d (.str ("anew" : Str)) || sameD d (.str ("on" : Str))) (by decide +kernel)) fun d h => by
        rcases Bool.or_eq_true_iff.mp h with h | h
        · exact ⟨true, sameD_eq h⟩
        · exact ⟨false, sameD_eq h⟩
    · subst e
      exact T.okc_ret ⟨⟨p, ks, z⟩, rfl, hl⟩
end K02
end T_R15_K02

section T_L_K02
set_option Elab.async false
set_option linter.all false
set_option maxRecDepth 1000000
set_option maxHeartbeats 1000000
set_option autoImplicit false
namespace K02
open PySem L2 DD RK
def isNxU : O Unit → Bool
  | .nx _ => true
  | _ => false
theorem isNxU_eq {o : O Unit} (h : isNxU o = true) : o = .nx () := by
  cases o <;> first | rfl | cases h
def woT : T (O Unit) := (m_law_wonders.bind itemsL).bind fun ds => T.loopM (S := Unit) woBody ds ()
theorem wo_val : (match T.val woT with | some o => isNxU o | none => false) = true := by decide +kernel
theorem wo_ok : woT = .ret (.nx ()) := by
  have h := wo_val
  split at h
  · rename_i o e
    rw [isNxU_eq h] at e
    exact T.val_eq e
  · cases h
theorem tr_ok (d : D) (s : Unit) : (trBody d s).okc 6031 fun o => o = .nx () := by
  unfold trBody
  rw [opt_some, rb]
  refine @T.okc_bind _ _ _ _ 1 6030 _ _ okc_nextD fun _ _ => ?_
  rw [rb, rb, rb]
  refine @T.okc_bind _ _ _ _ 6004 26 _ _ table_ok fun d ⟨t, e, ht, n, h2, h5, en⟩ => ?_
  subst e
  refine @T.okc_bind _ _ _ _ 1 25 _ _ okc_nextD fun _ _ => ?_
  rw [rb]
  refine @T.okc_bind _ _ _ _ 14 11 _ _ book_ok fun d ⟨b, e, hb⟩ => ?_
  subst e
  have nsD : (T.b2 ixD (T.b2 ixD (T.ret (eT t)) (T.ret (.int 1))) (T.ret (.int 1))) = .ret (nmsD n) := by
    rw [← en]
    rfl
  rw [nsD, rb]
  refine @okc_b0 _ _ _ _ 11 _ _ (mstruck_ok n h5) fun d ⟨s, e, hs⟩ => ?_
  subst e
  rw [chk_ok ht hs hb]
  exact T.okc_ret rfl
theorem tr_loop : ∀ l : List D, (T.loopM trBody l ()).okc (6031 * l.length) fun o => o = .nx ()
  | [] => T.okc_ret rfl
  | d :: l => by
    rw [List.length_cons, Nat.mul_add, Nat.mul_one]
    refine @T.okc_bind _ _ _ _ 6031 (6031 * l.length) _ _ (tr_ok d ()) fun o h => ?_
    subst h
    exact tr_loop l
theorem law_okc : m_law.okc (6031 * 3) fun d => d = .bool true := by
  have e : m_law = (woT.bind (endO (fun s1 => (((T.ret (.int 3)).bind range1).bind fun ds => (T.loopM (S := Unit) trBody ds ()).bind (endO (fun s11 => (T.ret (.bool true))) (fun d => d)))) (fun d => d))) := by
    rw [law_eq]
    exact (T.bind_assoc _ _ _).symm
  rw [e, wo_ok, rb, endO_nx, rb]
  have r3 : range1 (.int 3) = .ret ((List.range 3).map fun (k : Nat) => PyData.int (k : Nat)) := range_nat (b := 3) (by decide)
  rw [r3, rb]
  refine @okc_b0 _ _ _ _ (6031 * 3) _ _ (tr_loop ((List.range 3).map fun (k : Nat) => PyData.int (k : Nat))) fun o h => ?_
  subst h
  exact T.okc_ret rfl
theorem law_true : m_law.ok 1000000 fun d _ => d = .bool true :=
  T.ok_mono (law_okc (1000000 - 6031 * 3)) fun d g z => z.1
end K02
end T_L_K02

section T_V_K02
set_option Elab.async false
set_option linter.all false
set_option maxRecDepth 100000
set_option maxHeartbeats 4000000
set_option autoImplicit false
set_option pp.maxSteps 300
namespace K02
open PySem PySem.Spec L2 DD
open PyProof.Rows hiding St
section
variable {P : Program} {w : World} {K : PySem.W.Frag} {mg : Str → Option Value} {base : Heap}
/-! ### _law_pool -/
abbrev s_law_pool : Stmt := top 17
def N_law_pool : List Str := [("script" : Str)]
theorem sc_law_pool : FnScope N_law_pool [("script" : Str)] (defScope s_law_pool) := ⟨rfl, rfl, rfl, by decide +kernel, rfl, by decide +kernel, by decide +kernel⟩
theorem ok_law_pool {f : Addr} {fd : FuncData} (F : Fun K "_law_pool" "_law_pool" s_law_pool f fd) (R : Fd P w K mg 2 ("_law_rest" : Str) (spRest K)) : FnOk P w K mg base CX0 3 f fd [("script" : Str)] (spPool K) := by
  obtain ⟨fr, fdr, psr, hm, hk, hb, R⟩ := R.ex
  refine F.ok sc_law_pool (fun vs H Q E ⟨sc, ns, e, _⟩ => by rw [e] <;> rfl) (fun cdv A outer s H vs Q E hr ⟨sc, ns, e, hS, hs, hq⟩ => ?_)
  subst e
  refine ⟨_, pss_one (ps_ret (pe_lst (pa_cons (pv 0) (pa_cons pe_int (pa_cons (pe_call (R _) hr rfl hm hk hb .nil pass0 (pa_cons (pv 0) (pa_cons pe_int (pa_cons pe_int pa_nil)))) (pa_cons pe_int pa_nil)))))), ?_⟩
  refine ⟨_, rfl, _, rfl, sc, ns, 0, 0, rfl, hS, hs, by decide, by decide, by decide, by decide, fun r H' hr0 hs' => ?_⟩
  exact ⟨Nat.le_of_lt (small1000 (show 4 ≤ 1000 by decide)), fun l hl => hq l r _ hr0 (hs'.trans (same_upd hl)) (hs'.free hl) upd_same⟩
/-! ### _law_next -/
abbrev s_law_next : Stmt := top 18
def N_law_next : List Str := [("pool" : Str)]
theorem sc_law_next : FnScope N_law_next [("pool" : Str)] (defScope s_law_next) := ⟨rfl, rfl, rfl, by decide +kernel, rfl, by decide +kernel, by decide +kernel⟩
theorem ok_law_next {f : Addr} {fd : FuncData} (F : Fun K "_law_next" "_law_next" s_law_next f fd) (R : Fd P w K mg 2 ("_law_rest" : Str) (spRest K)) : FnOk P w K mg base CX0 3 f fd [("pool" : Str)] (spP K 0 (ar0 nextD)) := by
  obtain ⟨fr, fdr, psr, hm, hk, hb, R⟩ := R.ex
  refine F.ok sc_law_next (fun vs H Q E ⟨a, vs', Hb, g, ds, e, _, h1, h2, _⟩ => by rw [e, List.length_cons, DnAll.len h1, h2] <;> rfl) (fun cdv A outer s H vs Q E hr ⟨a, vs', Hb, g, ds, e, ok0, h1, h2, h3⟩ => ?_)
  cases h1 with
  | cons _ _ => cases h2
  | nil =>
  subst e
  obtain ⟨g', rfl, h3⟩ := h3
  obtain ⟨nb, sc, ns, pl, r, fl, hp, hS, hs1, hs2, p0, p1, f0, f1, r0⟩ := ok0.pool a rfl
  have hS' := ok0.sub.seq hS
  have m0 : Md a Hb H H [.ref sc, .int pl, .int r, .int fl] := ⟨ok0.sub, fun _ _ _ h => h, hp⟩
  refine ⟨_, pss_cons (ps_asg (pe_op op_add (pe_ix ix_list (pv 0) pe_int fun _ _ => rfl) pe_int) (pg_sub (pv 0) pe_int set_list fun _ => rfl))
    (pss_cons (ps_asg (pe_call (R _) hr rfl hm hk hb .nil pass0 (pa_cons (pe_ix ix_list (pv 0) pe_int fun _ _ => rfl) (pa_cons (pe_ix ix_list (pv 0) pe_int fun _ _ => rfl) (pa_cons pe_int pa_nil)))) (pg_sub (pv 0) pe_int set_list fun _ => rfl))
    (pss_one (ps_asg pe_int (pg_sub (pv 0) pe_int set_list fun _ => rfl)))), ?_⟩
  refine ⟨_, rfl, a, _, 1, _, rfl, rfl, SqL.of m0.pool, rfl, pl, 1, rfl, rfl, _, rfl, a, _, 1, 1, rfl, rfl, m0.pool, rfl, ?_⟩
  have m1 := m0.set nb [.ref sc, .int (pl + 1), .int r, .int fl]
  refine ⟨_, rfl, a, _, 0, _, rfl, rfl, SqL.of m1.pool, rfl, _, rfl, a, _, 1, _, rfl, rfl, SqL.of m1.pool, rfl, sc, ns, pl + 1, 0, rfl, m1.sub.seq hS, ⟨hs1, hs2⟩, by omega, by omega, by decide, by decide, fun r' H1 hr' s1 => ?_⟩
  have m2 := m1.same s1
  refine ⟨_, rfl, a, _, 2, 2, rfl, rfl, m2.pool, rfl, ?_⟩
  have m3 := m2.set nb [.ref sc, .int (pl + 1), .int r', .int fl]
  refine ⟨_, rfl, a, _, 3, 3, rfl, rfl, m3.pool, rfl, ?_⟩
  have m4 := m3.set nb [.ref sc, .int (pl + 1), .int r', .int 0]
  exact h3 _ Hb _ m4.step (m4.ok nb hS hs1 hs2 (by omega) (by omega) (by decide) (by omega) hr') .non
/-! ### _law_draw -/
abbrev s_law_draw : Stmt := top 19
def N_law_draw : List Str := [("pool" : Str), ("limit" : Str), ("value" : Str)]
theorem sc_law_draw : FnScope N_law_draw [("pool" : Str), ("limit" : Str)] (defScope s_law_draw) := ⟨rfl, rfl, rfl, by decide +kernel, rfl, by decide +kernel, by decide +kernel⟩
theorem ok_law_draw {f : Addr} {fd : FuncData} (F : Fun K "_law_draw" "_law_draw" s_law_draw f fd) (hint : mg "int" = none) (R : Fd P w K mg 2 ("_law_rest" : Str) (spRest K)) : FnOk P w K mg base CX0 3 f fd [("pool" : Str), ("limit" : Str)] (spP K 1 (ar1 drawD)) := by
  obtain ⟨fr, fdr, psr, hm, hk, hb, R⟩ := R.ex
  refine F.ok sc_law_draw (fun vs H Q E ⟨a, vs', Hb, g, ds, e, _, h1, h2, _⟩ => by rw [e, List.length_cons, DnAll.len h1, h2] <;> rfl) (fun cdv A outer s H vs Q E hr ⟨a, vs', Hb, g, ds, e, ok0, h1, h2, h3⟩ => ?_)
  obtain ⟨v, d, rfl, rfl, hd, h3⟩ := one_of (H := H) (m := drawD) (C := PD K (some a) Hb H Q) h1 (by cases ds with | nil => cases h2 | cons d ds => cases ds with | nil => exact h3 | cons _ _ => cases h2)
  subst e
  cases hd with
  | int n =>
    obtain ⟨hn, c3⟩ := T.ok_need h3
    rw [Bool.and_eq_true, decide_eq_true_eq, decide_eq_true_eq] at hn
    obtain ⟨n0, n1, g', rfl, c3⟩ := c3
    obtain ⟨nb, sc, ns, pl, r, fl, hp, hS, hs1, hs2, p0, p1, f0, f1, r0⟩ := ok0.pool a rfl
    have m0 : Md a Hb H H [.ref sc, .int pl, .int r, .int fl] := ⟨ok0.sub, fun _ _ _ h => h, hp⟩
    have hN : N_law_draw.Nodup := by decide +kernel
    refine ⟨_, pss_cons (ps_if (pt_cmpR op_le (pe_ix ix_list (pv 0) pe_int fun _ _ => rfl) pe_int (nomark _)) (pss_cons (ps_asg (pe_op op_add (pe_ix ix_list (pv 0) pe_int fun _ _ => rfl) pe_int) (pg_sub (pv 0) pe_int set_list fun _ => rfl))
      (pss_one (ps_asg (pe_call (R _) hr rfl hm hk hb .nil pass0 (pa_cons (pe_ix ix_list (pv 0) pe_int fun _ _ => rfl) (pa_cons (pe_ix ix_list (pv 0) pe_int fun _ _ => rfl) (pa_cons (pe_ix ix_list (pv 0) pe_int fun _ _ => rfl) pa_nil)))) (pg_sub (pv 0) pe_int set_list fun _ => rfl)))) pss_nil)
      (pss_cons (ps_set (i := 2) hN rfl (.inl rfl) (pe_op op_mod (pe_callTy call_int1 rfl hint boot_int (pa_cons (pe_ix ix_list (pv 0) pe_int fun _ _ => rfl) pa_nil)) (pv 1)))
      (pss_cons (ps_asg (pe_op op_fdiv (pe_callTy call_int1 rfl hint boot_int (pa_cons (pe_ix ix_list (pv 0) pe_int fun _ _ => rfl) pa_nil)) (pv 1)) (pg_sub (pv 0) pe_int set_list fun _ => rfl))
      (pss_one (ps_ret (pv 2))))), ?_⟩
    have fin : ∀ (H1 : Hp) (r1 q1 fl1 : Int), Md a Hb H H1 [.ref sc, .int pl, .int q1, .int fl1] → 0 ≤ r1 → 0 ≤ q1 → 0 ≤ fl1 → fl1 + g' ≤ 2 ^ 60 → Q (.int (r1 % n)) H1 := fun H1 r1 q1 fl1 m h1 h2 h3' h4 => by
      have e1 := Int.emod_nonneg r1 (show n ≠ 0 by omega)
      have e2 := Int.emod_lt_of_pos r1 hn.1
      have k := c3 (r1 % n).toNat (by omega) (.int (r1 % n)) Hb H1 m.step (m.ok nb hS hs1 hs2 p0 (by omega) h3' h4 h2)
      rw [Int.toNat_of_nonneg e1] at k
      exact k (.int _)
    refine ⟨_, rfl, a, _, 2, _, rfl, rfl, SqL.of m0.pool, rfl, _, _, rfl, rfl, _, rfl, ?_⟩
    refine ite2 (fun _ => ?_) (fun _ => ?_)
    · refine ⟨_, rfl, a, _, 3, _, rfl, rfl, SqL.of m0.pool, rfl, fl, 1, rfl, rfl, _, rfl, a, _, 3, 3, rfl, rfl, m0.pool, rfl, ?_⟩
      have m1 := m0.set nb [.ref sc, .int pl, .int r, .int (fl + 1)]
      refine ⟨_, rfl, a, _, 0, _, rfl, rfl, SqL.of m1.pool, rfl, _, rfl, a, _, 1, _, rfl, rfl, SqL.of m1.pool, rfl, _, rfl, a, _, 3, _, rfl, rfl, SqL.of m1.pool, rfl, sc, ns, pl, fl + 1, rfl, m1.sub.seq hS, ⟨hs1, hs2⟩, by omega, by omega, by omega, by omega, fun r' H1 hr' s1 => ?_⟩
      have m2 := m1.same s1
      refine ⟨_, rfl, a, _, 2, 2, rfl, rfl, m2.pool, rfl, ?_⟩
      have m3 := m2.set nb [.ref sc, .int pl, .int r', .int (fl + 1)]
      refine ⟨_, rfl, a, _, 2, _, rfl, rfl, SqL.of m3.pool, rfl, .inl ⟨r', rfl, _, rfl, r', n, rfl, rfl, hn.1, ?_⟩⟩
      refine ⟨_, rfl, a, _, 2, _, rfl, rfl, SqL.of m3.pool, rfl, .inl ⟨r', rfl, _, rfl, r', n, rfl, rfl, hn, _, rfl, a, _, 2, 2, rfl, rfl, m3.pool, rfl, ?_⟩⟩
      have m4 := m3.set nb [.ref sc, .int pl, .int (r' / n), .int (fl + 1)]
      exact ⟨_, rfl, fin _ r' (r' / n) (fl + 1) m4 hr' (Int.ediv_nonneg hr' (by omega)) (by omega) (by omega)⟩
    · refine ⟨_, rfl, a, _, 2, _, rfl, rfl, SqL.of m0.pool, rfl, .inl ⟨r, rfl, _, rfl, r, n, rfl, rfl, hn.1, ?_⟩⟩
      refine ⟨_, rfl, a, _, 2, _, rfl, rfl, SqL.of m0.pool, rfl, .inl ⟨r, rfl, _, rfl, r, n, rfl, rfl, hn, _, rfl, a, _, 2, 2, rfl, rfl, m0.pool, rfl, ?_⟩⟩
      have m4 := m0.set nb [.ref sc, .int pl, .int (r / n), .int fl]
      exact ⟨_, rfl, fin _ r (r / n) fl m4 r0 (Int.ediv_nonneg r0 (by omega)) f0 (by omega)⟩
  | _ => exact h3.elim
end

section
variable {P : Program} {w : World} {K : PySem.W.Frag} {mg : Str → Option Value} {base : Heap}
theorem ok_law {f : Addr} {fd : FuncData} (F : Fun K "law" "law" s_law f fd) (G : Gs K mg) (FP : Fd P w K mg 3 ("_law_pool" : Str) (spPool K)) {xc : XC} (GX : Gx P K mg xc) (F_law_book : Fd P w K mg 5 ("_law_book" : Str) (spP K 1 (ar1 m_law_book))) (F_law_next : Fd P w K mg 3 ("_law_next" : Str) (spP K 0 (ar0 nextD))) (F_law_place : Fd P w K mg 1 ("_law_place" : Str) (spI K 2 (ar2 m_law_place))) (F_law_reason : Fd P w K mg 4 ("_law_reason" : Str) (spI K 5 (ar5 m_law_reason))) (F_law_same : Fd P w K mg 6 ("_law_same" : Str) (spI K 2 (ar2 (m_law_same 6)))) (F_law_struck : Fd P w K mg 4 ("_law_struck" : Str) (spP K 1 (ar1 m_law_struck))) (F_law_table : Fd P w K mg 6 ("_law_table" : Str) (spP K 3 (ar3 m_law_table))) (F_law_wonders : Fd P w K mg 1 ("_law_wonders" : Str) (spI K 0 (ar0 m_law_wonders))) (Frank : Fd P w K mg 13 ("rank" : Str) (spI K 3 (ar3 m_rank))) (Freason : FdE P w K mg 5 ("reason" : Str) (spE K xc 5 (xr5 m_reason))) : FnOk P w K mg base CX0 14 f fd [("script" : Str)] (spLaw K) := by
  obtain ⟨fr, fdr, psr, hm, hk, hb, R⟩ := FP.ex
  have hN : N_law.Nodup := by decide +kernel
  refine F.ok sc_law (fun vs H Q E ⟨sc, ns, e, _⟩ => by rw [e] <;> rfl) (fun cdv A outer s H vs Q E hr ⟨sc, ns, e, hS, hs, hq⟩ => ?_)
  subst e
  refine ⟨_, pss_cons (ps_set (i := 1) hN rfl (.inl rfl) (pe_call (R _) (hr.mono (by decide)) rfl hm hk hb .nil pass0 (pa_cons (pv 0) pa_nil))) (pss_w (X := bodyX P w K mg (A.deeper (envOfC "law" (defScope s_law) s.heap.objs.size f cdv)) N_law s_law)
    (z := .top base s H (envOfC "law" (defScope s_law) s.heap.objs.size f cdv) outer rfl rfl rfl)), ?_⟩
  refine ⟨_, rfl, sc, ns, rfl, hS, hs, fun p r H1 hr0 s1 hn hp => ?_⟩
  refine d_law G GX F_law_book F_law_next F_law_place F_law_reason F_law_same F_law_struck F_law_table F_law_wonders Frank Freason _ p hr _ H H1 1000000 { nx := fun _ H' => Q .non H', rt := Q } ⟨s1, fun a e => ?_⟩ ?_ (T.ok_mono law_true fun d g' hd => ?_)
  · cases e
    exact ⟨hn, sc, ns, 0, r, 0, hp, hS, hs.1, hs.2, by decide, by decide, by decide, by decide, hr0⟩
  · exact pool_sls (i := 1) (n := 15) (N := N_law) rfl (by decide) (by decide)
  · subst hd
    intro v Hb2 H2 _ _ dv
    cases dv
    exact hq H2
end

theorem all_mk {l : PySem.W.OpenLaw} {w : World} {K : PySem.W.Frag} {h : Heap} {mg : Str → Option Value} {fa : Addr} (X : K.In h) (G : h.Ns mainGlobals mg) (hfa : mg "law" = some (.ref fa))
    {f0 : Addr} {od0 an0 : Option Addr} {sl0 : Array (Option Value)} {oc0 kV0 dc0 pm0 cd0 ct0 : Value}
    {f1 : Addr} {od1 an1 : Option Addr} {sl1 : Array (Option Value)} {oc1 kV1 dc1 pm1 cd1 ct1 : Value}
    {f2 : Addr} {od2 an2 : Option Addr} {sl2 : Array (Option Value)} {oc2 kV2 dc2 pm2 cd2 ct2 : Value}
    {f3 : Addr} {od3 an3 : Option Addr} {sl3 : Array (Option Value)} {oc3 kV3 dc3 pm3 cd3 ct3 : Value}
    {f4 : Addr} {od4 an4 : Option Addr} {sl4 : Array (Option Value)} {oc4 kV4 dc4 pm4 cd4 ct4 : Value}
    {f5 : Addr} {od5 an5 : Option Addr} {sl5 : Array (Option Value)} {oc5 kV5 dc5 pm5 cd5 ct5 : Value}
    {f6 : Addr} {od6 an6 : Option Addr} {sl6 : Array (Option Value)} {oc6 kV6 dc6 pm6 cd6 ct6 : Value}
    {f7 : Addr} {od7 an7 : Option Addr} {sl7 : Array (Option Value)} {oc7 kV7 dc7 pm7 cd7 ct7 : Value}
    {f8 : Addr} {od8 an8 : Option Addr} {sl8 : Array (Option Value)} {oc8 kV8 dc8 pm8 cd8 ct8 : Value}
    {f9 : Addr} {od9 an9 : Option Addr} {sl9 : Array (Option Value)} {oc9 kV9 dc9 pm9 cd9 ct9 : Value}
    {f10 : Addr} {od10 an10 : Option Addr} {sl10 : Array (Option Value)} {oc10 kV10 dc10 pm10 cd10 ct10 : Value}
    {f11 : Addr} {od11 an11 : Option Addr} {sl11 : Array (Option Value)} {oc11 kV11 dc11 pm11 cd11 ct11 : Value}
    {f12 : Addr} {od12 an12 : Option Addr} {sl12 : Array (Option Value)} {oc12 kV12 dc12 pm12 cd12 ct12 : Value}
    {f13 : Addr} {od13 an13 : Option Addr} {sl13 : Array (Option Value)} {oc13 kV13 dc13 pm13 cd13 ct13 : Value}
    {f14 : Addr} {od14 an14 : Option Addr} {sl14 : Array (Option Value)} {oc14 kV14 dc14 pm14 cd14 ct14 : Value}
    {f15 : Addr} {od15 an15 : Option Addr} {sl15 : Array (Option Value)} {oc15 kV15 dc15 pm15 cd15 ct15 : Value}
    {f16 : Addr} {od16 an16 : Option Addr} {sl16 : Array (Option Value)} {oc16 kV16 dc16 pm16 cd16 ct16 : Value}
    {f17 : Addr} {od17 an17 : Option Addr} {sl17 : Array (Option Value)} {oc17 kV17 dc17 pm17 cd17 ct17 : Value}
    {f18 : Addr} {od18 an18 : Option Addr} {sl18 : Array (Option Value)} {oc18 kV18 dc18 pm18 cd18 ct18 : Value}
    {f19 : Addr} {od19 an19 : Option Addr} {sl19 : Array (Option Value)} {oc19 kV19 dc19 pm19 cd19 ct19 : Value}
    {f20 : Addr} {od20 an20 : Option Addr} {sl20 : Array (Option Value)} {oc20 kV20 dc20 pm20 cd20 ct20 : Value}
    {f21 : Addr} {od21 an21 : Option Addr} {sl21 : Array (Option Value)} {oc21 kV21 dc21 pm21 cd21 ct21 : Value}
    {f22 : Addr} {od22 an22 : Option Addr} {sl22 : Array (Option Value)} {oc22 kV22 dc22 pm22 cd22 ct22 : Value}
    {f23 : Addr} {od23 an23 : Option Addr} {sl23 : Array (Option Value)} {oc23 kV23 dc23 pm23 cd23 ct23 : Value}
    {f24 : Addr} {od24 an24 : Option Addr} {sl24 : Array (Option Value)} {oc24 kV24 dc24 pm24 cd24 ct24 : Value}
    {f25 : Addr} {od25 an25 : Option Addr} {sl25 : Array (Option Value)} {oc25 kV25 dc25 pm25 cd25 ct25 : Value}
    {f26 : Addr} {od26 an26 : Option Addr} {sl26 : Array (Option Value)} {oc26 kV26 dc26 pm26 cd26 ct26 : Value}
    {f27 : Addr} {od27 an27 : Option Addr} {sl27 : Array (Option Value)} {oc27 kV27 dc27 pm27 cd27 ct27 : Value}
    {f28 : Addr} {od28 an28 : Option Addr} {sl28 : Array (Option Value)} {oc28 kV28 dc28 pm28 cd28 ct28 : Value}
    {f29 : Addr} {od29 an29 : Option Addr} {sl29 : Array (Option Value)} {oc29 kV29 dc29 pm29 cd29 ct29 : Value}
    {f30 : Addr} {od30 an30 : Option Addr} {sl30 : Array (Option Value)} {oc30 kV30 dc30 pm30 cd30 ct30 : Value}
    {f31 : Addr} {od31 an31 : Option Addr} {sl31 : Array (Option Value)} {oc31 kV31 dc31 pm31 cd31 ct31 : Value}
    {f32 : Addr} {od32 an32 : Option Addr} {sl32 : Array (Option Value)} {oc32 kV32 dc32 pm32 cd32 ct32 : Value}
    (a0 : PySem.W.nsIn K mainGlobals ("seen_from" : Str) = some (some (.ref f0)))
    (l0 : K.lookup f0 = some ⟨oc0, od0, .func (PySem.W.fnOf ("seen_from" : Str) ("seen_from" : Str) (defArgs s_seen_from) (defBody s_seen_from) (defScope s_seen_from) .none kV0 dc0 pm0 an0 cd0 ct0), sl0⟩)
    (c0 : PySem.W.codeIn K cd0 ("seen_from" : Str) = true)
    (k0 : PySem.W.keepIn K (.ref f0) = true)
    (a1 : PySem.W.nsIn K mainGlobals ("measured" : Str) = some (some (.ref f1)))
    (l1 : K.lookup f1 = some ⟨oc1, od1, .func (PySem.W.fnOf ("measured" : Str) ("measured" : Str) (defArgs s_measured) (defBody s_measured) (defScope s_measured) .none kV1 dc1 pm1 an1 cd1 ct1), sl1⟩)
    (c1 : PySem.W.codeIn K cd1 ("measured" : Str) = true)
    (k1 : PySem.W.keepIn K (.ref f1) = true)
    (a2 : PySem.W.nsIn K mainGlobals ("value_of" : Str) = some (some (.ref f2)))
    (l2 : K.lookup f2 = some ⟨oc2, od2, .func (PySem.W.fnOf ("value_of" : Str) ("value_of" : Str) (defArgs s_value_of) (defBody s_value_of) (defScope s_value_of) .none kV2 dc2 pm2 an2 cd2 ct2), sl2⟩)
    (c2 : PySem.W.codeIn K cd2 ("value_of" : Str) = true)
    (k2 : PySem.W.keepIn K (.ref f2) = true)
    (a3 : PySem.W.nsIn K mainGlobals ("struck_from" : Str) = some (some (.ref f3)))
    (l3 : K.lookup f3 = some ⟨oc3, od3, .func (PySem.W.fnOf ("struck_from" : Str) ("struck_from" : Str) (defArgs s_struck_from) (defBody s_struck_from) (defScope s_struck_from) .none kV3 dc3 pm3 an3 cd3 ct3), sl3⟩)
    (c3 : PySem.W.codeIn K cd3 ("struck_from" : Str) = true)
    (k3 : PySem.W.keepIn K (.ref f3) = true)
    (a4 : PySem.W.nsIn K mainGlobals ("values" : Str) = some (some (.ref f4)))
    (l4 : K.lookup f4 = some ⟨oc4, od4, .func (PySem.W.fnOf ("values" : Str) ("values" : Str) (defArgs s_values) (defBody s_values) (defScope s_values) .none kV4 dc4 pm4 an4 cd4 ct4), sl4⟩)
    (c4 : PySem.W.codeIn K cd4 ("values" : Str) = true)
    (k4 : PySem.W.keepIn K (.ref f4) = true)
    (a5 : PySem.W.nsIn K mainGlobals ("groups" : Str) = some (some (.ref f5)))
    (l5 : K.lookup f5 = some ⟨oc5, od5, .func (PySem.W.fnOf ("groups" : Str) ("groups" : Str) (defArgs s_groups) (defBody s_groups) (defScope s_groups) .none kV5 dc5 pm5 an5 cd5 ct5), sl5⟩)
    (c5 : PySem.W.codeIn K cd5 ("groups" : Str) = true)
    (k5 : PySem.W.keepIn K (.ref f5) = true)
    (a6 : PySem.W.nsIn K mainGlobals ("parted" : Str) = some (some (.ref f6)))
    (l6 : K.lookup f6 = some ⟨oc6, od6, .func (PySem.W.fnOf ("parted" : Str) ("parted" : Str) (defArgs s_parted) (defBody s_parted) (defScope s_parted) .none kV6 dc6 pm6 an6 cd6 ct6), sl6⟩)
    (c6 : PySem.W.codeIn K cd6 ("parted" : Str) = true)
    (k6 : PySem.W.keepIn K (.ref f6) = true)
    (a7 : PySem.W.nsIn K mainGlobals ("ranked" : Str) = some (some (.ref f7)))
    (l7 : K.lookup f7 = some ⟨oc7, od7, .func (PySem.W.fnOf ("ranked" : Str) ("ranked" : Str) (defArgs s_ranked) (defBody s_ranked) (defScope s_ranked) .none kV7 dc7 pm7 an7 cd7 ct7), sl7⟩)
    (c7 : PySem.W.codeIn K cd7 ("ranked" : Str) = true)
    (k7 : PySem.W.keepIn K (.ref f7) = true)
    (a8 : PySem.W.nsIn K mainGlobals ("rank" : Str) = some (some (.ref f8)))
    {T8 E8d : Addr} {ot8 : Value} {dt8 : Option Addr} {mt8 : Nat} {st8 : Array (Option Value)} (t8 : K.lookup T8 = some ⟨ot8, dt8, .seq #[.ref E8d] mt8, st8⟩)
    (l8 : K.lookup f8 = some ⟨oc8, od8, .func (PySem.W.fnOf ("rank" : Str) ("rank" : Str) (defArgs s_rank) (defBody s_rank) (defScope s_rank) (.ref T8) kV8 dc8 pm8 an8 cd8 ct8), sl8⟩)
    (c8 : PySem.W.codeIn K cd8 ("rank" : Str) = true)
    (k8 : PySem.W.keepIn K (.ref f8) = true)
    (a9 : PySem.W.nsIn K mainGlobals ("reason" : Str) = some (some (.ref f9)))
    {T9 E9d : Addr} {ot9 : Value} {dt9 : Option Addr} {mt9 : Nat} {st9 : Array (Option Value)} (t9 : K.lookup T9 = some ⟨ot9, dt9, .seq #[.ref E9d] mt9, st9⟩)
    (l9 : K.lookup f9 = some ⟨oc9, od9, .func (PySem.W.fnOf ("reason" : Str) ("reason" : Str) (defArgs s_reason) (defBody s_reason) (defScope s_reason) (.ref T9) kV9 dc9 pm9 an9 cd9 ct9), sl9⟩)
    (c9 : PySem.W.codeIn K cd9 ("reason" : Str) = true)
    (k9 : PySem.W.keepIn K (.ref f9) = true)
    (a10 : PySem.W.nsIn K mainGlobals ("_law_mixed" : Str) = some (some (.ref f10)))
    (l10 : K.lookup f10 = some ⟨oc10, od10, .func (PySem.W.fnOf ("_law_mixed" : Str) ("_law_mixed" : Str) (defArgs s_law_mixed) (defBody s_law_mixed) (defScope s_law_mixed) .none kV10 dc10 pm10 an10 cd10 ct10), sl10⟩)
    (c10 : PySem.W.codeIn K cd10 ("_law_mixed" : Str) = true)
    (k10 : PySem.W.keepIn K (.ref f10) = true)
    (a11 : PySem.W.nsIn K mainGlobals ("_law_rest" : Str) = some (some (.ref f11)))
    (l11 : K.lookup f11 = some ⟨oc11, od11, .func (PySem.W.fnOf ("_law_rest" : Str) ("_law_rest" : Str) (defArgs s_law_rest) (defBody s_law_rest) (defScope s_law_rest) .none kV11 dc11 pm11 an11 cd11 ct11), sl11⟩)
    (c11 : PySem.W.codeIn K cd11 ("_law_rest" : Str) = true)
    (k11 : PySem.W.keepIn K (.ref f11) = true)
    (a12 : PySem.W.nsIn K mainGlobals ("_law_pool" : Str) = some (some (.ref f12)))
    (l12 : K.lookup f12 = some ⟨oc12, od12, .func (PySem.W.fnOf ("_law_pool" : Str) ("_law_pool" : Str) (defArgs s_law_pool) (defBody s_law_pool) (defScope s_law_pool) .none kV12 dc12 pm12 an12 cd12 ct12), sl12⟩)
    (c12 : PySem.W.codeIn K cd12 ("_law_pool" : Str) = true)
    (k12 : PySem.W.keepIn K (.ref f12) = true)
    (a13 : PySem.W.nsIn K mainGlobals ("_law_next" : Str) = some (some (.ref f13)))
    (l13 : K.lookup f13 = some ⟨oc13, od13, .func (PySem.W.fnOf ("_law_next" : Str) ("_law_next" : Str) (defArgs s_law_next) (defBody s_law_next) (defScope s_law_next) .none kV13 dc13 pm13 an13 cd13 ct13), sl13⟩)
    (c13 : PySem.W.codeIn K cd13 ("_law_next" : Str) = true)
    (k13 : PySem.W.keepIn K (.ref f13) = true)
    (a14 : PySem.W.nsIn K mainGlobals ("_law_draw" : Str) = some (some (.ref f14)))
    (l14 : K.lookup f14 = some ⟨oc14, od14, .func (PySem.W.fnOf ("_law_draw" : Str) ("_law_draw" : Str) (defArgs s_law_draw) (defBody s_law_draw) (defScope s_law_draw) .none kV14 dc14 pm14 an14 cd14 ct14), sl14⟩)
    (c14 : PySem.W.codeIn K cd14 ("_law_draw" : Str) = true)
    (k14 : PySem.W.keepIn K (.ref f14) = true)
    (a15 : PySem.W.nsIn K mainGlobals ("_law_pick" : Str) = some (some (.ref f15)))
    (l15 : K.lookup f15 = some ⟨oc15, od15, .func (PySem.W.fnOf ("_law_pick" : Str) ("_law_pick" : Str) (defArgs s_law_pick) (defBody s_law_pick) (defScope s_law_pick) .none kV15 dc15 pm15 an15 cd15 ct15), sl15⟩)
    (c15 : PySem.W.codeIn K cd15 ("_law_pick" : Str) = true)
    (k15 : PySem.W.keepIn K (.ref f15) = true)
    (a16 : PySem.W.nsIn K mainGlobals ("_law_same" : Str) = some (some (.ref f16)))
    (l16 : K.lookup f16 = some ⟨oc16, od16, .func (PySem.W.fnOf ("_law_same" : Str) ("_law_same" : Str) (defArgs s_law_same) (defBody s_law_same) (defScope s_law_same) .none kV16 dc16 pm16 an16 cd16 ct16), sl16⟩)
    (c16 : PySem.W.codeIn K cd16 ("_law_same" : Str) = true)
    (k16 : PySem.W.keepIn K (.ref f16) = true)
    (a17 : PySem.W.nsIn K mainGlobals ("_law_names" : Str) = some (some (.ref f17)))
    (l17 : K.lookup f17 = some ⟨oc17, od17, .func (PySem.W.fnOf ("_law_names" : Str) ("_law_names" : Str) (defArgs s_law_names) (defBody s_law_names) (defScope s_law_names) .none kV17 dc17 pm17 an17 cd17 ct17), sl17⟩)
    (c17 : PySem.W.codeIn K cd17 ("_law_names" : Str) = true)
    (k17 : PySem.W.keepIn K (.ref f17) = true)
    (a18 : PySem.W.nsIn K mainGlobals ("_law_matches" : Str) = some (some (.ref f18)))
    (l18 : K.lookup f18 = some ⟨oc18, od18, .func (PySem.W.fnOf ("_law_matches" : Str) ("_law_matches" : Str) (defArgs s_law_matches) (defBody s_law_matches) (defScope s_law_matches) .none kV18 dc18 pm18 an18 cd18 ct18), sl18⟩)
    (c18 : PySem.W.codeIn K cd18 ("_law_matches" : Str) = true)
    (k18 : PySem.W.keepIn K (.ref f18) = true)
    (a19 : PySem.W.nsIn K mainGlobals ("_law_goals" : Str) = some (some (.ref f19)))
    (l19 : K.lookup f19 = some ⟨oc19, od19, .func (PySem.W.fnOf ("_law_goals" : Str) ("_law_goals" : Str) (defArgs s_law_goals) (defBody s_law_goals) (defScope s_law_goals) .none kV19 dc19 pm19 an19 cd19 ct19), sl19⟩)
    (c19 : PySem.W.codeIn K cd19 ("_law_goals" : Str) = true)
    (k19 : PySem.W.keepIn K (.ref f19) = true)
    (a20 : PySem.W.nsIn K mainGlobals ("_law_results" : Str) = some (some (.ref f20)))
    (l20 : K.lookup f20 = some ⟨oc20, od20, .func (PySem.W.fnOf ("_law_results" : Str) ("_law_results" : Str) (defArgs s_law_results) (defBody s_law_results) (defScope s_law_results) .none kV20 dc20 pm20 an20 cd20 ct20), sl20⟩)
    (c20 : PySem.W.codeIn K cd20 ("_law_results" : Str) = true)
    (k20 : PySem.W.keepIn K (.ref f20) = true)
    (a21 : PySem.W.nsIn K mainGlobals ("_law_ring" : Str) = some (some (.ref f21)))
    (l21 : K.lookup f21 = some ⟨oc21, od21, .func (PySem.W.fnOf ("_law_ring" : Str) ("_law_ring" : Str) (defArgs s_law_ring) (defBody s_law_ring) (defScope s_law_ring) .none kV21 dc21 pm21 an21 cd21 ct21), sl21⟩)
    (c21 : PySem.W.codeIn K cd21 ("_law_ring" : Str) = true)
    (k21 : PySem.W.keepIn K (.ref f21) = true)
    (a22 : PySem.W.nsIn K mainGlobals ("_law_table" : Str) = some (some (.ref f22)))
    (l22 : K.lookup f22 = some ⟨oc22, od22, .func (PySem.W.fnOf ("_law_table" : Str) ("_law_table" : Str) (defArgs s_law_table) (defBody s_law_table) (defScope s_law_table) .none kV22 dc22 pm22 an22 cd22 ct22), sl22⟩)
    (c22 : PySem.W.codeIn K cd22 ("_law_table" : Str) = true)
    (k22 : PySem.W.keepIn K (.ref f22) = true)
    (a23 : PySem.W.nsIn K mainGlobals ("_law_keys_drawn" : Str) = some (some (.ref f23)))
    (l23 : K.lookup f23 = some ⟨oc23, od23, .func (PySem.W.fnOf ("_law_keys_drawn" : Str) ("_law_keys_drawn" : Str) (defArgs s_law_keys_drawn) (defBody s_law_keys_drawn) (defScope s_law_keys_drawn) .none kV23 dc23 pm23 an23 cd23 ct23), sl23⟩)
    (c23 : PySem.W.codeIn K cd23 ("_law_keys_drawn" : Str) = true)
    (k23 : PySem.W.keepIn K (.ref f23) = true)
    (a24 : PySem.W.nsIn K mainGlobals ("_law_book" : Str) = some (some (.ref f24)))
    (l24 : K.lookup f24 = some ⟨oc24, od24, .func (PySem.W.fnOf ("_law_book" : Str) ("_law_book" : Str) (defArgs s_law_book) (defBody s_law_book) (defScope s_law_book) .none kV24 dc24 pm24 an24 cd24 ct24), sl24⟩)
    (c24 : PySem.W.codeIn K cd24 ("_law_book" : Str) = true)
    (k24 : PySem.W.keepIn K (.ref f24) = true)
    (a25 : PySem.W.nsIn K mainGlobals ("_law_struck" : Str) = some (some (.ref f25)))
    (l25 : K.lookup f25 = some ⟨oc25, od25, .func (PySem.W.fnOf ("_law_struck" : Str) ("_law_struck" : Str) (defArgs s_law_struck) (defBody s_law_struck) (defScope s_law_struck) .none kV25 dc25 pm25 an25 cd25 ct25), sl25⟩)
    (c25 : PySem.W.codeIn K cd25 ("_law_struck" : Str) = true)
    (k25 : PySem.W.keepIn K (.ref f25) = true)
    (a26 : PySem.W.nsIn K mainGlobals ("_law_share" : Str) = some (some (.ref f26)))
    (l26 : K.lookup f26 = some ⟨oc26, od26, .func (PySem.W.fnOf ("_law_share" : Str) ("_law_share" : Str) (defArgs s_law_share) (defBody s_law_share) (defScope s_law_share) .none kV26 dc26 pm26 an26 cd26 ct26), sl26⟩)
    (c26 : PySem.W.codeIn K cd26 ("_law_share" : Str) = true)
    (k26 : PySem.W.keepIn K (.ref f26) = true)
    (a27 : PySem.W.nsIn K mainGlobals ("_law_worth" : Str) = some (some (.ref f27)))
    (l27 : K.lookup f27 = some ⟨oc27, od27, .func (PySem.W.fnOf ("_law_worth" : Str) ("_law_worth" : Str) (defArgs s_law_worth) (defBody s_law_worth) (defScope s_law_worth) .none kV27 dc27 pm27 an27 cd27 ct27), sl27⟩)
    (c27 : PySem.W.codeIn K cd27 ("_law_worth" : Str) = true)
    (k27 : PySem.W.keepIn K (.ref f27) = true)
    (a28 : PySem.W.nsIn K mainGlobals ("_law_first_key" : Str) = some (some (.ref f28)))
    (l28 : K.lookup f28 = some ⟨oc28, od28, .func (PySem.W.fnOf ("_law_first_key" : Str) ("_law_first_key" : Str) (defArgs s_law_first_key) (defBody s_law_first_key) (defScope s_law_first_key) .none kV28 dc28 pm28 an28 cd28 ct28), sl28⟩)
    (c28 : PySem.W.codeIn K cd28 ("_law_first_key" : Str) = true)
    (k28 : PySem.W.keepIn K (.ref f28) = true)
    (a29 : PySem.W.nsIn K mainGlobals ("_law_place" : Str) = some (some (.ref f29)))
    (l29 : K.lookup f29 = some ⟨oc29, od29, .func (PySem.W.fnOf ("_law_place" : Str) ("_law_place" : Str) (defArgs s_law_place) (defBody s_law_place) (defScope s_law_place) .none kV29 dc29 pm29 an29 cd29 ct29), sl29⟩)
    (c29 : PySem.W.codeIn K cd29 ("_law_place" : Str) = true)
    (k29 : PySem.W.keepIn K (.ref f29) = true)
    (a30 : PySem.W.nsIn K mainGlobals ("_law_reason" : Str) = some (some (.ref f30)))
    (l30 : K.lookup f30 = some ⟨oc30, od30, .func (PySem.W.fnOf ("_law_reason" : Str) ("_law_reason" : Str) (defArgs s_law_reason) (defBody s_law_reason) (defScope s_law_reason) .none kV30 dc30 pm30 an30 cd30 ct30), sl30⟩)
    (c30 : PySem.W.codeIn K cd30 ("_law_reason" : Str) = true)
    (k30 : PySem.W.keepIn K (.ref f30) = true)
    (a31 : PySem.W.nsIn K mainGlobals ("_law_wonders" : Str) = some (some (.ref f31)))
    (l31 : K.lookup f31 = some ⟨oc31, od31, .func (PySem.W.fnOf ("_law_wonders" : Str) ("_law_wonders" : Str) (defArgs s_law_wonders) (defBody s_law_wonders) (defScope s_law_wonders) .none kV31 dc31 pm31 an31 cd31 ct31), sl31⟩)
    (c31 : PySem.W.codeIn K cd31 ("_law_wonders" : Str) = true)
    (k31 : PySem.W.keepIn K (.ref f31) = true)
    (a32 : PySem.W.nsIn K mainGlobals ("law" : Str) = some (some (.ref f32)))
    (l32 : K.lookup f32 = some ⟨oc32, od32, .func (PySem.W.fnOf ("law" : Str) ("law" : Str) (defArgs s_law) (defBody s_law) (defScope s_law) .none kV32 dc32 pm32 an32 cd32 ct32), sl32⟩)
    (c32 : PySem.W.codeIn K cd32 ("law" : Str) = true)
    (k32 : PySem.W.keepIn K (.ref f32) = true)
    (z_bool : PySem.W.nsIn K mainGlobals ("bool" : Str) = some none)
    (z_dict : PySem.W.nsIn K mainGlobals ("dict" : Str) = some none)
    (z_int : PySem.W.nsIn K mainGlobals ("int" : Str) = some none)
    (z_isinstance : PySem.W.nsIn K mainGlobals ("isinstance" : Str) = some none)
    (z_len : PySem.W.nsIn K mainGlobals ("len" : Str) = some none)
    (z_list : PySem.W.nsIn K mainGlobals ("list" : Str) = some none)
    (z_min : PySem.W.nsIn K mainGlobals ("min" : Str) = some none)
    (z_range : PySem.W.nsIn K mainGlobals ("range" : Str) = some none)
    (z_set : PySem.W.nsIn K mainGlobals ("set" : Str) = some none)
    (z_sorted : PySem.W.nsIn K mainGlobals ("sorted" : Str) = some none)
    (z_str : PySem.W.nsIn K mainGlobals ("str" : Str) = some none)
    (z_sum : PySem.W.nsIn K mainGlobals ("sum" : Str) = some none)
    (z_tuple : PySem.W.nsIn K mainGlobals ("tuple" : Str) = some none)
    (z_zip : PySem.W.nsIn K mainGlobals ("zip" : Str) = some none)
    {q0C q0f q0cda q0cc : Addr} {q0o0 : Addr} {q0nm q0q q0qn : Str} {q0N : Addr} {q0bs : List Value} {q0sn : List Str} {q0sub : List Value} {q0ab : Bool} {q0col : Option Bool} {q0dd : Option Addr} {q0m0 q0m1 q0m2 q0m3 q0m5 : Option Value}
    {q0od q0an : Option Addr} {q0doc q0pm q0ct q0oc q0ccl q0cl : Value} {q0cdd q0cld : Option Addr} {q0osl q0ccs q0csl : Array (Option Value)} {q0vs : Array Value} {q0file : Str} {q0tf : Tok} {q0p1 q0p2 q0a1 q0a2 q0a3 q0a4 q0a5 q0a6 q0b1 q0b2 q0b3 q0b4 : Pos}
    (q0aC : PySem.W.nsIn K mainGlobals ("NoSide" : Str) = some (some (.ref q0C)))
    (q0xL : K.lookup q0C = some (excClassObj q0nm q0q q0C q0N q0bs [.ref q0o0, .type "ValueError", .type "Exception", .type "BaseException", .type "object"] true q0sn q0sub q0ab q0col q0dd q0m0 q0m1 q0m2 q0m3 q0m5 "ValueError.__new__"))
    (q0sa : PySem.W.findIn K (.ref q0C) "__setattr__" = some (some (.builtin "object.__setattr__")))
    (q0ga : PySem.W.findIn K (.ref q0C) "__getattribute__" = some (some (.builtin "BaseException.__getattribute__")))
    (q0gg : PySem.W.findIn K (.ref q0C) "__getattr__" = some none)
    (q0nb : PySem.W.findIn K (.ref q0C) ("side" : Str) = some none)
    (q0ai : PySem.W.findIn K (.ref q0C) "__init__" = some (some (.ref q0f)))
    (q0ti : PySem.W.typeIn K (.ref q0f) = some (.type "function"))
    (q0su : PySem.W.ks_superIn K q0C q0C "__init__" = some (some (.builtin "ValueError.__init__")))
    (q0sv : PySem.W.subIn K (.ref q0C) (.type "ValueError") = some true)
    (q0sm : PySem.W.mroIn K q0C (.ref q0C) = some true)
    (q0th : PySem.W.nsIn K cStatics "thirdparty.any" = some none)
    (q0sp : PySem.W.nsIn K mainGlobals "super" = some none)
    (q0li : K.lookup q0f = some ⟨q0oc, q0od, .func (PySem.W.ksFn "__init__" q0qn (XS.iA ("side" : Str) q0p1 q0p2) (XS.iB ("side" : Str) q0a1 q0a2 q0a3 q0a4 q0a5 q0a6 q0b1 q0b2 q0b3 q0b4) (XS.iS ("side" : Str)) .none .none q0doc q0pm q0an (.ref q0cda) q0ct q0cc), q0osl⟩)
    (q0ci : PySem.W.codeIn K (.ref q0cda) q0qn = true)
    (q0ld : K.lookup q0cda = some ⟨q0ccl, q0cdd, .fields q0vs, q0ccs⟩)
    (q0lf : q0vs[2]? = some (.str q0file q0tf))
    (q0lm : ((l.prog.main.file : Str) == q0file) = true)
    (q0ln : (q0a3.endLine == q0a5.line) = true)
    (q0lc : K.lookup q0cc = some ⟨q0cl, q0cld, .cell (some (.ref q0C)), q0csl⟩)
    (q0tp : (l.prog.main.scope.names.lookup (PySem.Str.ofString "super")).isSome = false)
    (q0kC : PySem.W.keepIn K (.ref q0C) = true)
    (q0eC : PySem.W.subIn K (.ref q0C) (.type "BaseException") = some true)
    (q0tC : PySem.W.typeIn K (.ref q0C) = some (.type "type"))
    (q0hC : PySem.W.hasDictIn K q0C = true)
    (q0iC : PySem.W.isClsIn K q0C = true)
    (q0sC : PySem.W.subIn K (.ref q0C) (.ref q0C) = some true) :
    ∃ fd : FuncData, (∀ (s : Shared) (v : Value), BindsTo s fd ⟨[v], []⟩ [("script", v)]) ∧ ∀ base : Heap, K.In base → base.Ns mainGlobals mg → FnOk l.prog w K mg base CX0 14 fa fd ["script"] (spLaw K) := by
  have e := hfa.symm.trans (PySem.W.mg_of X G a32)
  cases e
  have GG : Gs K mg := ⟨PySem.W.mg_none_of X G z_bool, PySem.W.mg_none_of X G z_dict, PySem.W.mg_none_of X G z_int, PySem.W.mg_none_of X G z_isinstance, PySem.W.mg_none_of X G z_len, PySem.W.mg_none_of X G z_list, PySem.W.mg_none_of X G z_min, PySem.W.mg_none_of X G z_range, PySem.W.mg_none_of X G z_set, PySem.W.mg_none_of X G z_sorted, PySem.W.mg_none_of X G z_str, PySem.W.mg_none_of X G z_sum, PySem.W.mg_none_of X G z_tuple, PySem.W.mg_none_of X G z_zip⟩
  have X_NoSide : ExG l.prog K mg ("NoSide" : Str) q0C ("side" : Str) :=
    { g := PySem.W.mg_of X G q0aC, k := q0kC, fo := fld_side, ex := q0eC, ty := q0tC, hsup := PySem.W.mg_none_of X G q0sp, xf := ⟨q0ga, q0gg, q0eC, q0hC⟩, noN := q0nb, te := exm_self q0eC q0iC q0tC q0sC,
      t := ⟨q0f, { cls := ⟨_, _, _, _, _, _, _, _, _, _, _, _, _, _, _, q0xL, by first | rfl | decide +kernel⟩, sa := q0sa, noN := q0nb, iC := q0ai, tC := q0ti, sup := q0su, sVE := q0sv, sCC := q0sm, thp := q0th, spr := q0sp, top := q0tp, fn := ⟨_, _, _, _, _, _, _, _, _, _, _, _, _, _, _, _, _, _, _, _, _, _, q0li, q0ci, ⟨_, _, _, _, _, _, q0ld, q0lf, q0lm⟩, q0ln, _, _, _, q0lc⟩ }⟩ }
  have GX : Gx l.prog K mg (fun n => (q0C, ("side" : Str))) := ⟨X_NoSide, rfl⟩
  have E0 := fun_mk (st := s_seen_from) l0 c0 k0
  have B0 := E0.binds (ps := [("match" : Str), ("result" : Str), ("side" : Str)]) fun _ _ _ _ _ _ us hl => match us, hl with | [_, _, _], _ => rfl
  have Dseen_from : Fd l.prog w K mg 1 ("seen_from" : Str) (spI K 3 (ar3 m_seen_from)) := ⟨_, _, _, PySem.W.mg_of X G a0, k0, B0, fn_deep E0 sc_seen_from rfl (d_seen_from GG )⟩
  have E1 := fun_mk (st := s_measured) l1 c1 k1
  have B1 := E1.binds (ps := [("book" : Str), ("measure" : Str), ("own" : Str), ("other" : Str), ("away" : Str)]) fun _ _ _ _ _ _ us hl => match us, hl with | [_, _, _, _, _], _ => rfl
  have Dmeasured : Fd l.prog w K mg 1 ("measured" : Str) (spI K 5 (ar5 m_measured)) := ⟨_, _, _, PySem.W.mg_of X G a1, k1, B1, fn_deep E1 sc_measured rfl (d_measured GG )⟩
  have E2 := fun_mk (st := s_value_of) l2 c2 k2
  have B2 := E2.binds (ps := [("book" : Str), ("table" : Str), ("lot" : Str), ("key" : Str), ("side" : Str)]) fun _ _ _ _ _ _ us hl => match us, hl with | [_, _, _, _, _], _ => rfl
  have Dvalue_of : Fd l.prog w K mg 2 ("value_of" : Str) (spI K 5 (ar5 m_value_of)) := ⟨_, _, _, PySem.W.mg_of X G a2, k2, B2, fn_deep E2 sc_value_of rfl (d_value_of GG Dmeasured Dseen_from)⟩
  have E3 := fun_mk (st := s_struck_from) l3 c3 k3
  have B3 := E3.binds (ps := [("struck" : Str), ("key" : Str), ("side" : Str)]) fun _ _ _ _ _ _ us hl => match us, hl with | [_, _, _], _ => rfl
  have Dstruck_from : Fd l.prog w K mg 1 ("struck_from" : Str) (spI K 3 (ar3 m_struck_from)) := ⟨_, _, _, PySem.W.mg_of X G a3, k3, B3, fn_deep E3 sc_struck_from rfl (d_struck_from GG )⟩
  have E4 := fun_mk (st := s_values) l4 c4 k4
  have B4 := E4.binds (ps := [("book" : Str), ("table" : Str), ("lot" : Str), ("key" : Str), ("struck" : Str)]) fun _ _ _ _ _ _ us hl => match us, hl with | [_, _, _, _, _], _ => rfl
  have Dvalues : Fd l.prog w K mg 3 ("values" : Str) (spI K 5 (ar5 m_values)) := ⟨_, _, _, PySem.W.mg_of X G a4, k4, B4, fn_deep E4 sc_values rfl (d_values GG Dstruck_from Dvalue_of)⟩
  have E5 := fun_mk (st := s_groups) l5 c5 k5
  have B5 := E5.binds (ps := [("told" : Str), ("key" : Str)]) fun _ _ _ _ _ _ us hl => match us, hl with | [_, _], _ => rfl
  have Dgroups : Fd l.prog w K mg 1 ("groups" : Str) (spI K 2 (ar2 m_groups)) := ⟨_, _, _, PySem.W.mg_of X G a5, k5, B5, fn_deep E5 sc_groups rfl (d_groups GG )⟩
  have E6 := fun_mk (st := s_parted) l6 c6 k6
  have B6 := E6.binds (ps := [("book" : Str), ("table" : Str), ("lot" : Str), ("first" : Str), ("struck" : Str)]) fun _ _ _ _ _ _ us hl => match us, hl with | [_, _, _, _, _], _ => rfl
  have Dparted : Fd l.prog w K mg 4 ("parted" : Str) (spI K 5 (ar5 m_parted)) := ⟨_, _, _, PySem.W.mg_of X G a6, k6, B6, fn_deep E6 sc_parted rfl (d_parted GG Dgroups Dvalues)⟩
  have E7 := fun_mk (st := s_ranked) l7 c7 k7
  have B7 := E7.binds (ps := [("book" : Str), ("table" : Str), ("lot" : Str), ("first" : Str), ("struck" : Str)]) fun _ _ _ _ _ _ us hl => match us, hl with | [_, _, _, _, _], _ => rfl
  have DRranked : ∀ n, Fd l.prog w K mg (4 + n) ("ranked" : Str) (spI K 5 (ar5 (m_ranked n))) := fun n => by
    induction n with
    | zero => exact ⟨_, _, _, PySem.W.mg_of X G a7, k7, B7, fun base => fn_zero (fun ds g C h => by unfold ar5 at h; split at h <;> exact h) 5⟩
    | succ n ih => exact ⟨_, _, _, PySem.W.mg_of X G a7, k7, B7, fn_deep E7 sc_ranked rfl (d_ranked GG Dparted (Nat.le_add_right _ n) ih)⟩
  have Dranked := DRranked 8
  have E8 := fun_one (st := s_rank) l8 t8 c8 k8
  have B8 := binds_all (ps := [("book" : Str), ("table" : Str), ("struck" : Str)]) E8 fun _ _ _ _ _ _ _ us it hl => match us, hl with | [_, _, _], _ => ⟨_, rfl, rfl⟩
  have Drank : Fd l.prog w K mg 13 ("rank" : Str) (spI K 3 (ar3 m_rank)) := ⟨_, _, _, PySem.W.mg_of X G a8, k8, B8, fn_deepV E8 sc_rank rfl (d_rank GG Dranked)⟩
  have E9 := fun_one (st := s_reason) l9 t9 c9 k9
  have B9 := binds_all (ps := [("book" : Str), ("table" : Str), ("one" : Str), ("other" : Str), ("struck" : Str)]) E9 fun _ _ _ _ _ _ _ us it hl => match us, hl with | [_, _, _, _, _], _ => ⟨_, rfl, rfl⟩
  have Dreason : FdE l.prog w K mg 5 ("reason" : Str) (spE K _ 5 (xr5 m_reason)) := ⟨_, _, _, PySem.W.mg_of X G a9, k9, B9, fn_deepEV E9 sc_reason rfl (d_reason GG GX Dparted)⟩
  have E10 := fun_mk (st := s_law_mixed) l10 c10 k10
  have B10 := E10.binds (ps := [("number" : Str), ("place" : Str)]) fun _ _ _ _ _ _ us hl => match us, hl with | [_, _], _ => rfl
  have D_law_mixed : Fd l.prog w K mg 1 ("_law_mixed" : Str) (spI K 2 (ar2 m_law_mixed)) := ⟨_, _, _, PySem.W.mg_of X G a10, k10, B10, fn_deep E10 sc_law_mixed rfl (d_law_mixed GG )⟩
  have E11 := fun_mk (st := s_law_rest) l11 c11 k11
  have B11 := E11.binds (ps := [("script" : Str), ("place" : Str), ("fills" : Str)]) fun _ _ _ _ _ _ us hl => match us, hl with | [_, _, _], _ => rfl
  have D_law_rest : Fd l.prog w K mg 2 ("_law_rest" : Str) (spRest K) := ⟨_, _, _, PySem.W.mg_of X G a11, k11, B11, fn_rest E11 sc_law_rest rfl rfl (d_law_rest GG D_law_mixed)⟩
  have E12 := fun_mk (st := s_law_pool) l12 c12 k12
  have B12 := E12.binds (ps := [("script" : Str)]) fun _ _ _ _ _ _ us hl => match us, hl with | [_], _ => rfl
  have D_law_pool : Fd l.prog w K mg 3 ("_law_pool" : Str) (spPool K) := ⟨_, _, _, PySem.W.mg_of X G a12, k12, B12, fun base => ok_law_pool E12 D_law_rest⟩
  have E13 := fun_mk (st := s_law_next) l13 c13 k13
  have B13 := E13.binds (ps := [("pool" : Str)]) fun _ _ _ _ _ _ us hl => match us, hl with | [_], _ => rfl
  have D_law_next : Fd l.prog w K mg 3 ("_law_next" : Str) (spP K 0 (ar0 nextD)) := ⟨_, _, _, PySem.W.mg_of X G a13, k13, B13, fun base => ok_law_next E13 D_law_rest⟩
  have E14 := fun_mk (st := s_law_draw) l14 c14 k14
  have B14 := E14.binds (ps := [("pool" : Str), ("limit" : Str)]) fun _ _ _ _ _ _ us hl => match us, hl with | [_, _], _ => rfl
  have D_law_draw : Fd l.prog w K mg 3 ("_law_draw" : Str) (spP K 1 (ar1 drawD)) := ⟨_, _, _, PySem.W.mg_of X G a14, k14, B14, fun base => ok_law_draw E14 GG.b_int D_law_rest⟩
  have E15 := fun_mk (st := s_law_pick) l15 c15 k15
  have B15 := E15.binds (ps := [("pool" : Str), ("options" : Str)]) fun _ _ _ _ _ _ us hl => match us, hl with | [_, _], _ => rfl
  have D_law_pick : Fd l.prog w K mg 4 ("_law_pick" : Str) (spP K 1 (ar1 m_law_pick)) := ⟨_, _, _, PySem.W.mg_of X G a15, k15, B15, fn_deepP E15 sc_law_pick rfl (d_law_pick GG D_law_draw)⟩
  have E16 := fun_mk (st := s_law_same) l16 c16 k16
  have B16 := E16.binds (ps := [("answer" : Str), ("due" : Str)]) fun _ _ _ _ _ _ us hl => match us, hl with | [_, _], _ => rfl
  have DR_law_same : ∀ n, Fd l.prog w K mg (0 + n) ("_law_same" : Str) (spI K 2 (ar2 (m_law_same n))) := fun n => by
    induction n with
    | zero => exact ⟨_, _, _, PySem.W.mg_of X G a16, k16, B16, fun base => fn_zero (fun ds g C h => by unfold ar2 at h; split at h <;> exact h) 2⟩
    | succ n ih => exact ⟨_, _, _, PySem.W.mg_of X G a16, k16, B16, fn_deep E16 sc_law_same rfl (d_law_same GG  (Nat.le_add_right _ n) ih)⟩
  have D_law_same := DR_law_same 6
  have E17 := fun_mk (st := s_law_names) l17 c17 k17
  have B17 := E17.binds (ps := [("many" : Str)]) fun _ _ _ _ _ _ us hl => match us, hl with | [_], _ => rfl
  have D_law_names : Fd l.prog w K mg 1 ("_law_names" : Str) (spI K 1 (ar1 m_law_names)) := ⟨_, _, _, PySem.W.mg_of X G a17, k17, B17, fn_deep E17 sc_law_names rfl (d_law_names GG )⟩
  have E18 := fun_mk (st := s_law_matches) l18 c18 k18
  have B18 := E18.binds (ps := [("names" : Str), ("rounds" : Str)]) fun _ _ _ _ _ _ us hl => match us, hl with | [_, _], _ => rfl
  have D_law_matches : Fd l.prog w K mg 1 ("_law_matches" : Str) (spI K 2 (ar2 m_law_matches)) := ⟨_, _, _, PySem.W.mg_of X G a18, k18, B18, fn_deep E18 sc_law_matches rfl (d_law_matches GG )⟩
  have E19 := fun_mk (st := s_law_goals) l19 c19 k19
  have B19 := E19.binds (ps := [("pool" : Str), ("most" : Str)]) fun _ _ _ _ _ _ us hl => match us, hl with | [_, _], _ => rfl
  have D_law_goals : Fd l.prog w K mg 4 ("_law_goals" : Str) (spP K 1 (ar1 m_law_goals)) := ⟨_, _, _, PySem.W.mg_of X G a19, k19, B19, fn_deepP E19 sc_law_goals rfl (d_law_goals GG D_law_draw)⟩
  have E20 := fun_mk (st := s_law_results) l20 c20 k20
  have B20 := E20.binds (ps := [("pool" : Str), ("matches" : Str), ("most" : Str), ("opens" : Str)]) fun _ _ _ _ _ _ us hl => match us, hl with | [_, _, _, _], _ => rfl
  have D_law_results : Fd l.prog w K mg 5 ("_law_results" : Str) (spP K 3 (ar3 m_law_results)) := ⟨_, _, _, PySem.W.mg_of X G a20, k20, B20, fn_deepP E20 sc_law_results rfl (d_law_results GG D_law_draw D_law_goals D_law_next)⟩
  have E21 := fun_mk (st := s_law_ring) l21 c21 k21
  have B21 := E21.binds (ps := [("pool" : Str), ("names" : Str), ("matches" : Str), ("results" : Str)]) fun _ _ _ _ _ _ us hl => match us, hl with | [_, _, _, _], _ => rfl
  have D_law_ring : Fd l.prog w K mg 5 ("_law_ring" : Str) (spP K 3 (ar3 m_law_ring)) := ⟨_, _, _, PySem.W.mg_of X G a21, k21, B21, fn_deepP E21 sc_law_ring rfl (d_law_ring GG D_law_draw D_law_pick)⟩
  have E22 := fun_mk (st := s_law_table) l22 c22 k22
  have B22 := E22.binds (ps := [("pool" : Str), ("most_sides" : Str), ("goals" : Str), ("opens" : Str)]) fun _ _ _ _ _ _ us hl => match us, hl with | [_, _, _, _], _ => rfl
  have D_law_table : Fd l.prog w K mg 6 ("_law_table" : Str) (spP K 3 (ar3 m_law_table)) := ⟨_, _, _, PySem.W.mg_of X G a22, k22, B22, fn_deepP E22 sc_law_table rfl (d_law_table GG D_law_draw D_law_matches D_law_names D_law_next D_law_results D_law_ring)⟩
  have E23 := fun_mk (st := s_law_keys_drawn) l23 c23 k23
  have B23 := E23.binds (ps := [("pool" : Str), ("most" : Str)]) fun _ _ _ _ _ _ us hl => match us, hl with | [_, _], _ => rfl
  have D_law_keys_drawn : Fd l.prog w K mg 4 ("_law_keys_drawn" : Str) (spP K 1 (ar1 m_law_keys_drawn)) := ⟨_, _, _, PySem.W.mg_of X G a23, k23, B23, fn_deepP E23 sc_law_keys_drawn rfl (d_law_keys_drawn GG D_law_draw)⟩
  have E24 := fun_mk (st := s_law_book) l24 c24 k24
  have B24 := E24.binds (ps := [("pool" : Str), ("most" : Str)]) fun _ _ _ _ _ _ us hl => match us, hl with | [_, _], _ => rfl
  have D_law_book : Fd l.prog w K mg 5 ("_law_book" : Str) (spP K 1 (ar1 m_law_book)) := ⟨_, _, _, PySem.W.mg_of X G a24, k24, B24, fn_deepP E24 sc_law_book rfl (d_law_book GG D_law_keys_drawn D_law_pick)⟩
  have E25 := fun_mk (st := s_law_struck) l25 c25 k25
  have B25 := E25.binds (ps := [("pool" : Str), ("names" : Str)]) fun _ _ _ _ _ _ us hl => match us, hl with | [_, _], _ => rfl
  have D_law_struck : Fd l.prog w K mg 4 ("_law_struck" : Str) (spP K 1 (ar1 m_law_struck)) := ⟨_, _, _, PySem.W.mg_of X G a25, k25, B25, fn_deepP E25 sc_law_struck rfl (d_law_struck GG D_law_draw)⟩
  have E26 := fun_mk (st := s_law_share) l26 c26 k26
  have B26 := E26.binds (ps := [("points" : Str), ("measure" : Str), ("own" : Str), ("other" : Str), ("away" : Str)]) fun _ _ _ _ _ _ us hl => match us, hl with | [_, _, _, _, _], _ => rfl
  have D_law_share : Fd l.prog w K mg 1 ("_law_share" : Str) (spI K 5 (ar5 m_law_share)) := ⟨_, _, _, PySem.W.mg_of X G a26, k26, B26, fn_deep E26 sc_law_share rfl (d_law_share GG )⟩
  have E27 := fun_mk (st := s_law_worth) l27 c27 k27
  have B27 := E27.binds (ps := [("book" : Str), ("table" : Str), ("lot" : Str), ("key" : Str), ("struck" : Str), ("side" : Str)]) fun _ _ _ _ _ _ us hl => match us, hl with | [_, _, _, _, _, _], _ => rfl
  have D_law_worth : Fd l.prog w K mg 2 ("_law_worth" : Str) (spI K 6 (ar6 m_law_worth)) := ⟨_, _, _, PySem.W.mg_of X G a27, k27, B27, fn_deep E27 sc_law_worth rfl (d_law_worth GG D_law_share)⟩
  have E28 := fun_mk (st := s_law_first_key) l28 c28 k28
  have B28 := E28.binds (ps := [("book" : Str), ("table" : Str), ("lot" : Str), ("begun" : Str), ("struck" : Str)]) fun _ _ _ _ _ _ us hl => match us, hl with | [_, _, _, _, _], _ => rfl
  have D_law_first_key : Fd l.prog w K mg 3 ("_law_first_key" : Str) (spI K 5 (ar5 m_law_first_key)) := ⟨_, _, _, PySem.W.mg_of X G a28, k28, B28, fn_deep E28 sc_law_first_key rfl (d_law_first_key GG D_law_worth)⟩
  have E29 := fun_mk (st := s_law_place) l29 c29 k29
  have B29 := E29.binds (ps := [("lots" : Str), ("side" : Str)]) fun _ _ _ _ _ _ us hl => match us, hl with | [_, _], _ => rfl
  have D_law_place : Fd l.prog w K mg 1 ("_law_place" : Str) (spI K 2 (ar2 m_law_place)) := ⟨_, _, _, PySem.W.mg_of X G a29, k29, B29, fn_deep E29 sc_law_place rfl (d_law_place GG )⟩
  have E30 := fun_mk (st := s_law_reason) l30 c30 k30
  have B30 := E30.binds (ps := [("book" : Str), ("table" : Str), ("one" : Str), ("other" : Str), ("struck" : Str)]) fun _ _ _ _ _ _ us hl => match us, hl with | [_, _, _, _, _], _ => rfl
  have D_law_reason : Fd l.prog w K mg 4 ("_law_reason" : Str) (spI K 5 (ar5 m_law_reason)) := ⟨_, _, _, PySem.W.mg_of X G a30, k30, B30, fn_deep E30 sc_law_reason rfl (d_law_reason GG D_law_first_key)⟩
  have E31 := fun_mk (st := s_law_wonders) l31 c31 k31
  have B31 := E31.binds (ps := []) fun _ _ _ _ _ _ us hl => match us, hl with | [], _ => rfl
  have D_law_wonders : Fd l.prog w K mg 1 ("_law_wonders" : Str) (spI K 0 (ar0 m_law_wonders)) := ⟨_, _, _, PySem.W.mg_of X G a31, k31, B31, fn_deep E31 sc_law_wonders rfl (d_law_wonders GG )⟩
  have E32 := fun_mk (st := s_law) l32 c32 k32
  exact ⟨_, fun s v => .of_eq rfl, fun base _ _ => ok_law E32 GG D_law_pool GX D_law_book D_law_next D_law_place D_law_reason D_law_same D_law_struck D_law_table D_law_wonders Drank Dreason⟩

theorem walk {l : PySem.W.OpenLaw} {q : Program} {loose : List Str} {XP : (Str → Option Value) → Heap → Prop} {YP : World → Heap → Prop} {d : DefRec} {K : Params → PySem.W.Frag} (hn : l.most = some 63) (hdf : d.params.defaults = [])
    (hY : ∀ (w : World) (h : Heap), YP w h → (K w.params).In h)
    (F : ∀ (w : World) (mg : Str → Option Value) (fa : Addr) (h : Heap), (K w.params).In h → h.Ns mainGlobals mg → mg d.name = some (.ref fa) →
      ∃ fd : FuncData, (∀ (s : Shared) (u : Value), BindsTo s fd ⟨[u], []⟩ [("script", u)]) ∧ ∀ base : Heap, (K w.params).In base → base.Ns mainGlobals mg → FnOk l.prog w (K w.params) mg base CX0 14 fa fd ["script"] (spLaw (K w.params))) :
    PySem.W.WalkO q loose XP YP l.row.toRowW d [] (fun f vs => PySem.call f vs) :=
  L2.walk_ofB (n := 63) (k := 14) (x := "script") (CX := fun _ => CX0) (sp := fun w => spLaw (K w.params)) hn (by decide) hdf ⟨rfl, by decide, by decide⟩ hY F (fun _ _ a ns hl hb _ hS => ⟨a, ns, rfl, hS, ⟨hl, fun n hn => bits_lt' (hb n hn)⟩, fun _ => rfl⟩) fun _ _ _ _ _ z => z
end K02

open PySem PySem.W PyProof.Rows in
set_option maxRecDepth 100000 in
set_option maxHeartbeats 0 in
theorem PySem.Challenge.cw_leaguewise_k02_whole_reasons_of_places_holds : PySem.Challenge.rw_leaguewise_k02_whole_reasons_of_places.Holds := by
  w_on; o_law; k_head; (case hw => w_witness2)
  k_fill
  refine K02.walk (l := PySem.Challenge.rw_leaguewise_k02_whole_reasons_of_places) rfl rfl (fun w h Y => PySem.W.kIn_of Y) ?F
  case F =>
    intro w mg fa h KX G hmg
    refine' K02.all_mk KX G hmg ?a0 ?l0 ?c0 ?k0 ?a1 ?l1 ?c1 ?k1 ?a2 ?l2 ?c2 ?k2 ?a3 ?l3 ?c3 ?k3 ?a4 ?l4 ?c4 ?k4 ?a5 ?l5 ?c5 ?k5 ?a6 ?l6 ?c6 ?k6 ?a7 ?l7 ?c7 ?k7 ?a8 ?t8 ?l8 ?c8 ?k8 ?a9 ?t9 ?l9 ?c9 ?k9 ?a10 ?l10 ?c10 ?k10 ?a11 ?l11 ?c11 ?k11 ?a12 ?l12 ?c12 ?k12 ?a13 ?l13 ?c13 ?k13 ?a14 ?l14 ?c14 ?k14 ?a15 ?l15 ?c15 ?k15 ?a16 ?l16 ?c16 ?k16 ?a17 ?l17 ?c17 ?k17 ?a18 ?l18 ?c18 ?k18 ?a19 ?l19 ?c19 ?k19 ?a20 ?l20 ?c20 ?k20 ?a21 ?l21 ?c21 ?k21 ?a22 ?l22 ?c22 ?k22 ?a23 ?l23 ?c23 ?k23 ?a24 ?l24 ?c24 ?k24 ?a25 ?l25 ?c25 ?k25 ?a26 ?l26 ?c26 ?k26 ?a27 ?l27 ?c27 ?k27 ?a28 ?l28 ?c28 ?k28 ?a29 ?l29 ?c29 ?k29 ?a30 ?l30 ?c30 ?k30 ?a31 ?l31 ?c31 ?k31 ?a32 ?l32 ?c32 ?k32 ?z_bool ?z_dict ?z_int ?z_isinstance ?z_len ?z_list ?z_min ?z_range ?z_set ?z_sorted ?z_str ?z_sum ?z_tuple ?z_zip ?q0aC ?q0xL ?q0sa ?q0ga ?q0gg ?q0nb ?q0ai ?q0ti ?q0su ?q0sv ?q0sm ?q0th ?q0sp ?q0li ?q0ci ?q0ld ?q0lf ?q0lm ?q0ln ?q0lc ?q0tp ?q0kC ?q0eC ?q0tC ?q0hC ?q0iC ?q0sC
    (case a0 => k_is)
    (case l0 => k_is)
    (case c0 => k_is)
    (case k0 => k_is)
    (case a1 => k_is)
    (case l1 => k_is)
    (case c1 => k_is)
    (case k1 => k_is)
    (case a2 => k_is)
    (case l2 => k_is)
    (case c2 => k_is)
    (case k2 => k_is)
    (case a3 => k_is)
    (case l3 => k_is)
    (case c3 => k_is)
    (case k3 => k_is)
    (case a4 => k_is)
    (case l4 => k_is)
    (case c4 => k_is)
    (case k4 => k_is)
    (case a5 => k_is)
    (case l5 => k_is)
    (case c5 => k_is)
    (case k5 => k_is)
    (case a6 => k_is)
    (case l6 => k_is)
    (case c6 => k_is)
    (case k6 => k_is)
    (case a7 => k_is)
    (case l7 => k_is)
    (case c7 => k_is)
    (case k7 => k_is)
    (case a8 => k_is)
    (case l8 => k_is)
    (case c8 => k_is)
    (case k8 => k_is)
    (case a9 => k_is)
    (case l9 => k_is)
    (case c9 => k_is)
    (case k9 => k_is)
    (case a10 => k_is)
    (case l10 => k_is)
    (case c10 => k_is)
    (case k10 => k_is)
    (case a11 => k_is)
    (case l11 => k_is)
    (case c11 => k_is)
    (case k11 => k_is)
    (case a12 => k_is)
    (case l12 => k_is)
    (case c12 => k_is)
    (case k12 => k_is)
    (case a13 => k_is)
    (case l13 => k_is)
    (case c13 => k_is)
    (case k13 => k_is)
    (case a14 => k_is)
    (case l14 => k_is)
    (case c14 => k_is)
    (case k14 => k_is)
    (case a15 => k_is)
    (case l15 => k_is)
    (case c15 => k_is)
    (case k15 => k_is)
    (case a16 => k_is)
    (case l16 => k_is)
    (case c16 => k_is)
    (case k16 => k_is)
    (case a17 => k_is)
    (case l17 => k_is)
    (case c17 => k_is)
    (case k17 => k_is)
    (case a18 => k_is)
    (case l18 => k_is)
    (case c18 => k_is)
    (case k18 => k_is)
    (case a19 => k_is)
    (case l19 => k_is)
    (case c19 => k_is)
    (case k19 => k_is)
    (case a20 => k_is)
    (case l20 => k_is)
    (case c20 => k_is)
    (case k20 => k_is)
    (case a21 => k_is)
    (case l21 => k_is)
    (case c21 => k_is)
    (case k21 => k_is)
    (case a22 => k_is)
    (case l22 => k_is)
    (case c22 => k_is)
    (case k22 => k_is)
    (case a23 => k_is)
    (case l23 => k_is)
    (case c23 => k_is)
    (case k23 => k_is)
    (case a24 => k_is)
    (case l24 => k_is)
    (case c24 => k_is)
    (case k24 => k_is)
    (case a25 => k_is)
    (case l25 => k_is)
    (case c25 => k_is)
    (case k25 => k_is)
    (case a26 => k_is)
    (case l26 => k_is)
    (case c26 => k_is)
    (case k26 => k_is)
    (case a27 => k_is)
    (case l27 => k_is)
    (case c27 => k_is)
    (case k27 => k_is)
    (case a28 => k_is)
    (case l28 => k_is)
    (case c28 => k_is)
    (case k28 => k_is)
    (case a29 => k_is)
    (case l29 => k_is)
    (case c29 => k_is)
    (case k29 => k_is)
    (case a30 => k_is)
    (case l30 => k_is)
    (case c30 => k_is)
    (case k30 => k_is)
    (case a31 => k_is)
    (case l31 => k_is)
    (case c31 => k_is)
    (case k31 => k_is)
    (case a32 => k_is)
    (case l32 => k_is)
    (case c32 => k_is)
    (case k32 => k_is)
    (case z_bool => k_is)
    (case z_dict => k_is)
    (case z_int => k_is)
    (case z_isinstance => k_is)
    (case z_len => k_is)
    (case z_list => k_is)
    (case z_min => k_is)
    (case z_range => k_is)
    (case z_set => k_is)
    (case z_sorted => k_is)
    (case z_str => k_is)
    (case z_sum => k_is)
    (case z_tuple => k_is)
    (case z_zip => k_is)
    (case q0aC => k_is)
    (case q0xL => k_is)
    (case q0sa => k_is)
    (case q0ga => k_is)
    (case q0gg => k_is)
    (case q0nb => k_is)
    (case q0ai => k_is)
    (case q0ti => k_is)
    (case q0su => ks_is)
    (case q0sv => k_is)
    (case q0sm => k_is)
    (case q0th => k_is)
    (case q0sp => k_is)
    (case q0li => k_is)
    (case q0ci => k_is)
    (case q0ld => k_is)
    (case q0lf => rfl)
    (case q0lm => first | rfl | decide +kernel | kernel_rfl)
    (case q0ln => rfl)
    (case q0lc => k_is)
    (case q0tp => first | rfl | decide +kernel | kernel_rfl)
    (case q0kC => k_is)
    (case q0eC => k_is)
    (case q0tC => k_is)
    (case q0hC => k_is)
    (case q0iC => k_is)
    (case q0sC => first | k_is | rfl)
    (case t8 => k_is)
    (case t9 => k_is)
end T_V_K02
