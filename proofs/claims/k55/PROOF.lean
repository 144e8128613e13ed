import PyProof.Rows.All
import Wide.All
import OpenK.AllK
import Wide.FinOn
import HandS.ForMost
import HandS.Wide
import HandS.TupAny
import HandS.SortInts
import HandS.Gcd
import HandS.IsInst
import HandS.Conv
import HandS.More
import HandS.Style
import HandS.Zip
import HandS.Rev
import HandS.EndBits
import KE.GoesMore
import KE.GoesEnum
import HandS.SetKeys
import PySem.Challenge.RW_onelate_k55_squares_or_low_values
set_option Elab.async false
set_option linter.all false
set_option maxRecDepth 100000
set_option maxHeartbeats 4000000
/-! Values by value: PyData, and places of a small store for what may change. -/
namespace Zd
open PySem PySem.Spec PyProof.Rows L2

/-- a value of the by-value reading: data, or a place of the store -/
inductive D where
  | pd (d : PyData)
  | ref (l : Nat)
  | scr (ns : List Int)

/-- what stands at a place of the store -/
inductive Cell where
  | lst (ds : List PyData)
  | lls (ls : List Nat)
  | dic (kvs : List (Key × PyData))
  | dit (kvs : List (List Key × PyData))
  | dead

abbrev Store := List Cell
abbrev Env := List (Option D)

/-- an end: a value, an exception (its class by name, its fields), or nothing is known -/
inductive Out (α : Type) where
  | ok (a : α)
  | exc (c : Str) (fs : List (Str × PyData)) (μ : Store)
  | stuck

def Out.bind {α β : Type} (x : Out α) (f : α → Out β) : Out β :=
  match x with
  | .ok a => f a
  | .exc c fs μ => .exc c fs μ
  | .stuck => .stuck
@[simp] theorem Out.ok_bind {α β : Type} (a : α) (f : α → Out β) : (Out.ok a).bind f = f a := rfl
@[simp] theorem Out.stuck_bind {α β : Type} (f : α → Out β) : (Out.stuck : Out α).bind f = .stuck := rfl
@[simp] theorem Out.exc_bind {α β : Type} (c : Str) (fs : List (Str × PyData)) (μ : Store) (f : α → Out β) : (Out.exc c fs μ : Out α).bind f = .exc c fs μ := rfl

/-! ### the part of the heap that stays as it is -/
def Im (H : Hp) (ad xs : List Addr) : Hp := fun a => if a ∈ ad ∨ a ∈ xs then none else H a

theorem Im_some {H : Hp} {ad xs : List Addr} {a : Addr} {o : HO} (h : Im H ad xs a = some o) : a ∉ ad ∧ a ∉ xs ∧ H a = some o := by
  unfold Im at h
  split at h
  · cases h
  · rename_i q
    exact ⟨fun z => q (.inl z), fun z => q (.inr z), h⟩
theorem Im_of {H : Hp} {ad xs : List Addr} {a : Addr} {o : HO} (h1 : a ∉ ad) (h2 : a ∉ xs) (h : H a = some o) : Im H ad xs a = some o := by
  unfold Im
  rw [if_neg (fun z => z.elim h1 h2)]
  exact h

/-! ### data lies at a value, in a heap -/
mutual
inductive Ly (K : PySem.W.Frag) (H : Hp) : V → PyData → Prop
  | non : Ly K H .non .none
  | bl (b : Bool) : Ly K H (.bl b) (.bool b)
  | int (i : Int) : Ly K H (.int i) (.int i)
  | str (x : Str) : Ly K H (.str x) (.str x)
  | lst {a : Addr} {xs : List V} {ds : List PyData} : H a = some (.lst xs) → LyAll K H xs ds → Ly K H (.ref a) (.list ds)
  | tup {a : Addr} {xs : List V} {ds : List PyData} : SqT K H a xs → LyAll K H xs ds → Ly K H (.ref a) (.tuple ds)
inductive LyAll (K : PySem.W.Frag) (H : Hp) : List V → List PyData → Prop
  | nil : LyAll K H [] []
  | cons {v : V} {vs : List V} {d : PyData} {ds : List PyData} : Ly K H v d → LyAll K H vs ds → LyAll K H (v :: vs) (d :: ds)
end
mutual
theorem Ly.dp {K : PySem.W.Frag} {H : Hp} : ∀ {v : V} {d : PyData}, Ly K H v d → Dp K H v d
  | _, _, .non => .non
  | _, _, .bl b => .bl b
  | _, _, .int i => .int i
  | _, _, .str x => .str x
  | _, _, .lst h q => .lst (SqL.of h) (LyAll.dp q)
  | _, _, .tup h q => .tup h (LyAll.dp q)
theorem LyAll.dp {K : PySem.W.Frag} {H : Hp} : ∀ {vs : List V} {ds : List PyData}, LyAll K H vs ds → DpAll K H vs ds
  | _, _, .nil => .nil
  | _, _, .cons h q => .cons (Ly.dp h) (LyAll.dp q)
end
theorem SqT.grow {K : PySem.W.Frag} {H H' : Hp} (e : Same H H') {a : Addr} {xs : List V} (h : SqT K H a xs) : SqT K H' a xs := by
  rcases h with (h | ⟨o, h⟩) | h
  · exact .inl (.inl (e _ _ h))
  · exact .inl (.inr ⟨o, e _ _ h⟩)
  · exact .inr h
mutual
theorem Ly.grow {K : PySem.W.Frag} {H H' : Hp} (e : Same H H') : ∀ {v : V} {d : PyData}, Ly K H v d → Ly K H' v d
  | _, _, .non => .non
  | _, _, .bl b => .bl b
  | _, _, .int i => .int i
  | _, _, .str x => .str x
  | _, _, .lst h q => .lst (e _ _ h) (LyAll.grow e q)
  | _, _, .tup h q => .tup (SqT.grow e h) (LyAll.grow e q)
theorem LyAll.grow {K : PySem.W.Frag} {H H' : Hp} (e : Same H H') : ∀ {vs : List V} {ds : List PyData}, LyAll K H vs ds → LyAll K H' vs ds
  | _, _, .nil => .nil
  | _, _, .cons h q => .cons (Ly.grow e h) (LyAll.grow e q)
end
theorem LyAll.length {K : PySem.W.Frag} {H : Hp} : ∀ {vs : List V} {ds : List PyData}, LyAll K H vs ds → vs.length = ds.length
  | _, _, .nil => rfl
  | _, _, .cons _ q => by simp [LyAll.length q]
theorem LyAll.get {K : PySem.W.Frag} {H : Hp} : ∀ {vs : List V} {ds : List PyData} {i : Nat} {d : PyData}, LyAll K H vs ds → ds[i]? = some d → ∃ v, vs[i]? = some v ∧ Ly K H v d
  | _, _, _, _, .nil, e => by simp at e
  | _, _, 0, _, .cons h _, e => by simp at e; subst e; exact ⟨_, rfl, h⟩
  | _, _, i + 1, _, .cons _ q, e => by
    obtain ⟨v, e1, e2⟩ := LyAll.get (i := i) q (by simpa using e)
    exact ⟨v, by simpa using e1, e2⟩
theorem LyAll.append {K : PySem.W.Frag} {H : Hp} : ∀ {vs ws : List V} {ds es : List PyData}, LyAll K H vs ds → LyAll K H ws es → LyAll K H (vs ++ ws) (ds ++ es)
  | _, _, _, _, .nil, h => h
  | _, _, _, _, .cons p q, h => .cons p (LyAll.append q h)
theorem LyAll.set {K : PySem.W.Frag} {H : Hp} {v : V} {d : PyData} (p : Ly K H v d) : ∀ {vs : List V} {ds : List PyData} (i : Nat), LyAll K H vs ds → LyAll K H (vs.set i v) (ds.set i d)
  | _, _, _, .nil => .nil
  | _, _, 0, .cons _ q => .cons p q
  | _, _, i + 1, .cons h q => .cons h (LyAll.set p i q)
theorem LyAll.take {K : PySem.W.Frag} {H : Hp} : ∀ {vs : List V} {ds : List PyData} (n : Nat), LyAll K H vs ds → LyAll K H (vs.take n) (ds.take n)
  | _, _, 0, _ => by simpa using LyAll.nil
  | _, _, _ + 1, .nil => .nil
  | _, _, n + 1, .cons h q => .cons h (LyAll.take n q)
theorem LyAll.drop {K : PySem.W.Frag} {H : Hp} : ∀ {vs : List V} {ds : List PyData} (n : Nat), LyAll K H vs ds → LyAll K H (vs.drop n) (ds.drop n)
  | _, _, 0, h => h
  | _, _, _ + 1, .nil => .nil
  | _, _, n + 1, .cons _ q => LyAll.drop n q
theorem LyAll.eraseIdx {K : PySem.W.Frag} {H : Hp} : ∀ {vs : List V} {ds : List PyData} (n : Nat), LyAll K H vs ds → LyAll K H (vs.eraseIdx n) (ds.eraseIdx n)
  | _, _, _, .nil => .nil
  | _, _, 0, .cons _ q => q
  | _, _, n + 1, .cons h q => .cons h (LyAll.eraseIdx n q)
theorem LyAll.reverse {K : PySem.W.Frag} {H : Hp} {vs : List V} {ds : List PyData} (h : LyAll K H vs ds) : LyAll K H vs.reverse ds.reverse := by
  induction vs generalizing ds with
  | nil => cases h; exact .nil
  | cons v r ih =>
    cases h with
    | cons p q =>
      rw [List.reverse_cons, List.reverse_cons]
      exact LyAll.append (ih q) (.cons p .nil)
theorem LyAll.map_int {K : PySem.W.Frag} {H : Hp} : ∀ (ns : List Int), LyAll K H (ns.map V.int) (ns.map PyData.int)
  | [] => .nil
  | n :: r => .cons (.int n) (LyAll.map_int r)

/-! ### the state -/
/-- a value lies -/
def Rep (K : PySem.W.Frag) (H : Hp) (ad xs : List Addr) : D → V → Prop
  | .pd d, v => Ly K (Im H ad xs) v d
  | .ref l, v => ∃ a, ad[l]? = some a ∧ v = .ref a
  | .scr ns, v => ∃ a, v = .ref a ∧ SqL K (Im H ad xs) a (ns.map V.int)

def CellOk (K : PySem.W.Frag) (H : Hp) (ad xs : List Addr) (a : Addr) : Cell → Prop
  | .lst ds => ∃ vs, H a = some (.lst vs) ∧ LyAll K (Im H ad xs) vs ds
  | .lls ls => ∃ as : List Addr, H a = some (.lst (as.map V.ref)) ∧ as.map some = ls.map (fun l => ad[l]?)
  | .dic kvs => ∃ ws : List (Key × V), H a = some (.dK ws) ∧ ws.map (·.1) = kvs.map (·.1) ∧ LyAll K (Im H ad xs) (ws.map (·.2)) (kvs.map (·.2))
  | .dit kvs => ∃ ws : List (List Key × V), H a = some (.dT ws) ∧ ws.map (·.1) = kvs.map (·.1) ∧ LyAll K (Im H ad xs) (ws.map (·.2)) (kvs.map (·.2))
  | .dead => True

structure WOk (K : PySem.W.Frag) (H : Hp) (ad xs : List Addr) (μ : Store) : Prop where
  len : ad.length = μ.length
  nd : (ad ++ xs).Nodup
  there : ∀ a, (a ∈ ad ∨ a ∈ xs) → ∃ o, H a = some o
  cell : ∀ (l : Nat) (a : Addr) (c : Cell), ad[l]? = some a → μ[l]? = some c → CellOk K H ad xs a c

/-- later: what stays has stayed, places were only added -/
structure Ext (H : Hp) (ad xs : List Addr) (H' : Hp) (ad' : List Addr) : Prop where
  same : Same (Im H ad xs) (Im H' ad' xs)
  pre : ∃ nw, ad' = ad ++ nw
  keepx : ∀ a, a ∈ xs → H' a = H a

section
variable {K : PySem.W.Frag} {H H1 H2 : Hp} {ad ad1 ad2 xs : List Addr} {μ : Store}
theorem Ext.refl : Ext H ad xs H ad := ⟨fun _ _ h => h, ⟨[], by simp⟩, fun _ _ => rfl⟩
theorem Ext.trans (a : Ext H ad xs H1 ad1) (b : Ext H1 ad1 xs H2 ad2) : Ext H ad xs H2 ad2 := by
  obtain ⟨n1, e1⟩ := a.pre
  obtain ⟨n2, e2⟩ := b.pre
  exact ⟨fun c o h => b.same c o (a.same c o h), ⟨n1 ++ n2, by rw [e2, e1, List.append_assoc]⟩, fun c hc => (b.keepx c hc).trans (a.keepx c hc)⟩
theorem Ext.get (e : Ext H ad xs H1 ad1) {l : Nat} {a : Addr} (h : ad[l]? = some a) : ad1[l]? = some a := by
  obtain ⟨nw, rfl⟩ := e.pre
  rw [List.getElem?_append_left (by
    obtain ⟨h1, _⟩ := List.getElem?_eq_some_iff.mp h
    exact h1)]
  exact h
theorem Rep.to {xs1 : List Addr} (s : Same (Im H ad xs) (Im H1 ad1 xs1)) (p : ∃ nw, ad1 = ad ++ nw) {d : D} {v : V} (h : Rep K H ad xs d v) : Rep K H1 ad1 xs1 d v := by
  cases d with
  | pd d => exact Ly.grow s h
  | ref l =>
    obtain ⟨a, h1, h2⟩ := h
    obtain ⟨nw, rfl⟩ := p
    exact ⟨a, by
      rw [List.getElem?_append_left (by
        obtain ⟨h3, _⟩ := List.getElem?_eq_some_iff.mp h1
        exact h3)]
      exact h1, h2⟩
  | scr ns =>
    obtain ⟨a, h1, h2⟩ := h
    exact ⟨a, h1, Same.seq s h2⟩
theorem Rep.ext (e : Ext H ad xs H1 ad1) {d : D} {v : V} (h : Rep K H ad xs d v) : Rep K H1 ad1 xs d v := by
  cases d with
  | pd d => exact Ly.grow e.same h
  | ref l =>
    obtain ⟨a, h1, h2⟩ := h
    exact ⟨a, e.get h1, h2⟩
  | scr ns =>
    obtain ⟨a, h1, h2⟩ := h
    exact ⟨a, h1, Same.seq e.same h2⟩
/-- what a value holds at this moment -/
def deref (μ : Store) : D → Option PyData
  | .pd d => some d
  | .ref l => match μ[l]? with
    | some (.lst ds) => some (.list ds)
    | _ => none
  | .scr _ => none
@[simp] theorem deref_pd (μ : Store) (d : PyData) : deref μ (.pd d) = some d := rfl
theorem Im_le : Same (Im H ad xs) H := fun a o h => (Im_some h).2.2
/-- it lies there, or in a list that may change and holds it at this moment -/
def Mo (K : PySem.W.Frag) (H : Hp) (ad xs : List Addr) (v : V) (p : PyData) : Prop :=
  Ly K (Im H ad xs) v p ∨ ∃ a vs ds, v = .ref a ∧ p = .list ds ∧ H a = some (.lst vs) ∧ LyAll K (Im H ad xs) vs ds
theorem Mo.dp {v : V} {p : PyData} (h : Mo K H ad xs v p) : Dp K H v p := by
  rcases h with h | ⟨a, vs, ds, rfl, rfl, e, q⟩
  · exact (Ly.grow Im_le h).dp
  · exact .lst (SqL.of e) (LyAll.grow Im_le q).dp
theorem Mo.list {v : V} {ds : List PyData} (h : Mo K H ad xs v (.list ds)) : ∃ a vs, v = .ref a ∧ H a = some (.lst vs) ∧ LyAll K (Im H ad xs) vs ds := by
  rcases h with h | ⟨a, vs, es, rfl, e0, e, q⟩
  · cases h with
    | lst h q => exact ⟨_, _, rfl, Im_le _ _ h, q⟩
  · cases e0
    exact ⟨a, vs, rfl, e, q⟩
theorem Mo.tuple {v : V} {ds : List PyData} (h : Mo K H ad xs v (.tuple ds)) : ∃ a vs, v = .ref a ∧ SqT K H a vs ∧ LyAll K (Im H ad xs) vs ds := by
  rcases h with h | ⟨a, vs, es, rfl, e0, e, q⟩
  · cases h with
    | tup h q => exact ⟨_, _, rfl, SqT.grow Im_le h, q⟩
  · cases e0
theorem Mo.int {v : V} {i : Int} (h : Mo K H ad xs v (.int i)) : v = .int i := by
  rcases h with h | ⟨a, vs, es, rfl, e0, e, q⟩
  · cases h; rfl
  · cases e0
theorem Mo.bl {v : V} {b : Bool} (h : Mo K H ad xs v (.bool b)) : v = .bl b := by
  rcases h with h | ⟨a, vs, es, rfl, e0, e, q⟩
  · cases h; rfl
  · cases e0
theorem Mo.str {v : V} {b : Str} (h : Mo K H ad xs v (.str b)) : v = .str b := by
  rcases h with h | ⟨a, vs, es, rfl, e0, e, q⟩
  · cases h; rfl
  · cases e0
theorem Mo.non {v : V} (h : Mo K H ad xs v .none) : v = .non := by
  rcases h with h | ⟨a, vs, es, rfl, e0, e, q⟩
  · cases h; rfl
  · cases e0
theorem WOk.mo (w : WOk K H ad xs μ) {d : D} {v : V} {p : PyData} (h : Rep K H ad xs d v) (e : deref μ d = some p) : Mo K H ad xs v p := by
  cases d with
  | pd q =>
    have e' : q = p := Option.some.inj e
    subst e'
    exact .inl h
  | ref l =>
    obtain ⟨a, h1, rfl⟩ := h
    cases hc : μ[l]? with
    | none =>
      simp [Zd.deref, hc] at e
    | some c =>
      cases c with
      | lst ds =>
        simp [Zd.deref, hc] at e
        subst e
        obtain ⟨vs, e1, e2⟩ := w.cell l a _ h1 hc
        exact .inr ⟨a, vs, ds, rfl, rfl, e1, e2⟩
      | _ => simp [Zd.deref, hc] at e
  | scr ns => simp [Zd.deref] at e

/-- a new immutable object -/
theorem Im_new {p : Addr} {o : HO} (w : WOk K H ad xs μ) (hp : H p = none) : p ∉ ad ∧ p ∉ xs := by
  constructor
  · intro z
    obtain ⟨o, e⟩ := w.there p (.inl z)
    rw [hp] at e; cases e
  · intro z
    obtain ⟨o, e⟩ := w.there p (.inr z)
    rw [hp] at e; cases e
theorem Im_upd_new {p : Addr} {o : HO} (h1 : p ∉ ad) (h2 : p ∉ xs) : Im (upd H p o) ad xs = upd (Im H ad xs) p o := by
  funext a
  unfold Im upd
  by_cases e : a = p
  · subst e
    rw [if_neg (fun z => z.elim h1 h2), if_pos rfl]
    simp
  · simp [e]
theorem same_new {p : Addr} {o : HO} (hp : H p = none) : Same H (upd H p o) := fun b x e => by
  rw [upd_ne (ne_of_none e hp)]
  exact e
theorem Im_none {p : Addr} (hp : H p = none) : Im H ad xs p = none := by
  unfold Im
  split <;> first | rfl | exact hp
theorem CellOk.grow {a : Addr} {c : Cell} (h : CellOk K H ad xs a c) (e : Same (Im H ad xs) (Im H1 ad1 xs)) (p : ∃ nw, ad1 = ad ++ nw) (q : H1 a = H a) : CellOk K H1 ad1 xs a c := by
  cases c with
  | lst ds =>
    obtain ⟨vs, e1, e2⟩ := h
    exact ⟨vs, q.trans e1, LyAll.grow e e2⟩
  | lls ls =>
    obtain ⟨as, e1, e2⟩ := h
    refine ⟨as, q.trans e1, ?_⟩
    obtain ⟨nw, rfl⟩ := p
    rw [e2]
    have hh : ∀ l ∈ ls, ad[l]? = (ad ++ nw)[l]? := by
      intro l hl
      have : (ad[l]?).isSome = true := by
        have m : ad[l]? ∈ ls.map (fun l => ad[l]?) := List.mem_map.mpr ⟨l, hl, rfl⟩
        rw [← e2] at m
        obtain ⟨x, _, hx⟩ := List.mem_map.mp m
        rw [← hx]; rfl
      obtain ⟨x, hx⟩ := Option.isSome_iff_exists.mp this
      rw [List.getElem?_append_left (by
        obtain ⟨h1, _⟩ := List.getElem?_eq_some_iff.mp hx
        exact h1)]
    exact List.map_congr_left hh
  | dic kvs =>
    obtain ⟨ws, e1, e2, e3⟩ := h
    exact ⟨ws, q.trans e1, e2, LyAll.grow e e3⟩
  | dit kvs =>
    obtain ⟨ws, e1, e2, e3⟩ := h
    exact ⟨ws, q.trans e1, e2, LyAll.grow e e3⟩
  | dead => trivial
/-- a new object that stays -/
theorem WOk.new {p : Addr} {o : HO} (w : WOk K H ad xs μ) (hp : H p = none) : WOk K (upd H p o) ad xs μ ∧ Ext H ad xs (upd H p o) ad ∧ Im (upd H p o) ad xs p = some o := by
  obtain ⟨h1, h2⟩ := Im_new (o := o) w hp
  have es : Same (Im H ad xs) (Im (upd H p o) ad xs) := by
    rw [Im_upd_new h1 h2]
    exact same_new (Im_none hp)
  refine ⟨⟨w.len, w.nd, fun a ha => ?_, fun l a c e1 e2 => ?_⟩, ⟨es, ⟨[], by simp⟩, fun a ha => upd_ne fun z => h2 (z ▸ ha)⟩, ?_⟩
  · obtain ⟨o', e⟩ := w.there a ha
    exact ⟨o', same_new hp _ _ e⟩
  · refine (w.cell l a c e1 e2).grow es ⟨[], by simp⟩ (upd_ne ?_)
    rintro rfl
    exact h1 (List.mem_of_getElem? e1)
  · rw [Im_upd_new h1 h2, upd_same]
/-- a new object that may change: a place more -/
theorem WOk.alloc {p : Addr} {o : HO} {c : Cell} (w : WOk K H ad xs μ) (hp : H p = none) (hc : CellOk K (upd H p o) (ad ++ [p]) xs p c) : WOk K (upd H p o) (ad ++ [p]) xs (μ ++ [c]) ∧ Ext H ad xs (upd H p o) (ad ++ [p]) := by
  obtain ⟨h1, h2⟩ := Im_new (o := o) w hp
  have es : Same (Im H ad xs) (Im (upd H p o) (ad ++ [p]) xs) := fun a u e => by
    obtain ⟨e1, e2, e3⟩ := Im_some e
    have ne : a ≠ p := ne_of_none e3 hp
    exact Im_of (by simp [e1, ne]) e2 ((upd_ne ne).trans e3)
  refine ⟨⟨by simp [w.len], ?_, fun a ha => ?_, fun l a c' e1 e2 => ?_⟩, ⟨es, ⟨[p], rfl⟩, fun a ha => upd_ne fun z => h2 (z ▸ ha)⟩⟩
  · have nd := w.nd
    rw [List.nodup_append] at nd ⊢
    obtain ⟨n1, n2, n3⟩ := nd
    refine ⟨?_, n2, fun a ha b hb => ?_⟩
    · rw [List.nodup_append]
      refine ⟨n1, by simp, fun a ha b hb => ?_⟩
      have : b = p := by simpa using hb
      subst this
      exact fun z => h1 (z ▸ ha)
    · rcases List.mem_append.mp ha with ha | ha
      · exact n3 a ha b hb
      · have : a = p := by simpa using ha
        subst this
        exact fun z => h2 (z ▸ hb)
  · by_cases e : a = p
    · exact ⟨o, by rw [e, upd_same]⟩
    · have ha' : a ∈ ad ∨ a ∈ xs := by
        rcases ha with ha | ha
        · rcases List.mem_append.mp ha with ha | ha
          · exact .inl ha
          · exact absurd (by simpa using ha) e
        · exact .inr ha
      obtain ⟨o', e'⟩ := w.there a ha'
      exact ⟨o', same_new hp _ _ e'⟩
  · by_cases hl : l < ad.length
    · rw [List.getElem?_append_left hl] at e1
      rw [List.getElem?_append_left (by rw [← w.len]; exact hl)] at e2
      refine (w.cell l a c' e1 e2).grow es ⟨[p], rfl⟩ (upd_ne ?_)
      rintro rfl
      exact h1 (List.mem_of_getElem? e1)
    · have el : l = ad.length := by
        obtain ⟨q, _⟩ := List.getElem?_eq_some_iff.mp e1
        simp at q
        omega
      subst el
      rw [List.getElem?_append_right (Nat.le_refl _)] at e1
      rw [w.len, List.getElem?_append_right (Nat.le_refl _)] at e2
      simp at e1 e2
      subst e1
      subst e2
      exact hc
/-- a place is written -/
theorem WOk.write {l : Nat} {a : Addr} {o : HO} {c : Cell} (w : WOk K H ad xs μ) (ha : ad[l]? = some a) (hc : CellOk K (upd H a o) ad xs a c) : WOk K (upd H a o) ad xs (μ.set l c) ∧ Ext H ad xs (upd H a o) ad := by
  have hm : a ∈ ad := List.mem_of_getElem? ha
  have es : Im (upd H a o) ad xs = Im H ad xs := by
    funext b
    unfold Im upd
    by_cases e : b = a
    · subst e
      simp [hm]
    · simp [e]
  have es' : Same (Im H ad xs) (Im (upd H a o) ad xs) := by rw [es]; exact fun _ _ h => h
  refine ⟨⟨by simp [w.len], w.nd, fun b hb => ?_, fun k b c' e1 e2 => ?_⟩, ⟨es', ⟨[], by simp⟩, fun b hb => upd_ne fun z => (List.nodup_append.mp w.nd).2.2 a hm b hb z.symm⟩⟩
  · by_cases e : b = a
    · exact ⟨o, by rw [e, upd_same]⟩
    · obtain ⟨o', e'⟩ := w.there b hb
      exact ⟨o', (upd_ne e).trans e'⟩
  · by_cases hk : k = l
    · subst hk
      rw [ha] at e1
      cases e1
      have : k < μ.length := by
        rw [← w.len]
        exact (List.getElem?_eq_some_iff.mp ha).1
      rw [List.getElem?_set_self this] at e2
      cases e2
      exact hc
    · rw [List.getElem?_set_ne (Ne.symm hk)] at e2
      refine (w.cell k b c' e1 e2).grow es' ⟨[], by simp⟩ (upd_ne ?_)
      rintro rfl
      have nd : ad.Nodup := (List.nodup_append.mp w.nd).1
      obtain ⟨q1, p1⟩ := List.getElem?_eq_some_iff.mp e1
      obtain ⟨q2, p2⟩ := List.getElem?_eq_some_iff.mp ha
      exact hk ((List.getElem_inj nd).mp (p1.trans p2.symm))
end

/-! ### slots -/
structure SRep (K : PySem.W.Frag) (H : Hp) (ad xs : List Addr) (σ : L2.St) (env : Env) : Prop where
  len : σ.length = env.length
  at_ : ∀ (i : Nat) (d : D), env[i]? = some (some d) → ∃ v, σ[i]? = some (some v) ∧ Rep K H ad xs d v
section
variable {K : PySem.W.Frag} {H H1 H2 : Hp} {ad ad1 ad2 xs : List Addr} {μ : Store} {σ : L2.St} {env : Env}
theorem SRep.ext (e : Ext H ad xs H1 ad1) (h : SRep K H ad xs σ env) : SRep K H1 ad1 xs σ env := ⟨h.len, fun i d q => by
  obtain ⟨v, h1, h2⟩ := h.at_ i d q
  exact ⟨v, h1, h2.ext e⟩⟩
theorem SRep.to {xs1 : List Addr} (s : Same (Im H ad xs) (Im H1 ad1 xs1)) (p : ∃ nw, ad1 = ad ++ nw) (h : SRep K H ad xs σ env) : SRep K H1 ad1 xs1 σ env := ⟨h.len, fun i d q => by
  obtain ⟨v, h1, h2⟩ := h.at_ i d q
  exact ⟨v, h1, h2.to s p⟩⟩
theorem SRep.set (h : SRep K H ad xs σ env) {i : Nat} {d : D} {v : V} (r : Rep K H ad xs d v) : SRep K H ad xs (σ.set i (some v)) (env.set i (some d)) := ⟨by simp [h.len], fun j e q => by
  by_cases hj : j = i
  · subst hj
    have hl : j < env.length := by
      have := (List.getElem?_eq_some_iff.mp q).1
      simpa using this
    rw [List.getElem?_set_self hl] at q
    cases q
    exact ⟨v, List.getElem?_set_self (by rw [h.len]; exact hl), r⟩
  · rw [List.getElem?_set_ne (Ne.symm hj)] at q
    obtain ⟨w, h1, h2⟩ := h.at_ j e q
    exact ⟨w, by rw [List.getElem?_set_ne (Ne.symm hj)]; exact h1, h2⟩⟩
theorem SRep.forget (h : SRep K H ad xs σ env) (i : Nat) : SRep K H ad xs σ (env.set i none) := ⟨by simp [h.len], fun j e q => by
  by_cases hj : j = i
  · subst hj
    by_cases hl : j < env.length
    · rw [List.getElem?_set_self hl] at q; cases q
    · rw [List.getElem?_eq_none (by simpa using hl)] at q; cases q
  · rw [List.getElem?_set_ne (Ne.symm hj)] at q
    exact h.at_ j e q⟩
/-- slots forgotten -/
def wipeE (env : Env) : List Nat → Env
  | [] => env
  | v :: vs => (wipeE env vs).set v none
theorem SRep.wipe (h : SRep K H ad xs σ env) : ∀ vs : List Nat, SRep K H ad xs (L2.wipe σ vs) (wipeE env vs)
  | [] => h
  | v :: vs => by
    have ih := SRep.wipe h vs
    refine ⟨by simp [L2.wipe, wipeE, ih.len], fun j e q => ?_⟩
    unfold wipeE at q
    unfold L2.wipe
    by_cases hj : j = v
    · subst hj
      by_cases hl : j < (wipeE env vs).length
      · rw [List.getElem?_set_self hl] at q; cases q
      · rw [List.getElem?_eq_none (by simpa using hl)] at q; cases q
    · rw [List.getElem?_set_ne (Ne.symm hj)] at q
      rw [List.getElem?_set_ne (Ne.symm hj)]
      exact ih.at_ j e q
theorem SRep.forgets (h : SRep K H ad xs σ env) : ∀ vs : List Nat, SRep K H ad xs σ (wipeE env vs)
  | [] => h
  | v :: vs => (SRep.forgets h vs).forget v
end
end Zd

set_option Elab.async false
set_option linter.all false
set_option maxRecDepth 100000
set_option maxHeartbeats 4000000
/-! Expressions, read by value. -/
namespace Zd
open PySem PySem.Spec PyProof.Rows L2

abbrev Wish := Str → List (Str × PyData) → Hp → List Addr → Store → Prop
abbrev W0 : Wish := fun _ _ _ _ _ => False
/-- what holds behind, wherever things lie then -/
def Post {α : Type} (K : PySem.W.Frag) (xs : List Addr) (W : Wish) (H : Hp) (ad : List Addr) (o : Out (α × Store)) (Q : α → Hp → List Addr → Store → Prop) : Prop :=
  match o with
  | .ok p => ∀ H' ad', Ext H ad xs H' ad' → WOk K H' ad' xs p.2 → Q p.1 H' ad' p.2
  | .exc c fs μ' => ∀ H' ad', Ext H ad xs H' ad' → WOk K H' ad' xs μ' → W c fs H' ad' μ'
  | .stuck => False
section
variable {K : PySem.W.Frag} {xs : List Addr} {W : Wish} {H : Hp} {ad : List Addr}
theorem Post.mono {α : Type} {o : Out (α × Store)} {Q Q' : α → Hp → List Addr → Store → Prop} (h : Post K xs W H ad o Q)
    (k : ∀ a H' ad' μ', Ext H ad xs H' ad' → WOk K H' ad' xs μ' → Q a H' ad' μ' → Q' a H' ad' μ') : Post K xs W H ad o Q' := by
  cases o with
  | ok p => exact fun H' ad' e w => k _ _ _ _ e w (h H' ad' e w)
  | exc c fs μ' => exact h
  | stuck => exact h
theorem Post.bind {α β : Type} {o : Out (α × Store)} {g : α × Store → Out (β × Store)} {Q : β → Hp → List Addr → Store → Prop} (h : Post K xs W H ad (o.bind g) Q) :
    Post K xs W H ad o fun a H1 ad1 μ1 => Post K xs W H1 ad1 (g (a, μ1)) Q := by
  cases o with
  | ok p =>
    intro H1 ad1 e1 w1
    have h' : Post K xs W H ad (g p) Q := h
    show Post K xs W H1 ad1 (g p) Q
    revert h'
    cases g p with
    | ok q => exact fun h' H' ad' e w => h' H' ad' (e1.trans e) w
    | exc c fs μ' => exact fun h' H' ad' e w => h' H' ad' (e1.trans e) w
    | stuck => exact fun h' => h'
  | exc c fs μ' => exact h
  | stuck => exact h
theorem Post.ok {α : Type} {a : α} {μ : Store} {Q : α → Hp → List Addr → Store → Prop} (h : Post K xs W H ad (.ok (a, μ)) Q) (w : WOk K H ad xs μ) : Q a H ad μ := h H ad Ext.refl w
theorem Post.ok_at {α : Type} {a : α} {μ : Store} {Q : α → Hp → List Addr → Store → Prop} (h : Post K xs W H ad (.ok (a, μ)) Q) {H' : Hp} {ad' : List Addr} (e : Ext H ad xs H' ad') (w : WOk K H' ad' xs μ) : Q a H' ad' μ := h H' ad' e w
end

abbrev EvE := Env → Store → Out (D × Store)
abbrev EvT := Env → Store → Out (Bool × Store)
abbrev EvA := Env → Store → Out (List D × Store)
abbrev EvF := Env → Store → Out (List PyData × Store)

def tD (K : PySem.W.Frag) (W : Wish) (ev : EvE) : TE := fun σ H Q => ∃ ad xs env μ, SRep K H ad xs σ env ∧ WOk K H ad xs μ ∧
  Post K xs W H ad (ev env μ) fun d H' ad' _ => ∀ v, Rep K H' ad' xs d v → Q v H'
def tDT (K : PySem.W.Frag) (W : Wish) (ev : EvT) : TT := fun σ H Q => ∃ ad xs env μ, SRep K H ad xs σ env ∧ WOk K H ad xs μ ∧
  Post K xs W H ad (ev env μ) fun b H' ad' _ => Q b H'
def RepAll (K : PySem.W.Frag) (H : Hp) (ad xs : List Addr) (ds : List D) (vs : List V) : Prop := Paired (Rep K H ad xs) ds vs
def tDA (K : PySem.W.Frag) (W : Wish) (ev : EvA) : TA := fun σ H Q => ∃ ad xs env μ, SRep K H ad xs σ env ∧ WOk K H ad xs μ ∧
  Post K xs W H ad (ev env μ) fun ds H' ad' _ => ∀ vs, RepAll K H' ad' xs ds vs → Q vs H'
def tDF (K : PySem.W.Frag) (W : Wish) (ev : EvF) : TE := fun σ H Q => ∃ ad xs env μ, SRep K H ad xs σ env ∧ WOk K H ad xs μ ∧
  Post K xs W H ad (ev env μ) fun ds H' ad' _ => ∀ p vs, H' p = none → LyAll K (Im H' ad' xs) vs ds → Q (.ref p) (upd H' p (.lst vs))

/-- an expression, a test, an argument list, an expression that makes a list -/
abbrev SE (X : Cx) (W : Wish) (e : Expr) (ev : EvE) : Prop := PE X e (tD X.K W ev)
abbrev ST (X : Cx) (W : Wish) (e : Expr) (ev : EvT) : Prop := PT X e (tDT X.K W ev)
abbrev SW (X : Cx) (W : Wish) (e : Expr) (ev : EvT) : Prop := PW X e (tDT X.K W ev)
abbrev SA (X : Cx) (W : Wish) (es : List Expr) (ev : EvA) : Prop := PA X es (tDA X.K W ev)
abbrev SF (X : Cx) (W : Wish) (e : Expr) (ev : EvF) : Prop := PE X e (tDF X.K W ev)

section
variable {X : Cx}
theorem pe_imp {e : Expr} {t t' : TE} (h : PE X e t) (k : ∀ σ H Q, t' σ H Q → t σ H Q) : PE X e t' := ⟨fun pins s σ H Q I q => h.run pins s σ H Q I (k _ _ _ q)⟩
theorem pt_imp {e : Expr} {t t' : TT} (h : PT X e t) (k : ∀ σ H Q, t' σ H Q → t σ H Q) : PT X e t' := ⟨fun pins s σ H Q I q => h.run pins s σ H Q I (k _ _ _ q)⟩
theorem pw_imp {e : Expr} {t t' : TT} (h : PW X e t) (k : ∀ σ H Q, t' σ H Q → t σ H Q) : PW X e t' := ⟨fun wh pins s σ H Q I q => h.run wh pins s σ H Q I (k _ _ _ q)⟩
theorem pa_imp {es : List Expr} {t t' : TA} (h : PA X es t) (k : ∀ σ H Q, t' σ H Q → t σ H Q) : PA X es t' := ⟨fun pos pins s σ H Q I q => h.run pos pins s σ H Q I (k _ _ _ q)⟩
end

/-! ### names, constants -/
def eVar (i : Nat) : EvE := fun env μ => match env[i]? with
  | some (some d) => .ok (d, μ)
  | _ => .stuck
def eC (d : PyData) : EvE := fun _ μ => .ok (.pd d, μ)
section
variable {X : Cx} {W : Wish}
theorem se_var (i : Nat) {x : Str} {pos : Pos} (hN : X.N[i]? = some x := by rfl) (hv : Vis X.env.scope x := by first | exact Or.inl rfl | exact Or.inr (Or.inl rfl) | exact Or.inr (Or.inr rfl)) (hd : (x == ("__debug__" : Str)) = false := by decide)
    (hcd : (x == ("__classdict__" : Str)) = false := by decide) : SE X W (.Name x pos) (eVar i) := by
  refine pe_imp (pe_var hN hv hd hcd) fun σ H Q h => ?_
  obtain ⟨ad, xs, env, μ, sr, w, p⟩ := h
  unfold eVar at p
  cases he : env[i]? with
  | none => rw [he] at p; exact p.elim
  | some o =>
    cases o with
    | none => rw [he] at p; exact p.elim
    | some d =>
      rw [he] at p
      obtain ⟨v, h1, h2⟩ := sr.at_ i d he
      exact ⟨v, h1, p.ok w v h2⟩
theorem se_of_c {e : Expr} {v : V} {d : PyData} (h : PE X e (tC v)) (l : ∀ H, Ly X.K H v d) : SE X W e (eC d) := by
  refine pe_imp h fun σ H Q h => ?_
  obtain ⟨ad, xs, env, μ, sr, w, p⟩ := h
  exact p.ok w v (l _)
theorem se_int {i : Int} {j : Nat} {pos : Pos} : SE X W (.Constant (.int i) j pos) (eC (.int i)) := se_of_c pe_int fun _ => .int i
theorem se_bl {b : Bool} {j : Nat} {pos : Pos} : SE X W (.Constant (.bool b) j pos) (eC (.bool b)) := se_of_c pe_bl fun _ => .bl b
theorem se_non {j : Nat} {pos : Pos} : SE X W (.Constant .none j pos) (eC .none) := se_of_c pe_non fun _ => .non
theorem se_str {x : Str} {j : Nat} {pos : Pos} : SE X W (.Constant (.str x) j pos) (eC (.str x)) := se_of_c pe_str fun _ => .str x
/-- a constant of the module -/
theorem se_glob {x : Str} {v : V} {u : Value} {d : PyData} {pos : Pos} (hg : Gl X x) (hm : X.mg x = some u) (r : RelV v u) (l : ∀ H, Ly X.K H v d) (hd : (x == ("__debug__" : Str)) = false := by decide) : SE X W (.Name x pos) (eC d) := se_of_c (pe_glob hg hm r hd) l
end

/-! ### lists that are made -/
def eFrz (ev : EvF) : EvE := fun env μ => (ev env μ).bind fun p => .ok (.pd (.list p.1), p.2)
def eOwn (ev : EvF) : EvE := fun env μ => (ev env μ).bind fun p => .ok (.ref p.2.length, p.2 ++ [.lst p.1])
section
variable {X : Cx} {W : Wish} {e : Expr} {ev : EvF}
theorem se_frz (h : SF X W e ev) : SE X W e (eFrz ev) := by
  refine pe_imp h fun σ H Q h => ?_
  obtain ⟨ad, xs, env, μ, sr, w, p⟩ := h
  refine ⟨ad, xs, env, μ, sr, w, p.bind.mono fun ds H1 ad1 μ1 e1 w1 q r vs hp l => ?_⟩
  obtain ⟨w2, e2, i2⟩ := w1.new (o := .lst vs) hp
  exact q.ok_at e2 w2 _ (.lst i2 (LyAll.grow e2.same l))
theorem se_own (h : SF X W e ev) : SE X W e (eOwn ev) := by
  refine pe_imp h fun σ H Q h => ?_
  obtain ⟨ad, xs, env, μ, sr, w, p⟩ := h
  refine ⟨ad, xs, env, μ, sr, w, p.bind.mono fun ds H1 ad1 μ1 e1 w1 q r vs hp l => ?_⟩
  have es : Same (Im H1 ad1 xs) (Im (upd H1 r (.lst vs)) (ad1 ++ [r]) xs) := fun a u e => by
    obtain ⟨x1, x2, x3⟩ := Im_some e
    have ne : a ≠ r := ne_of_none x3 hp
    exact Im_of (by simp [x1, ne]) x2 ((upd_ne ne).trans x3)
  obtain ⟨w2, e2⟩ := w1.alloc (o := .lst vs) (c := .lst ds) hp ⟨vs, upd_same, LyAll.grow es l⟩
  exact q.ok_at e2 w2 _ ⟨r, by rw [← w1.len]; simp, rfl⟩
end

/-! ### operators by values -/
/-- a rule's answer: new things may lie, nothing changes -/
def Ans (K : PySem.W.Frag) (xs : List Addr) (H : Hp) (ad : List Addr) (μ : Store) (d : PyData) (Q : VK) : Prop :=
  ∀ H' v, Ext H ad xs H' ad → WOk K H' ad xs μ → Ly K (Im H' ad xs) v d → Q v H'
section
variable {K : PySem.W.Frag} {xs ad : List Addr} {H : Hp} {μ : Store} {d : PyData} {Q : VK} {v : V}
theorem Ans.same (h : Ans K xs H ad μ d Q) (w : WOk K H ad xs μ) (l : Ly K (Im H ad xs) v d) : Q v H := h H v Ext.refl w l
theorem Ans.mk_tup (h : Ans K xs H ad μ (.tuple ds) Q) (w : WOk K H ad xs μ) {vs : List V} (l : LyAll K (Im H ad xs) vs ds) {p : Addr} (hp : H p = none) : Q (.ref p) (upd H p (.tup vs)) := by
  obtain ⟨w2, e2, i2⟩ := w.new (o := .tup vs) hp
  exact h _ _ e2 w2 (.tup (SqT.of i2) (LyAll.grow e2.same l))
theorem Ans.mk_lst (h : Ans K xs H ad μ (.list ds) Q) (w : WOk K H ad xs μ) {vs : List V} (l : LyAll K (Im H ad xs) vs ds) {p : Addr} (hp : H p = none) : Q (.ref p) (upd H p (.lst vs)) := by
  obtain ⟨w2, e2, i2⟩ := w.new (o := .lst vs) hp
  exact h _ _ e2 w2 (.lst i2 (LyAll.grow e2.same l))
end
abbrev F2 := PyData → PyData → Option PyData
abbrev G2 := PyData → PyData → Option (List PyData)
/-- the rule r answers as f says -/
def R2Ok (K : PySem.W.Frag) (r : R2) (f : F2) : Prop := ∀ (H : Hp) (ad xs : List Addr) (μ : Store) (x y : V) (a b c : PyData) (Q : VK), WOk K H ad xs μ → Mo K H ad xs x a → Mo K H ad xs y b → f a b = some c → Ans K xs H ad μ c Q → r x y H Q
/-- .. makes a list -/
def R2New (K : PySem.W.Frag) (r : R2) (f : G2) : Prop := ∀ (H : Hp) (ad xs : List Addr) (μ : Store) (x y : V) (a b : PyData) (c : List PyData) (Q : VK), WOk K H ad xs μ → Mo K H ad xs x a → Mo K H ad xs y b → f a b = some c →
  (∀ p vs, H p = none → LyAll K (Im H ad xs) vs c → Q (.ref p) (upd H p (.lst vs))) → r x y H Q
def eOp2 (f : F2) (ea eb : EvE) : EvE := fun env μ => (ea env μ).bind fun p => (eb env p.2).bind fun q =>
  match deref q.2 p.1, deref q.2 q.1 with
  | some a, some b => match f a b with
    | some c => .ok (.pd c, q.2)
    | none => .stuck
  | _, _ => .stuck
def eNew2 (f : G2) (ea eb : EvE) : EvF := fun env μ => (ea env μ).bind fun p => (eb env p.2).bind fun q =>
  match deref q.2 p.1, deref q.2 q.1 with
  | some a, some b => match f a b with
    | some c => .ok (c, q.2)
    | none => .stuck
  | _, _ => .stuck
section
variable {X : Cx} {W : Wish} {a b : Expr} {ea eb : EvE} {pos : Pos} {r : R2} {f : F2} {g : G2}
theorem op2_core (hf : R2Ok X.K r f) {σ : L2.St} {H : Hp} {Q : VK} (h : tD X.K W (eOp2 f ea eb) σ H Q) : tOp r (tD X.K W ea) (tD X.K W eb) σ H Q := by
  obtain ⟨ad, xs, env, μ, sr, w, p⟩ := h
  refine ⟨ad, xs, env, μ, sr, w, p.bind.mono fun d1 H1 ad1 μ1 e1 w1 p1 v1 r1 => ?_⟩
  refine ⟨ad1, xs, env, μ1, sr.ext e1, w1, p1.bind.mono fun d2 H2 ad2 μ2 e2 w2 p2 v2 r2 => ?_⟩
  dsimp only at p2
  cases h1 : deref μ2 d1 with
  | none => rw [h1] at p2; exact p2.elim
  | some a =>
    cases h2 : deref μ2 d2 with
    | none => rw [h1, h2] at p2; exact p2.elim
    | some b =>
      rw [h1, h2] at p2
      dsimp only at p2
      cases h3 : f a b with
      | none => rw [h3] at p2; exact p2.elim
      | some c =>
        rw [h3] at p2
        exact hf H2 ad2 xs μ2 v1 v2 a b c Q w2 (w2.mo (r1.ext e2) h1) (w2.mo r2 h2) h3 fun H' v e w' l => p2.ok_at e w' v l
theorem new2_core (hf : R2New X.K r g) {σ : L2.St} {H : Hp} {Q : VK} (h : tDF X.K W (eNew2 g ea eb) σ H Q) : tOp r (tD X.K W ea) (tD X.K W eb) σ H Q := by
  obtain ⟨ad, xs, env, μ, sr, w, p⟩ := h
  refine ⟨ad, xs, env, μ, sr, w, p.bind.mono fun d1 H1 ad1 μ1 e1 w1 p1 v1 r1 => ?_⟩
  refine ⟨ad1, xs, env, μ1, sr.ext e1, w1, p1.bind.mono fun d2 H2 ad2 μ2 e2 w2 p2 v2 r2 => ?_⟩
  dsimp only at p2
  cases h1 : deref μ2 d1 with
  | none => rw [h1] at p2; exact p2.elim
  | some a =>
    cases h2 : deref μ2 d2 with
    | none => rw [h1, h2] at p2; exact p2.elim
    | some b =>
      rw [h1, h2] at p2
      dsimp only at p2
      cases h3 : g a b with
      | none => rw [h3] at p2; exact p2.elim
      | some c =>
        rw [h3] at p2
        exact hf H2 ad2 xs μ2 v1 v2 a b c Q w2 (w2.mo (r1.ext e2) h1) (w2.mo r2 h2) h3 fun p vs hp l => p2.ok w2 p vs hp l
theorem se_op2 {op : Operator} (ho : OpR X (binaryOp op) r) (hf : R2Ok X.K r f) (ha : SE X W a ea) (hb : SE X W b eb) : SE X W (.BinOp a op b pos) (eOp2 f ea eb) :=
  pe_imp (pe_op ho ha hb) fun _ _ _ h => op2_core hf h
theorem sf_op2 {op : Operator} (ho : OpR X (binaryOp op) r) (hf : R2New X.K r g) (ha : SE X W a ea) (hb : SE X W b eb) : SF X W (.BinOp a op b pos) (eNew2 g ea eb) :=
  pe_imp (pe_op ho ha hb) fun _ _ _ h => new2_core hf h
theorem se_cmp2 {op : CmpOp} (ho : OpR X (compareOp op) r) (hf : R2Ok X.K r f) (hm : behindInMarks op b = false) (ha : SE X W a ea) (hb : SE X W b eb) : SE X W (.Compare a [op] [b] pos) (eOp2 f ea eb) :=
  pe_imp (pe_cmpR ho ha hb hm) fun _ _ _ h => op2_core hf h
/-- a value that is a bool, as a test -/
def eTst (ev : EvE) : EvT := fun env μ => (ev env μ).bind fun p => match p.1 with
  | .pd (.bool b) => .ok (b, p.2)
  | _ => .stuck
theorem tst_core {ev : EvE} {σ : L2.St} {H : Hp} {Q : Bool → Hp → Prop} (h : tDT X.K W (eTst ev) σ H Q) : tD X.K W ev σ H fun x H' => ∃ k, x = .bl k ∧ Q k H' := by
  obtain ⟨ad, xs, env, μ, sr, w, p⟩ := h
  refine ⟨ad, xs, env, μ, sr, w, p.bind.mono fun d H1 ad1 μ1 e1 w1 q v r => ?_⟩
  dsimp only at q
  cases d with
  | pd d =>
    cases d with
    | bool b =>
      cases r
      exact ⟨b, rfl, q.ok w1⟩
    | _ => exact q.elim
  | _ => exact q.elim
theorem st_cmp2 {op : CmpOp} (ho : OpR X (compareOp op) r) (hf : R2Ok X.K r f) (hm : behindInMarks op b = false) (ha : SE X W a ea) (hb : SE X W b eb) : ST X W (.Compare a [op] [b] pos) (eTst (eOp2 f ea eb)) := by
  refine pt_imp (pt_cmpR ho ha hb hm) fun σ H Q h => ?_
  have h2 := tst_core h
  exact op2_core hf h2
/-- any expression but and, or, not, a comparison -/
theorem st_val {e : Expr} {ev : EvE} (he : SE X W e ev) (hw : ∀ whole, isTrue e X.env whole = (do let v ← whole; standAt e.pos; holding [v] (truthy v)) := by intro _; rfl) : ST X W e (eTst ev) :=
  pt_imp (pt_val he hw) fun _ _ _ h => tst_core h
end

/-! ### the operators -/
section
variable {X : Cx} {K : PySem.W.Frag}
theorem R2Ok.or {r r' : R2} {f f' : F2} (h : R2Ok K r f) (h' : R2Ok K r' f') : R2Ok K (fun x y H Q => r x y H Q ∨ r' x y H Q) (fun a b => (f a b).or (f' a b)) := fun H ad xs μ x y a b c Q w m n e q => by
  cases hf : f a b with
  | some d =>
    dsimp only at e
    rw [hf] at e
    exact .inl (h H ad xs μ x y a b c Q w m n (hf.trans e) q)
  | none =>
    dsimp only at e
    rw [hf] at e
    exact .inr (h' H ad xs μ x y a b c Q w m n e q)
/-- ints to a value without a place -/
def fI (g : Int → Int → PyData) : F2
  | .int i, .int j => some (g i j)
  | _, _ => none
theorem r2_I {gv : Int → Int → V} {g : Int → Int → PyData} (l : ∀ i j H, Ly K H (gv i j) (g i j)) : R2Ok K (rI0 gv) (fI g) := fun H ad xs μ x y a b c Q w m n e q => by
  unfold fI at e
  split at e
  · rename_i i j
    cases e
    exact ⟨i, j, m.int, n.int, q.same w (l _ _ _)⟩
  · cases e
def fIc (C : Int → Int → Prop) [∀ i j, Decidable (C i j)] (g : Int → Int → PyData) : F2
  | .int i, .int j => if C i j then some (g i j) else none
  | _, _ => none
theorem r2_Ic {C : Int → Int → Prop} [∀ i j, Decidable (C i j)] {gv : Int → Int → V} {g : Int → Int → PyData} (l : ∀ i j H, Ly K H (gv i j) (g i j)) : R2Ok K (rI C gv) (fIc C g) := fun H ad xs μ x y a b c Q w m n e q => by
  unfold fIc at e
  split at e
  · rename_i i j
    split at e
    · rename_i hc
      cases e
      exact ⟨i, j, m.int, n.int, hc, q.same w (l _ _ _)⟩
    · cases e
  · cases e
instance (i j : Int) : Decidable (CMulW i j) := inferInstanceAs (Decidable (_ < _))
instance (i j : Int) : Decidable (CDivW i j) := inferInstanceAs (Decidable (_ ∧ _))
instance (i j : Int) : Decidable (CPow i j) := inferInstanceAs (Decidable (_ ∧ _ ∧ _))
def fAddI : F2 := fI fun i j => .int (i + j)
def fSub : F2 := fI fun i j => .int (i - j)
def fMulI : F2 := fIc CMulW fun i j => .int (i * j)
def fDiv : F2 := fIc CDivW fun i j => .int (i / j)
def fMod : F2 := fIc (fun _ j => 0 < j) fun i j => .int (i % j)
def fPow : F2 := fIc CPow fun i j => .int (i ^ j.toNat)
/-- the sum of tuples; a list made of two -/
def fAddT : F2
  | .tuple xs, .tuple ys => if xs.length + ys.length ≤ sizeLine then some (.tuple (xs ++ ys)) else none
  | _, _ => none
def fAddS : F2
  | .str x, .str y => if x.length + y.length ≤ sizeLine then some (.str (x ++ y)) else none
  | _, _ => none
def gAdd : G2
  | .list xs, .list ys => if xs.length + ys.length ≤ sizeLine then some (xs ++ ys) else none
  | _, _ => none
def gMul : G2
  | .list xs, .int k => if -(2 ^ 63) ≤ k ∧ k < 2 ^ 63 ∧ xs.length * k.toNat ≤ sizeLine then some (List.replicate k.toNat xs).flatten else none
  | _, _ => none
theorem Mo.ly_tuple {H : Hp} {ad xs : List Addr} {v : V} {ds : List PyData} (h : Mo K H ad xs v (.tuple ds)) : Ly K (Im H ad xs) v (.tuple ds) := by
  rcases h with h | ⟨a, vs, es, rfl, e0, e, q⟩
  · exact h
  · cases e0
theorem r2_addT : R2Ok K (rCatA K) fAddT := fun H ad xs μ x y a b c Q w m n e q => by
  unfold fAddT at e
  split at e
  · rename_i as bs
    split at e
    · rename_i hz
      cases e
      have y1 := Mo.ly_tuple m
      have y2 := Mo.ly_tuple n
      obtain ⟨a1, v1, rfl, s1, l1⟩ := m.tuple
      obtain ⟨a2, v2, rfl, s2, l2⟩ := n.tuple
      have n1 := LyAll.length l1
      have n2 := LyAll.length l2
      refine ⟨a1, a2, v1, v2, rfl, rfl, s1, s2, by omega, fun h => ?_, fun _ h => ?_, fun _ _ p hp => q.mk_tup w (LyAll.append l1 l2) hp⟩
      · subst h
        have : as = [] := List.eq_nil_of_length_eq_zero n1.symm
        subst this
        exact q.same w y2
      · subst h
        have : bs = [] := List.eq_nil_of_length_eq_zero n2.symm
        subst this
        exact q.same w (by simpa using y1)
    · cases e
  · cases e
def rCatS : R2 := fun x y H Q => ∃ i j, x = .str i ∧ y = .str j ∧ i.length + j.length ≤ sizeLine ∧ Q (.str (i ++ j)) H
theorem r2_addS : R2Ok K rCatS fAddS := fun H ad xs μ x y a b c Q w m n e q => by
  unfold fAddS at e
  split at e
  · split at e
    · rename_i hz
      cases e
      exact ⟨_, _, m.str, n.str, hz, q.same w (.str _)⟩
    · cases e
  · cases e
def fAddL : F2 := fun a b => (gAdd a b).map .list
theorem r2_addL : R2Ok K rCat fAddL := fun H ad xs μ x y a b c Q w m n e q => by
  unfold fAddL gAdd at e
  split at e
  · split at e
    · rename_i hz
      cases e
      obtain ⟨a1, v1, rfl, s1, l1⟩ := m.list
      obtain ⟨a2, v2, rfl, s2, l2⟩ := n.list
      have n1 := LyAll.length l1
      have n2 := LyAll.length l2
      exact ⟨a1, a2, v1, v2, rfl, rfl, s1, s2, by omega, fun p hp => q.mk_lst w (LyAll.append l1 l2) hp⟩
    · cases e
  · cases e
theorem rn_addL : R2New K rCat gAdd := fun H ad xs μ x y a b c Q w m n e q => by
  unfold gAdd at e
  split at e
  · split at e
    · rename_i hz
      cases e
      obtain ⟨a1, v1, rfl, s1, l1⟩ := m.list
      obtain ⟨a2, v2, rfl, s2, l2⟩ := n.list
      have n1 := LyAll.length l1
      have n2 := LyAll.length l2
      exact ⟨a1, a2, v1, v2, rfl, rfl, s1, s2, by omega, fun p hp => q p _ hp (LyAll.append l1 l2)⟩
    · cases e
  · cases e
theorem LyAll.rep {H : Hp} {vs : List V} {ds : List PyData} (h : LyAll K H vs ds) : ∀ k : Nat, LyAll K H (List.replicate k vs).flatten (List.replicate k ds).flatten
  | 0 => by simpa using LyAll.nil
  | k + 1 => by
    rw [List.replicate_succ, List.replicate_succ, List.flatten_cons, List.flatten_cons]
    exact LyAll.append h (LyAll.rep h k)
theorem rn_mulL : R2New K rRep gMul := fun H ad xs μ x y a b c Q w m n e q => by
  unfold gMul at e
  split at e
  · split at e
    · rename_i hz
      cases e
      obtain ⟨a1, v1, rfl, s1, l1⟩ := m.list
      have n1 := LyAll.length l1
      exact ⟨a1, _, v1, rfl, n.int, s1, hz.1, hz.2.1, by rw [n1]; exact hz.2.2, fun p hp => q p _ hp (LyAll.rep l1 _)⟩
    · cases e
  · cases e
/-- + of ints, tuples, texts, lists -/
def fAdd : F2 := fun a b => (fAddI a b).or ((fAddT a b).or ((fAddS a b).or (fAddL a b)))
def rAdd4 (K : PySem.W.Frag) : R2 := fun x y H Q => rI0 (fun i j => .int (i + j)) x y H Q ∨ (rCatA K x y H Q ∨ (rCatS x y H Q ∨ rCat x y H Q))
theorem op_add4 : OpR X (binaryOp .Add) (rAdd4 X.K) := OpR.or op_add (OpR.or op_catA (OpR.or op_add_str op_cat))
theorem r2_add4 : R2Ok K (rAdd4 K) fAdd := R2Ok.or (r2_I fun _ _ _ => .int _) (R2Ok.or r2_addT (R2Ok.or r2_addS r2_addL))
/-- // and % as Python has them -/
def CDivZ (_ j : Int) : Prop := j ≠ 0 ∧ j.natAbs.log2 < 9000
instance (i j : Int) : Decidable (CDivZ i j) := inferInstanceAs (Decidable (_ ∧ _))
theorem op_fdivZ : OpR X (binaryOp .FloorDiv) (rI CDivZ fun i j => .int (i.fdiv j)) := opI fun _ _ _ _ _ _ _ hc q => floordiv_int hc.1 q (.inl (PyProof.noPylong_of_log2 hc.2))
def fDivZ : F2 := fIc CDivZ fun i j => .int (i.fdiv j)
def fModZ : F2 := fIc (fun _ j => j ≠ 0) fun i j => .int (i.fmod j)
end
section
variable {X : Cx} {W : Wish} {a b : Expr} {ea eb : EvE} {pos : Pos}
abbrev eAdd : EvE → EvE → EvE := eOp2 fAdd
abbrev eSub : EvE → EvE → EvE := eOp2 fSub
abbrev eMul : EvE → EvE → EvE := eOp2 fMulI
abbrev eDiv : EvE → EvE → EvE := eOp2 fDivZ
abbrev eMod : EvE → EvE → EvE := eOp2 fModZ
abbrev ePow : EvE → EvE → EvE := eOp2 fPow
theorem se_add (ha : SE X W a ea) (hb : SE X W b eb) : SE X W (.BinOp a .Add b pos) (eAdd ea eb) := se_op2 op_add4 r2_add4 ha hb
theorem se_sub (ha : SE X W a ea) (hb : SE X W b eb) : SE X W (.BinOp a .Sub b pos) (eSub ea eb) := se_op2 op_sub (r2_I fun _ _ _ => .int _) ha hb
theorem se_mul (ha : SE X W a ea) (hb : SE X W b eb) : SE X W (.BinOp a .Mult b pos) (eMul ea eb) := se_op2 op_mulW (r2_Ic fun _ _ _ => .int _) ha hb
theorem se_div (ha : SE X W a ea) (hb : SE X W b eb) : SE X W (.BinOp a .FloorDiv b pos) (eDiv ea eb) := se_op2 op_fdivZ (r2_Ic fun _ _ _ => .int _) ha hb
theorem se_mod (ha : SE X W a ea) (hb : SE X W b eb) : SE X W (.BinOp a .Mod b pos) (eMod ea eb) := se_op2 op_modN (r2_Ic fun _ _ _ => .int _) ha hb
theorem se_pow (ha : SE X W a ea) (hb : SE X W b eb) : SE X W (.BinOp a .Pow b pos) (ePow ea eb) := se_op2 op_pow (r2_Ic fun _ _ _ => .int _) ha hb
theorem sf_add (ha : SE X W a ea) (hb : SE X W b eb) : SF X W (.BinOp a .Add b pos) (eNew2 gAdd ea eb) := sf_op2 op_cat rn_addL ha hb
theorem sf_mul (ha : SE X W a ea) (hb : SE X W b eb) : SF X W (.BinOp a .Mult b pos) (eNew2 gMul ea eb) := sf_op2 op_rep rn_mulL ha hb
/-- comparisons of ints -/
def fLt : F2 := fI fun i j => .bool (decide (i < j))
def fLe : F2 := fI fun i j => .bool (decide (i ≤ j))
def fGt : F2 := fI fun i j => .bool (decide (j < i))
def fGe : F2 := fI fun i j => .bool (decide (j ≤ i))
theorem r2_lt {K : PySem.W.Frag} : R2Ok K (rI0 fun i j => .bl (decide (i < j))) fLt := r2_I fun _ _ _ => .bl _
theorem r2_le {K : PySem.W.Frag} : R2Ok K (rI0 fun i j => .bl (decide (i ≤ j))) fLe := r2_I fun _ _ _ => .bl _
theorem r2_gt {K : PySem.W.Frag} : R2Ok K (rI0 fun i j => .bl (decide (j < i))) fGt := r2_I fun _ _ _ => .bl _
theorem r2_ge {K : PySem.W.Frag} : R2Ok K (rI0 fun i j => .bl (decide (j ≤ i))) fGe := r2_I fun _ _ _ => .bl _
theorem se_lt (ha : SE X W a ea) (hb : SE X W b eb) : SE X W (.Compare a [.Lt] [b] pos) (eOp2 fLt ea eb) := se_cmp2 op_lt r2_lt (nomark _) ha hb
theorem se_le (ha : SE X W a ea) (hb : SE X W b eb) : SE X W (.Compare a [.LtE] [b] pos) (eOp2 fLe ea eb) := se_cmp2 op_le r2_le (nomark _) ha hb
theorem se_gt (ha : SE X W a ea) (hb : SE X W b eb) : SE X W (.Compare a [.Gt] [b] pos) (eOp2 fGt ea eb) := se_cmp2 op_gt r2_gt (nomark _) ha hb
theorem se_ge (ha : SE X W a ea) (hb : SE X W b eb) : SE X W (.Compare a [.GtE] [b] pos) (eOp2 fGe ea eb) := se_cmp2 op_ge r2_ge (nomark _) ha hb
theorem st_lt (ha : SE X W a ea) (hb : SE X W b eb) : ST X W (.Compare a [.Lt] [b] pos) (eTst (eOp2 fLt ea eb)) := st_cmp2 op_lt r2_lt (nomark _) ha hb
theorem st_le (ha : SE X W a ea) (hb : SE X W b eb) : ST X W (.Compare a [.LtE] [b] pos) (eTst (eOp2 fLe ea eb)) := st_cmp2 op_le r2_le (nomark _) ha hb
theorem st_gt (ha : SE X W a ea) (hb : SE X W b eb) : ST X W (.Compare a [.Gt] [b] pos) (eTst (eOp2 fGt ea eb)) := st_cmp2 op_gt r2_gt (nomark _) ha hb
theorem st_ge (ha : SE X W a ea) (hb : SE X W b eb) : ST X W (.Compare a [.GtE] [b] pos) (eTst (eOp2 fGe ea eb)) := st_cmp2 op_ge r2_ge (nomark _) ha hb
/-- == and != of data -/
def fEqD : F2 := fun a b => if SeqAt.shaped a = true ∧ SeqAt.shaped b = true then some (.bool (PyData.eqv a b)) else none
def fNeD : F2 := fun a b => if SeqAt.shaped a = true ∧ SeqAt.shaped b = true then some (.bool (!PyData.eqv a b)) else none
def fEqS : F2
  | .str x, .str y => some (.bool (decide (x = y)))
  | _, _ => none
def fNeS : F2
  | .str x, .str y => some (.bool (!decide (x = y)))
  | _, _ => none
def fEq : F2 := fun a b => (fEqS a b).or (fEqD a b)
def fNe : F2 := fun a b => (fNeS a b).or (fNeD a b)
theorem r2_eqS {K : PySem.W.Frag} : R2Ok K rEq fEqS := fun H ad xs μ x y a b c Q w m n e q => by
  unfold fEqS at e
  split at e
  · rename_i z u
    cases e
    rw [m.str, n.str]
    have ee : decide (V.str z = V.str u) = decide (z = u) := by
      by_cases h : z = u
      · subst h; simp
      · have : V.str z ≠ V.str u := fun k => h (V.str.inj k)
        simp [h]
    refine ⟨rfl, ?_⟩
    rw [ee]
    exact q.same w (.bl _)
  · cases e
theorem r2_neS {K : PySem.W.Frag} : R2Ok K rNe fNeS := fun H ad xs μ x y a b c Q w m n e q => by
  unfold fNeS at e
  split at e
  · rename_i z u
    cases e
    rw [m.str, n.str]
    have ee : decide (V.str z = V.str u) = decide (z = u) := by
      by_cases h : z = u
      · subst h; simp
      · have : V.str z ≠ V.str u := fun k => h (V.str.inj k)
        simp [h]
    refine ⟨rfl, ?_⟩
    rw [ee]
    exact q.same w (.bl _)
  · cases e
theorem r2_eqD {K : PySem.W.Frag} : R2Ok K (rEqD K) fEqD := fun H ad xs μ x y a b c Q w m n e q => by
  unfold fEqD at e
  split at e
  · rename_i h
    cases e
    exact ⟨a, b, m.dp, n.dp, h.1, h.2, q.same w (.bl _)⟩
  · cases e
theorem r2_neD {K : PySem.W.Frag} : R2Ok K (rNeD K) fNeD := fun H ad xs μ x y a b c Q w m n e q => by
  unfold fNeD at e
  split at e
  · rename_i h
    cases e
    exact ⟨a, b, m.dp, n.dp, h.1, h.2, q.same w (.bl _)⟩
  · cases e
def rEq2 (K : PySem.W.Frag) : R2 := fun x y H Q => rEq x y H Q ∨ rEqD K x y H Q
def rNe2 (K : PySem.W.Frag) : R2 := fun x y H Q => rNe x y H Q ∨ rNeD K x y H Q
theorem op_eq2 {X : Cx} (hu : X.A.units + 64 < cLine) : OpR X (compareOp .Eq) (rEq2 X.K) := OpR.or op_eq (op_eqD hu)
theorem op_ne2 {X : Cx} (hu : X.A.units + 64 < cLine) : OpR X (compareOp .NotEq) (rNe2 X.K) := OpR.or op_ne (op_neD hu)
theorem r2_eq {K : PySem.W.Frag} : R2Ok K (rEq2 K) fEq := R2Ok.or r2_eqS r2_eqD
theorem r2_ne {K : PySem.W.Frag} : R2Ok K (rNe2 K) fNe := R2Ok.or r2_neS r2_neD
theorem se_eq (hu : X.A.units + 64 < cLine) (ha : SE X W a ea) (hb : SE X W b eb) : SE X W (.Compare a [.Eq] [b] pos) (eOp2 fEq ea eb) := se_cmp2 (op_eq2 hu) r2_eq (nomark _) ha hb
theorem se_ne (hu : X.A.units + 64 < cLine) (ha : SE X W a ea) (hb : SE X W b eb) : SE X W (.Compare a [.NotEq] [b] pos) (eOp2 fNe ea eb) := se_cmp2 (op_ne2 hu) r2_ne (nomark _) ha hb
theorem st_eq (hu : X.A.units + 64 < cLine) (ha : SE X W a ea) (hb : SE X W b eb) : ST X W (.Compare a [.Eq] [b] pos) (eTst (eOp2 fEq ea eb)) := st_cmp2 (op_eq2 hu) r2_eq (nomark _) ha hb
theorem st_ne (hu : X.A.units + 64 < cLine) (ha : SE X W a ea) (hb : SE X W b eb) : ST X W (.Compare a [.NotEq] [b] pos) (eTst (eOp2 fNe ea eb)) := st_cmp2 (op_ne2 hu) r2_ne (nomark _) ha hb
end

/-! ### is None -/
def isNoneB : PyData → Bool
  | .none => true
  | _ => false
def eIsN (ea : EvE) : EvE := fun env μ => (ea env μ).bind fun p => match p.1 with
  | .pd d => .ok (.pd (.bool (isNoneB d)), p.2)
  | _ => .ok (.pd (.bool false), p.2)
def eNotN (ea : EvE) : EvE := fun env μ => (ea env μ).bind fun p => match p.1 with
  | .pd d => .ok (.pd (.bool (!isNoneB d)), p.2)
  | _ => .ok (.pd (.bool true), p.2)
theorem Ly.isNone {K : PySem.W.Frag} {H : Hp} {v : V} {d : PyData} (h : Ly K H v d) : decide (v = .non) = isNoneB d := by
  cases h <;> rfl
section
variable {X : Cx} {W : Wish} {a : Expr} {ea : EvE} {pos : Pos} {j : Nat} {pos' : Pos}
theorem isN_core {σ : L2.St} {H : Hp} {Q : VK} (h : tD X.K W (eIsN ea) σ H Q) : tIsN (tD X.K W ea) σ H Q := by
  obtain ⟨ad, xs, env, μ, sr, w, p⟩ := h
  refine ⟨ad, xs, env, μ, sr, w, p.bind.mono fun d H1 ad1 μ1 e1 w1 q v r => ?_⟩
  dsimp only at q
  cases d with
  | pd d =>
    have e := Ly.isNone r
    rw [e]
    exact q.ok w1 _ (.bl _)
  | ref l =>
    obtain ⟨a, _, rfl⟩ := r
    exact q.ok w1 _ (.bl _)
  | scr ns =>
    obtain ⟨a, rfl, _⟩ := r
    exact q.ok w1 _ (.bl _)
theorem notN_core {σ : L2.St} {H : Hp} {Q : VK} (h : tD X.K W (eNotN ea) σ H Q) : tNotN (tD X.K W ea) σ H Q := by
  obtain ⟨ad, xs, env, μ, sr, w, p⟩ := h
  refine ⟨ad, xs, env, μ, sr, w, p.bind.mono fun d H1 ad1 μ1 e1 w1 q v r => ?_⟩
  dsimp only at q
  cases d with
  | pd d =>
    have e := Ly.isNone r
    rw [e]
    exact q.ok w1 _ (.bl _)
  | ref l =>
    obtain ⟨a, _, rfl⟩ := r
    exact q.ok w1 _ (.bl _)
  | scr ns =>
    obtain ⟨a, rfl, _⟩ := r
    exact q.ok w1 _ (.bl _)
theorem se_isN (ha : SE X W a ea) : SE X W (.Compare a [.Is] [.Constant .none j pos'] pos) (eIsN ea) := pe_imp (pe_cmp (pc_isN ha)) fun _ _ _ h => isN_core h
theorem se_notN (ha : SE X W a ea) : SE X W (.Compare a [.IsNot] [.Constant .none j pos'] pos) (eNotN ea) := pe_imp (pe_cmp (pc_notN ha)) fun _ _ _ h => notN_core h
theorem st_isN (ha : SE X W a ea) : ST X W (.Compare a [.Is] [.Constant .none j pos'] pos) (eTst (eIsN ea)) := pt_imp (pt_cmp (pc_isN ha)) fun _ _ _ h => isN_core (tst_core h)
theorem st_notN (ha : SE X W a ea) : ST X W (.Compare a [.IsNot] [.Constant .none j pos'] pos) (eTst (eNotN ea)) := pt_imp (pt_cmp (pc_notN ha)) fun _ _ _ h => notN_core (tst_core h)
end

/-! ### and, or, not, if else -/
def eAndT (ea eb : EvT) : EvT := fun env μ => (ea env μ).bind fun p => if p.1 = true then eb env p.2 else .ok (false, p.2)
def eOrT (ea eb : EvT) : EvT := fun env μ => (ea env μ).bind fun p => if p.1 = true then .ok (true, p.2) else eb env p.2
def eNotT (ea : EvT) : EvT := fun env μ => (ea env μ).bind fun p => .ok (!p.1, p.2)
def eOfT (ea : EvT) : EvE := fun env μ => (ea env μ).bind fun p => .ok (.pd (.bool p.1), p.2)
def eIf (ec : EvT) (ea eb : EvE) : EvE := fun env μ => (ec env μ).bind fun p => if p.1 = true then ea env p.2 else eb env p.2
section
variable {X : Cx} {W : Wish} {a b c : Expr} {rest : List Expr} {ta tb : EvT} {ea eb : EvE} {pos : Pos}
theorem SW.st (h : SW X W a ta) : ST X W a ta := PW.pt h
theorem sw_and1 (ha : ST X W a ta) : SW X W (.BoolOp .And [a] pos) ta := pw_and1 ha
theorem sw_or1 (ha : ST X W a ta) : SW X W (.BoolOp .Or [a] pos) ta := pw_or1 ha
theorem sw_and (ha : ST X W a ta) (hb : SW X W (.BoolOp .And (b :: rest) pos) tb) : SW X W (.BoolOp .And (a :: b :: rest) pos) (eAndT ta tb) := by
  refine pw_imp (pw_and ha hb) fun σ H Q h => ?_
  obtain ⟨ad, xs, env, μ, sr, w, p⟩ := h
  refine ⟨ad, xs, env, μ, sr, w, p.bind.mono fun d H1 ad1 μ1 e1 w1 q => ?_⟩
  dsimp only at q
  cases d with
  | true => exact ⟨ad1, xs, env, μ1, sr.ext e1, w1, q⟩
  | false => exact q.ok w1
theorem sw_or (ha : ST X W a ta) (hb : SW X W (.BoolOp .Or (b :: rest) pos) tb) : SW X W (.BoolOp .Or (a :: b :: rest) pos) (eOrT ta tb) := by
  refine pw_imp (pw_or ha hb) fun σ H Q h => ?_
  obtain ⟨ad, xs, env, μ, sr, w, p⟩ := h
  refine ⟨ad, xs, env, μ, sr, w, p.bind.mono fun d H1 ad1 μ1 e1 w1 q => ?_⟩
  dsimp only at q
  cases d with
  | false => exact ⟨ad1, xs, env, μ1, sr.ext e1, w1, q⟩
  | true => exact q.ok w1
theorem st_not (ha : ST X W a ta) : ST X W (.UnaryOp .Not a pos) (eNotT ta) := by
  refine pt_imp (pt_not ha) fun σ H Q h => ?_
  obtain ⟨ad, xs, env, μ, sr, w, p⟩ := h
  exact ⟨ad, xs, env, μ, sr, w, p.bind.mono fun d H1 ad1 μ1 e1 w1 q => q.ok w1⟩
/-- .. as values: each part a bool -/
def eAndV (ea eb : EvE) : EvE := fun env μ => (ea env μ).bind fun p => match p.1 with
  | .pd (.bool b) => if b = true then eb env p.2 else .ok (.pd (.bool false), p.2)
  | _ => .stuck
def eOrV (ea eb : EvE) : EvE := fun env μ => (ea env μ).bind fun p => match p.1 with
  | .pd (.bool b) => if b = true then .ok (.pd (.bool true), p.2) else eb env p.2
  | _ => .stuck
def eNotV (ea : EvE) : EvE := fun env μ => (ea env μ).bind fun p => match p.1 with
  | .pd (.bool b) => .ok (.pd (.bool (!b)), p.2)
  | _ => .stuck
theorem se_one {op : BoolOp} (h : SE X W a ea) : SE X W (.BoolOp op [a] pos) ea := pe_one h
theorem se_and (ha : SE X W a ea) (hb : SE X W (.BoolOp .And (b :: rest) pos) eb) : SE X W (.BoolOp .And (a :: b :: rest) pos) (eAndV ea eb) := by
  refine pe_imp (pe_and ha hb) fun σ H Q h => ?_
  obtain ⟨ad, xs, env, μ, sr, w, p⟩ := h
  refine ⟨ad, xs, env, μ, sr, w, p.bind.mono fun d H1 ad1 μ1 e1 w1 q v r => ?_⟩
  dsimp only at q
  cases d with
  | pd d =>
    cases d with
    | bool k =>
      cases r
      refine ⟨k, rfl, ?_⟩
      cases k with
      | true => exact ⟨ad1, xs, env, μ1, sr.ext e1, w1, q⟩
      | false => exact q.ok w1 _ (.bl _)
    | _ => exact q.elim
  | _ => exact q.elim
theorem se_or (ha : SE X W a ea) (hb : SE X W (.BoolOp .Or (b :: rest) pos) eb) : SE X W (.BoolOp .Or (a :: b :: rest) pos) (eOrV ea eb) := by
  refine pe_imp (pe_or ha hb) fun σ H Q h => ?_
  obtain ⟨ad, xs, env, μ, sr, w, p⟩ := h
  refine ⟨ad, xs, env, μ, sr, w, p.bind.mono fun d H1 ad1 μ1 e1 w1 q v r => ?_⟩
  dsimp only at q
  cases d with
  | pd d =>
    cases d with
    | bool k =>
      cases r
      refine ⟨k, rfl, ?_⟩
      cases k with
      | false => exact ⟨ad1, xs, env, μ1, sr.ext e1, w1, q⟩
      | true => exact q.ok w1 _ (.bl _)
    | _ => exact q.elim
  | _ => exact q.elim
theorem se_not (ha : SE X W a ea) : SE X W (.UnaryOp .Not a pos) (eNotV ea) := by
  refine pe_imp (pe_not ha) fun σ H Q h => ?_
  obtain ⟨ad, xs, env, μ, sr, w, p⟩ := h
  refine ⟨ad, xs, env, μ, sr, w, p.bind.mono fun d H1 ad1 μ1 e1 w1 q v r => ?_⟩
  dsimp only at q
  cases d with
  | pd d =>
    cases d with
    | bool k =>
      cases r
      exact ⟨k, rfl, q.ok w1 _ (.bl _)⟩
    | _ => exact q.elim
  | _ => exact q.elim
theorem se_if (hc : ST X W c ta) (ha : SE X W a ea) (hb : SE X W b eb) : SE X W (.IfExp c a b pos) (eIf ta ea eb) := by
  refine pe_imp (pe_ifExp hc ha hb) fun σ H Q h => ?_
  obtain ⟨ad, xs, env, μ, sr, w, p⟩ := h
  refine ⟨ad, xs, env, μ, sr, w, p.bind.mono fun d H1 ad1 μ1 e1 w1 q => ?_⟩
  dsimp only at q
  cases d with
  | true => exact ⟨ad1, xs, env, μ1, sr.ext e1, w1, q⟩
  | false => exact ⟨ad1, xs, env, μ1, sr.ext e1, w1, q⟩
end
end Zd

set_option Elab.async false
set_option linter.all false
set_option maxRecDepth 100000
set_option maxHeartbeats 4000000
/-! More expressions: argument lists, displays, items, slices, built-in functions and methods. -/
namespace Zd
open PySem PySem.Spec PyProof.Rows L2

/-! ### minus -/
def eNeg (ea : EvE) : EvE := fun env μ => (ea env μ).bind fun p => match p.1 with
  | .pd (.int i) => .ok (.pd (.int (-i)), p.2)
  | _ => .stuck
section
variable {X : Cx} {W : Wish} {a b c : Expr} {ea eb ec : EvE} {pos : Pos}
theorem se_neg (ha : SE X W a ea) : SE X W (.UnaryOp .USub a pos) (eNeg ea) := by
  refine pe_imp (pe_un un_neg ha) fun σ H Q h => ?_
  obtain ⟨ad, xs, env, μ, sr, w, p⟩ := h
  refine ⟨ad, xs, env, μ, sr, w, p.bind.mono fun d H1 ad1 μ1 e1 w1 q v r => ?_⟩
  dsimp only at q
  cases d with
  | pd d =>
    cases d with
    | int i =>
      cases r
      exact ⟨i, rfl, q.ok w1 _ (.int _)⟩
    | _ => exact q.elim
  | _ => exact q.elim

/-! ### a < b < c of ints -/
def asI : D → Option Int
  | .pd (.int i) => some i
  | _ => none
theorem asI_rep {K : PySem.W.Frag} {H : Hp} {ad xs : List Addr} {d : D} {v : V} {i : Int} (e : asI d = some i) (r : Rep K H ad xs d v) : v = .int i := by
  unfold asI at e
  split at e
  · cases e; cases r; rfl
  · cases e
def eChain (f g : Int → Int → Bool) (ea eb ec : EvE) : EvT := fun env μ => (ea env μ).bind fun p => (eb env p.2).bind fun q => match asI p.1, asI q.1 with
  | some i, some j => if f i j = true then (ec env q.2).bind fun r => match asI r.1 with
    | some k => .ok (g j k, r.2)
    | none => .stuck
    else .ok (false, q.2)
  | _, _ => .stuck
theorem chain_core {f g : Int → Int → Bool} {σ : L2.St} {H : Hp} {Q : Bool → Hp → Prop} (h : tDT X.K W (eChain f g ea eb ec) σ H Q) :
    tChain (rI0 fun i j => .bl (f i j)) (rI0 fun i j => .bl (g i j)) (tD X.K W ea) (tD X.K W eb) (tD X.K W ec) σ H fun x H' => ∃ k, x = .bl k ∧ Q k H' := by
  obtain ⟨ad, xs, env, μ, sr, w, p⟩ := h
  refine ⟨ad, xs, env, μ, sr, w, p.bind.mono fun d H1 ad1 μ1 e1 w1 q v r => ?_⟩
  refine ⟨ad1, xs, env, μ1, sr.ext e1, w1, q.bind.mono fun d2 H2 ad2 μ2 e2 w2 q2 v2 r2 => ?_⟩
  dsimp only at q2
  cases hi : asI d with
  | none => rw [hi] at q2; exact q2.elim
  | some i =>
    cases hj : asI d2 with
    | none => rw [hi, hj] at q2; exact q2.elim
    | some j =>
      rw [hi, hj] at q2
      dsimp only at q2
      refine ⟨i, j, asI_rep hi r, asI_rep hj r2, f i j, rfl, ?_⟩
      cases hf : f i j with
      | false =>
        rw [hf] at q2
        simp only [Bool.false_eq_true, if_false] at q2 ⊢
        exact ⟨false, rfl, q2.ok w2⟩
      | true =>
        rw [hf] at q2
        simp only [if_true] at q2 ⊢
        refine ⟨ad2, xs, env, μ2, (sr.ext e1).ext e2, w2, q2.bind.mono fun d3 H3 ad3 μ3 e3 w3 q3 v3 r3 => ?_⟩
        dsimp only at q3
        cases hk : asI d3 with
        | none => rw [hk] at q3; exact q3.elim
        | some k =>
          rw [hk] at q3
          exact ⟨j, k, asI_rep hj r2, asI_rep hk r3, g j k, rfl, q3.ok w3⟩
def cLt (i j : Int) : Bool := decide (i < j)
def cLe (i j : Int) : Bool := decide (i ≤ j)
theorem st_chain {op op' : CmpOp} {f g : Int → Int → Bool} (ho : OpR X (compareOp op) (rI0 fun i j => .bl (f i j))) (ho' : OpR X (compareOp op') (rI0 fun i j => .bl (g i j))) (ha : SE X W a ea) (hb : SE X W b eb) (hc : SE X W c ec)
    (hm : lastMarks [op, op'] [b, c] = false := by with_unfolding_all rfl) : ST X W (.Compare a [op, op'] [b, c] pos) (eChain f g ea eb ec) := pt_imp (pt_chain ho ho' ha hb hc hm) fun _ _ _ h => chain_core h
theorem st_le_lt (ha : SE X W a ea) (hb : SE X W b eb) (hc : SE X W c ec) (hm : lastMarks [.LtE, .Lt] [b, c] = false := by with_unfolding_all rfl) : ST X W (.Compare a [.LtE, .Lt] [b, c] pos) (eChain cLe cLt ea eb ec) := st_chain op_le op_lt ha hb hc hm
theorem st_le_le (ha : SE X W a ea) (hb : SE X W b eb) (hc : SE X W c ec) (hm : lastMarks [.LtE, .LtE] [b, c] = false := by with_unfolding_all rfl) : ST X W (.Compare a [.LtE, .LtE] [b, c] pos) (eChain cLe cLe ea eb ec) := st_chain op_le op_le ha hb hc hm
theorem ofT_core {ta : EvT} {t : TE} (k : ∀ σ H Q, tDT X.K W ta σ H Q → t σ H fun x H' => ∃ k, x = .bl k ∧ Q k H') (m : ∀ σ H Q Q', (∀ v H', Q v H' → Q' v H') → t σ H Q → t σ H Q') {σ : L2.St} {H : Hp} {Q : VK} (h : tD X.K W (eOfT ta) σ H Q) : t σ H Q := by
  obtain ⟨ad, xs, env, μ, sr, w, p⟩ := h
  refine m _ _ _ _ ?_ (k σ H (fun b H' => Q (.bl b) H') ⟨ad, xs, env, μ, sr, w, p.bind.mono fun d H1 ad1 μ1 e1 w1 q => q.ok w1 _ (.bl _)⟩)
  rintro v H' ⟨k, rfl, q⟩
  exact q
theorem se_chain {op op' : CmpOp} {f g : Int → Int → Bool} (ho : OpR X (compareOp op) (rI0 fun i j => .bl (f i j))) (ho' : OpR X (compareOp op') (rI0 fun i j => .bl (g i j))) (ha : SE X W a ea) (hb : SE X W b eb) (hc : SE X W c ec)
    (hm : lastMarks [op, op'] [b, c] = false := by with_unfolding_all rfl) : SE X W (.Compare a [op, op'] [b, c] pos) (eOfT (eChain f g ea eb ec)) := by
  refine pe_imp (pe_chain ho ho' ha hb hc hm) fun σ H Q h => ?_
  obtain ⟨ad, xs, env, μ, sr, w, p⟩ := h
  have h2 := chain_core (X := X) (W := W) (f := f) (g := g) (ea := ea) (eb := eb) (ec := ec) (σ := σ) (H := H) (Q := fun b H' => Q (.bl b) H') ⟨ad, xs, env, μ, sr, w, p.bind.mono fun d H1 ad1 μ1 e1 w1 q => q.ok w1 _ (.bl _)⟩
  obtain ⟨ad', xs', env', μ', sr', w', p'⟩ := h2
  refine ⟨ad', xs', env', μ', sr', w', p'.mono fun d H1 ad1 μ1 e1 w1 q v r => ?_⟩
  obtain ⟨ad2, xs2, env2, μ2, sr2, w2, p2⟩ := q v r
  refine ⟨ad2, xs2, env2, μ2, sr2, w2, p2.mono fun d2 H2 ad2' μ2' e2 w2' q2 v2 r2 => ?_⟩
  obtain ⟨i, j, rfl, rfl, k, e, q3⟩ := q2 v2 r2
  refine ⟨i, j, rfl, rfl, k, e, ?_⟩
  cases k with
  | false =>
    simp only [Bool.false_eq_true, if_false] at q3 ⊢
    obtain ⟨k', e', q4⟩ := q3
    cases e'
    exact q4
  | true =>
    simp only [if_true] at q3 ⊢
    obtain ⟨ad3, xs3, env3, μ3, sr3, w3, p3⟩ := q3
    refine ⟨ad3, xs3, env3, μ3, sr3, w3, p3.mono fun d3 H3 ad3' μ3' e3 w3' q4 v3 r3 => ?_⟩
    obtain ⟨i', j', e6, rfl, k', e', q5⟩ := q4 v3 r3
    cases e6
    cases e'
    exact ⟨_, j', rfl, rfl, q5⟩
theorem se_le_lt (ha : SE X W a ea) (hb : SE X W b eb) (hc : SE X W c ec) (hm : lastMarks [.LtE, .Lt] [b, c] = false := by with_unfolding_all rfl) : SE X W (.Compare a [.LtE, .Lt] [b, c] pos) (eOfT (eChain cLe cLt ea eb ec)) := se_chain op_le op_lt ha hb hc hm
end

/-! ### argument lists, displays -/
def aNil : EvA := fun _ μ => .ok ([], μ)
def aCons (ev : EvE) (er : EvA) : EvA := fun env μ => (ev env μ).bind fun p => (er env p.2).bind fun q => .ok (p.1 :: q.1, q.2)
/-- all data -/
def pdAll : List D → Option (List PyData)
  | [] => some []
  | .pd d :: r => (pdAll r).map (d :: ·)
  | _ => none
@[simp] theorem pdAll_nil : pdAll [] = some [] := rfl
@[simp] theorem pdAll_cons (d : PyData) (r : List D) : pdAll (.pd d :: r) = (pdAll r).map (d :: ·) := rfl
theorem pdAll_rep {K : PySem.W.Frag} {H : Hp} {ad xs : List Addr} : ∀ {ds : List D} {ps : List PyData} {vs : List V}, pdAll ds = some ps → RepAll K H ad xs ds vs → LyAll K (Im H ad xs) vs ps
  | [], _, _, e, .nil => by cases e; exact .nil
  | .pd d :: r, ps, _, e, .cons h t => by
    simp only [pdAll_cons, Option.map_eq_some_iff] at e
    obtain ⟨qs, e1, rfl⟩ := e
    exact .cons h (pdAll_rep e1 t)
  | .ref _ :: _, _, _, e, _ => by cases e
  | .scr _ :: _, _, _, e, _ => by cases e
def eTup (ea : EvA) : EvE := fun env μ => (ea env μ).bind fun p => match pdAll p.1 with
  | some ps => if ps.length ≤ sizeLine then .ok (.pd (.tuple ps), p.2) else .stuck
  | none => .stuck
def eLst (ea : EvA) : EvF := fun env μ => (ea env μ).bind fun p => match pdAll p.1 with
  | some ps => if ps.length ≤ sizeLine then .ok (ps, p.2) else .stuck
  | none => .stuck
theorem RepAll.ext {K : PySem.W.Frag} {H H1 : Hp} {ad ad1 xs : List Addr} (e : Ext H ad xs H1 ad1) : ∀ {ds : List D} {vs : List V}, RepAll K H ad xs ds vs → RepAll K H1 ad1 xs ds vs
  | _, _, .nil => .nil
  | _, _, .cons h t => .cons (Rep.ext e h) (RepAll.ext e t)
theorem RepAll.length {K : PySem.W.Frag} {H : Hp} {ad xs : List Addr} {ds : List D} {vs : List V} (h : RepAll K H ad xs ds vs) : ds.length = vs.length := Paired.length h
section
variable {X : Cx} {W : Wish} {e : Expr} {es : List Expr} {ev : EvE} {er : EvA} {pos : Pos}
theorem sa_nil : SA X W [] aNil := pa_imp pa_nil fun σ H Q h => by
  obtain ⟨ad, xs, env, μ, sr, w, p⟩ := h
  exact p.ok w _ .nil
theorem sa_cons (he : SE X W e ev) (hr : SA X W es er) (hs : starEach (e :: es) X.env = (false, eval e X.env) :: starEach es X.env := by rfl) : SA X W (e :: es) (aCons ev er) := by
  refine pa_imp (pa_cons he hr hs) fun σ H Q h => ?_
  obtain ⟨ad, xs, env, μ, sr, w, p⟩ := h
  refine ⟨ad, xs, env, μ, sr, w, p.bind.mono fun d H1 ad1 μ1 e1 w1 q v r => ?_⟩
  exact ⟨ad1, xs, env, μ1, sr.ext e1, w1, q.bind.mono fun ds H2 ad2 μ2 e2 w2 q2 vs r2 => q2.ok w2 _ (.cons (r.ext e2) r2)⟩
theorem se_tup {k : Nat} (h : SA X W es er) : SE X W (.Tuple es k pos) (eTup er) := by
  refine pe_imp (pe_tup h) fun σ H Q h => ?_
  obtain ⟨ad, xs, env, μ, sr, w, p⟩ := h
  refine ⟨ad, xs, env, μ, sr, w, p.bind.mono fun ds H1 ad1 μ1 e1 w1 q vs r => ?_⟩
  dsimp only at q
  cases hp : pdAll ds with
  | none => rw [hp] at q; exact q.elim
  | some ps =>
    rw [hp] at q
    dsimp only at q
    split at q
    · rename_i hz
      have l := pdAll_rep hp r
      refine ⟨by rw [LyAll.length l]; exact hz, fun p hp => ?_⟩
      obtain ⟨w2, e2, i2⟩ := w1.new (o := .tup vs) hp
      exact q.ok_at e2 w2 _ (.tup (SqT.of i2) (LyAll.grow e2.same l))
    · exact q.elim
theorem sf_lst (h : SA X W es er) : SF X W (.List es pos) (eLst er) := by
  refine pe_imp (pe_lst h) fun σ H Q h => ?_
  obtain ⟨ad, xs, env, μ, sr, w, p⟩ := h
  refine ⟨ad, xs, env, μ, sr, w, p.bind.mono fun ds H1 ad1 μ1 e1 w1 q vs r => ?_⟩
  dsimp only at q
  cases hp : pdAll ds with
  | none => rw [hp] at q; exact q.elim
  | some ps =>
    rw [hp] at q
    dsimp only at q
    split at q
    · rename_i hz
      have l := pdAll_rep hp r
      exact ⟨by rw [LyAll.length l]; exact hz, fun p hp => q.ok w1 p vs hp l⟩
    · exact q.elim
end

/-! ### built-in functions by values -/
def derefs (μ : Store) : List D → Option (List PyData)
  | [] => some []
  | d :: r => match deref μ d with
    | some p => (derefs μ r).map (p :: ·)
    | none => none
abbrev MoAll (K : PySem.W.Frag) (H : Hp) (ad xs : List Addr) : List V → List PyData → Prop := Paired (Mo K H ad xs)
theorem derefs_mo {K : PySem.W.Frag} {H : Hp} {ad xs : List Addr} {μ : Store} (w : WOk K H ad xs μ) : ∀ {ds : List D} {ps : List PyData} {vs : List V}, derefs μ ds = some ps → RepAll K H ad xs ds vs → MoAll K H ad xs vs ps
  | [], _, _, e, .nil => by cases e; exact .nil
  | d :: r, ps, _, e, .cons h t => by
    unfold derefs at e
    cases hd : deref μ d with
    | none => rw [hd] at e; cases e
    | some p =>
      rw [hd] at e
      simp only [Option.map_eq_some_iff] at e
      obtain ⟨qs, e1, rfl⟩ := e
      exact .cons (w.mo h hd) (derefs_mo w e1 t)
abbrev FN := List PyData → Option PyData
abbrev GN := List PyData → Option (List PyData)
abbrev RN := List V → Hp → VK → Prop
def RnOk (K : PySem.W.Frag) (r : RN) (f : FN) : Prop := ∀ (H : Hp) (ad xs : List Addr) (μ : Store) (vs : List V) (ps : List PyData) (c : PyData) (Q : VK), WOk K H ad xs μ → MoAll K H ad xs vs ps → f ps = some c → Ans K xs H ad μ c Q → r vs H Q
def RnNew (K : PySem.W.Frag) (r : RN) (f : GN) : Prop := ∀ (H : Hp) (ad xs : List Addr) (μ : Store) (vs : List V) (ps c : List PyData) (Q : VK), WOk K H ad xs μ → MoAll K H ad xs vs ps → f ps = some c →
  (∀ p ws, H p = none → LyAll K (Im H ad xs) ws c → Q (.ref p) (upd H p (.lst ws))) → r vs H Q
def eCall (f : FN) (ea : EvA) : EvE := fun env μ => (ea env μ).bind fun p => match derefs p.2 p.1 with
  | some ps => match f ps with
    | some c => .ok (.pd c, p.2)
    | none => .stuck
  | none => .stuck
def eCallN (f : GN) (ea : EvA) : EvF := fun env μ => (ea env μ).bind fun p => match derefs p.2 p.1 with
  | some ps => match f ps with
    | some c => .ok (c, p.2)
    | none => .stuck
  | none => .stuck
section
variable {X : Cx} {W : Wish} {e : Expr} {es : List Expr} {er : EvA} {pos p : Pos} {x : Str} {id T : String} {r r' : RN} {f f' : FN} {g : GN}
theorem call_core (hf : RnOk X.K r f) {σ : L2.St} {H : Hp} {Q : VK} (h : tD X.K W (eCall f er) σ H Q) : tCB r (tDA X.K W er) σ H Q := by
  obtain ⟨ad, xs, env, μ, sr, w, p⟩ := h
  refine ⟨ad, xs, env, μ, sr, w, p.bind.mono fun ds H1 ad1 μ1 e1 w1 q vs r => ?_⟩
  dsimp only at q
  cases hp : derefs μ1 ds with
  | none => rw [hp] at q; exact q.elim
  | some ps =>
    rw [hp] at q
    dsimp only at q
    cases hc : f ps with
    | none => rw [hc] at q; exact q.elim
    | some c =>
      rw [hc] at q
      exact hf H1 ad1 xs μ1 vs ps c Q w1 (derefs_mo w1 hp r) hc fun H' v e w' l => q.ok_at e w' v l
theorem callN_core (hf : RnNew X.K r g) {σ : L2.St} {H : Hp} {Q : VK} (h : tDF X.K W (eCallN g er) σ H Q) : tCB r (tDA X.K W er) σ H Q := by
  obtain ⟨ad, xs, env, μ, sr, w, p⟩ := h
  refine ⟨ad, xs, env, μ, sr, w, p.bind.mono fun ds H1 ad1 μ1 e1 w1 q vs r => ?_⟩
  dsimp only at q
  cases hp : derefs μ1 ds with
  | none => rw [hp] at q; exact q.elim
  | some ps =>
    rw [hp] at q
    dsimp only at q
    cases hc : g ps with
    | none => rw [hc] at q; exact q.elim
    | some c =>
      rw [hc] at q
      exact hf H1 ad1 xs μ1 vs ps c Q w1 (derefs_mo w1 hp r) hc fun p ws hp l => q.ok w1 p ws hp l
theorem se_callB (hc : CallR X (.builtin id) r) (hf : RnOk X.K r f) (hg : Gl X x) (hm : X.mg x = none) (hv : bootBuiltins x = some (.builtin id)) (ha : SA X W (e :: es) er) (hn : x ≠ "__name__" := by decide) (hd : (x == ("__debug__" : Str)) = false := by decide)
    (he : starEach (e :: es) X.env = (false, eval e X.env) :: starEach es X.env := by rfl) (hpl : (backTo pos (starEach es X.env)).any (·.1) = false := by rfl) : SE X W (.Call (.Name x p) (e :: es) [] pos) (eCall f er) :=
  pe_imp (pe_callB hc hg hm hv ha hn hd he hpl) fun _ _ _ h => call_core hf h
theorem se_callTy (hc : CallR X (.type T) r) (hf : RnOk X.K r f) (hg : Gl X x) (hm : X.mg x = none) (hv : bootBuiltins x = some (.type T)) (ha : SA X W (e :: es) er) (hn : x ≠ "__name__" := by decide) (hd : (x == ("__debug__" : Str)) = false := by decide)
    (he : starEach (e :: es) X.env = (false, eval e X.env) :: starEach es X.env := by rfl) (hpl : (backTo pos (starEach es X.env)).any (·.1) = false := by rfl) : SE X W (.Call (.Name x p) (e :: es) [] pos) (eCall f er) :=
  pe_imp (pe_callTy hc hg hm hv ha hn hd he hpl) fun _ _ _ h => call_core hf h
theorem sf_callB (hc : CallR X (.builtin id) r) (hf : RnNew X.K r g) (hg : Gl X x) (hm : X.mg x = none) (hv : bootBuiltins x = some (.builtin id)) (ha : SA X W (e :: es) er) (hn : x ≠ "__name__" := by decide) (hd : (x == ("__debug__" : Str)) = false := by decide)
    (he : starEach (e :: es) X.env = (false, eval e X.env) :: starEach es X.env := by rfl) (hpl : (backTo pos (starEach es X.env)).any (·.1) = false := by rfl) : SF X W (.Call (.Name x p) (e :: es) [] pos) (eCallN g er) :=
  pe_imp (pe_callB hc hg hm hv ha hn hd he hpl) fun _ _ _ h => callN_core hf h
theorem sf_callTy (hc : CallR X (.type T) r) (hf : RnNew X.K r g) (hg : Gl X x) (hm : X.mg x = none) (hv : bootBuiltins x = some (.type T)) (ha : SA X W (e :: es) er) (hn : x ≠ "__name__" := by decide) (hd : (x == ("__debug__" : Str)) = false := by decide)
    (he : starEach (e :: es) X.env = (false, eval e X.env) :: starEach es X.env := by rfl) (hpl : (backTo pos (starEach es X.env)).any (·.1) = false := by rfl) : SF X W (.Call (.Name x p) (e :: es) [] pos) (eCallN g er) :=
  pe_imp (pe_callTy hc hg hm hv ha hn hd he hpl) fun _ _ _ h => callN_core hf h
theorem se_callG (hc : CallR X (.builtin id) r) (hf : RnOk X.K r f) (hg : Gl X x) (hm : X.mg x = some (.builtin id)) (ha : SA X W (e :: es) er) (hd : (x == ("__debug__" : Str)) = false := by decide)
    (he : starEach (e :: es) X.env = (false, eval e X.env) :: starEach es X.env := by rfl) (hpl : (backTo pos (starEach es X.env)).any (·.1) = false := by rfl) : SE X W (.Call (.Name x p) (e :: es) [] pos) (eCall f er) :=
  pe_imp (pe_callBfun hc hg hm ha hd he hpl) fun _ _ _ h => call_core hf h
theorem RnOk.or {K : PySem.W.Frag} (h : RnOk K r f) (h' : RnOk K r' f') : RnOk K (fun vs H Q => r vs H Q ∨ r' vs H Q) (fun ps => (f ps).or (f' ps)) := fun H ad xs μ vs ps c Q w m e q => by
  cases hf : f ps with
  | some d =>
    dsimp only at e
    rw [hf] at e
    exact .inl (h H ad xs μ vs ps c Q w m (hf.trans e) q)
  | none =>
    dsimp only at e
    rw [hf] at e
    exact .inr (h' H ad xs μ vs ps c Q w m e q)
end
section
variable {K : PySem.W.Frag} {H : Hp} {ad xs : List Addr}
theorem MoAll.one {vs : List V} {p : PyData} (h : MoAll K H ad xs vs [p]) : ∃ v, vs = [v] ∧ Mo K H ad xs v p := by
  cases h with
  | cons h t =>
    cases t
    exact ⟨_, rfl, h⟩
theorem MoAll.two {vs : List V} {p q : PyData} (h : MoAll K H ad xs vs [p, q]) : ∃ v w, vs = [v, w] ∧ Mo K H ad xs v p ∧ Mo K H ad xs w q := by
  cases h with
  | cons h t =>
    cases t with
    | cons h2 t2 =>
      cases t2
      exact ⟨_, _, rfl, h, h2⟩
/-- the ints of a list -/
def intsOf : List PyData → Option (List Int)
  | [] => some []
  | .int i :: r => (intsOf r).map (i :: ·)
  | _ => none
@[simp] theorem intsOf_map (ns : List Int) : intsOf (ns.map PyData.int) = some ns := by
  induction ns with
  | nil => rfl
  | cons n r ih => simp [intsOf, ih]
theorem intsOf_ly : ∀ {ds : List PyData} {ns : List Int} {vs : List V}, intsOf ds = some ns → LyAll K H vs ds → vs = ns.map V.int
  | [], _, _, e, .nil => by cases e; rfl
  | .int i :: r, ns, _, e, .cons h t => by
    simp only [intsOf, Option.map_eq_some_iff] at e
    obtain ⟨ms, e1, rfl⟩ := e
    cases h
    rw [intsOf_ly e1 t]
    rfl
  | .none :: _, _, _, e, _ => by cases e
  | .bool _ :: _, _, _, e, _ => by cases e
  | .str _ :: _, _, _, e, _ => by cases e
  | .list _ :: _, _, _, e, _ => by cases e
  | .tuple _ :: _, _, _, e, _ => by cases e
  | .dict _ :: _, _, _, e, _ => by cases e
def boolsOf : List PyData → Option (List Bool)
  | [] => some []
  | .bool i :: r => (boolsOf r).map (i :: ·)
  | _ => none
@[simp] theorem boolsOf_map (ns : List Bool) : boolsOf (ns.map PyData.bool) = some ns := by
  induction ns with
  | nil => rfl
  | cons n r ih => simp [boolsOf, ih]
theorem boolsOf_ly : ∀ {ds : List PyData} {ns : List Bool} {vs : List V}, boolsOf ds = some ns → LyAll K H vs ds → vs = ns.map V.bl
  | [], _, _, e, .nil => by cases e; rfl
  | .bool i :: r, ns, _, e, .cons h t => by
    simp only [boolsOf, Option.map_eq_some_iff] at e
    obtain ⟨ms, e1, rfl⟩ := e
    cases h
    rw [boolsOf_ly e1 t]
    rfl
  | .none :: _, _, _, e, _ => by cases e
  | .int _ :: _, _, _, e, _ => by cases e
  | .str _ :: _, _, _, e, _ => by cases e
  | .list _ :: _, _, _, e, _ => by cases e
  | .tuple _ :: _, _, _, e, _ => by cases e
  | .dict _ :: _, _, _, e, _ => by cases e
end
/-! ### which -/
def fLen : FN
  | [.list ds] => some (.int ds.length)
  | [.tuple ds] => some (.int ds.length)
  | _ => none
def fLenS : FN
  | [.str z] => if z.length ≤ sizeLine then some (.int z.length) else none
  | _ => none
def fAbs : FN
  | [.int i] => some (.int (if i < 0 then -i else i))
  | _ => none
def fInt : FN
  | [.int i] => some (.int i)
  | [.bool b] => some (.int (if b then 1 else 0))
  | _ => none
def fMax2 : FN
  | [.int i, .int j] => some (.int (if j > i then j else i))
  | _ => none
def fMin2 : FN
  | [.int i, .int j] => some (.int (if j < i then j else i))
  | _ => none
def fSum : FN
  | [.list ds] => (intsOf ds).map fun ns => .int ns.sum
  | _ => none
def fMaxL : FN
  | [.list ds] => (intsOf ds).bind fun ns => ns.max?.map .int
  | _ => none
def fMinL : FN
  | [.list ds] => (intsOf ds).bind fun ns => ns.min?.map .int
  | _ => none
def fAny : FN
  | [.list ds] => (boolsOf ds).map fun ns => .bool (ns.any id)
  | _ => none
def fAll : FN
  | [.list ds] => (boolsOf ds).map fun ns => .bool (ns.all id)
  | _ => none
def fTuple : FN
  | [.list ds] => some (.tuple ds)
  | [.tuple ds] => some (.tuple ds)
  | _ => none
def gList : GN
  | [.list ds] => some ds
  | [.tuple ds] => some ds
  | _ => none
def fGcd : FN
  | [.int i, .int j] => some (.int ((Nat.gcd i.natAbs j.natAbs : Nat) : Int))
  | _ => none
section
variable {X : Cx} {K : PySem.W.Frag}
def rLenQ (K : PySem.W.Frag) : RN := fun xs H Q => ∃ p ys, xs = [.ref p] ∧ (SqL K H p ys ∨ SqT K H p ys) ∧ Q (.int ys.length) H
theorem rn_len : RnOk K (rLenQ K) fLen := fun H ad xs μ vs ps c Q w m e q => by
  unfold fLen at e
  split at e
  · cases e
    obtain ⟨v, rfl, m1⟩ := m.one
    obtain ⟨a, ws, rfl, h, l⟩ := m1.list
    refine ⟨a, ws, rfl, .inl (SqL.of h), ?_⟩
    rw [LyAll.length l]
    exact q.same w (.int _)
  · cases e
    obtain ⟨v, rfl, m1⟩ := m.one
    obtain ⟨a, ws, rfl, h, l⟩ := m1.tuple
    refine ⟨a, ws, rfl, .inr h, ?_⟩
    rw [LyAll.length l]
    exact q.same w (.int _)
  · cases e
def rLenStr : RN := fun xs H Q => ∃ z : Str, xs = [.str z] ∧ z.length ≤ sizeLine ∧ Q (.int z.length) H
theorem rn_lenS : RnOk K rLenStr fLenS := fun H ad xs μ vs ps c Q w m e q => by
  unfold fLenS at e
  split at e
  · split at e
    · rename_i hz
      cases e
      obtain ⟨v, rfl, m1⟩ := m.one
      exact ⟨_, by rw [m1.str], hz, q.same w (.int _)⟩
    · cases e
  · cases e
def rAbs1 : RN := fun xs H Q => ∃ i, xs = [.int i] ∧ Q (.int (if i < 0 then -i else i)) H
theorem rn_abs : RnOk K rAbs1 fAbs := fun H ad xs μ vs ps c Q w m e q => by
  unfold fAbs at e
  split at e
  · cases e
    obtain ⟨v, rfl, m1⟩ := m.one
    exact ⟨_, by rw [m1.int], q.same w (.int _)⟩
  · cases e
def rInt1 : RN := fun xs H Q => (∃ i, xs = [.int i] ∧ Q (.int i) H) ∨ ∃ k, xs = [.bl k] ∧ Q (.int (if k then 1 else 0)) H
theorem rn_int : RnOk K rInt1 fInt := fun H ad xs μ vs ps c Q w m e q => by
  unfold fInt at e
  split at e
  · cases e
    obtain ⟨v, rfl, m1⟩ := m.one
    exact .inl ⟨_, by rw [m1.int], q.same w (.int _)⟩
  · cases e
    obtain ⟨v, rfl, m1⟩ := m.one
    exact .inr ⟨_, by rw [m1.bl], q.same w (.int _)⟩
  · cases e
def rMx2 : RN := fun xs H Q => ∃ i j, xs = [.int i, .int j] ∧ Q (.int (if j > i then j else i)) H
theorem rn_max2 : RnOk K rMx2 fMax2 := fun H ad xs μ vs ps c Q w m e q => by
  unfold fMax2 at e
  split at e
  · cases e
    obtain ⟨v, u, rfl, m1, n1⟩ := m.two
    exact ⟨_, _, by rw [m1.int, n1.int], q.same w (.int _)⟩
  · cases e
def rMn2 : RN := fun xs H Q => ∃ i j, xs = [.int i, .int j] ∧ Q (.int (if j < i then j else i)) H
theorem rn_min2 : RnOk K rMn2 fMin2 := fun H ad xs μ vs ps c Q w m e q => by
  unfold fMin2 at e
  split at e
  · cases e
    obtain ⟨v, u, rfl, m1, n1⟩ := m.two
    exact ⟨_, _, by rw [m1.int, n1.int], q.same w (.int _)⟩
  · cases e
theorem rn_gcd : RnOk K rGcd fGcd := fun H ad xs μ vs ps c Q w m e q => by
  unfold fGcd at e
  split at e
  · cases e
    obtain ⟨v, u, rfl, m1, n1⟩ := m.two
    exact ⟨_, _, by rw [m1.int, n1.int], q.same w (.int _)⟩
  · cases e
theorem rn_sum : RnOk K (rSum K) fSum := fun H ad xs μ vs ps c Q w m e q => by
  unfold fSum at e
  split at e
  · simp only [Option.map_eq_some_iff] at e
    obtain ⟨ns, e1, rfl⟩ := e
    obtain ⟨v, rfl, m1⟩ := m.one
    obtain ⟨a, ws, rfl, h, l⟩ := m1.list
    rw [intsOf_ly e1 l] at h
    exact ⟨a, ns, rfl, SqL.of h, q.same w (.int _)⟩
  · cases e
theorem rn_maxL : RnOk K (rMax K) fMaxL := fun H ad xs μ vs ps c Q w m e q => by
  unfold fMaxL at e
  split at e
  · simp only [Option.bind_eq_some_iff, Option.map_eq_some_iff] at e
    obtain ⟨ns, e1, k, e2, rfl⟩ := e
    obtain ⟨v, rfl, m1⟩ := m.one
    obtain ⟨a, ws, rfl, h, l⟩ := m1.list
    rw [intsOf_ly e1 l] at h
    obtain ⟨k1, k2⟩ := List.max?_eq_some_iff.mp e2
    refine ⟨a, ns, rfl, SqL.of h, List.length_pos_of_mem k1, fun z hz hall => ?_⟩
    have : z = k := Int.le_antisymm (k2 z hz) (hall k k1)
    subst this
    exact q.same w (.int _)
  · cases e
theorem rn_minL : RnOk K (rMin K) fMinL := fun H ad xs μ vs ps c Q w m e q => by
  unfold fMinL at e
  split at e
  · simp only [Option.bind_eq_some_iff, Option.map_eq_some_iff] at e
    obtain ⟨ns, e1, k, e2, rfl⟩ := e
    obtain ⟨v, rfl, m1⟩ := m.one
    obtain ⟨a, ws, rfl, h, l⟩ := m1.list
    rw [intsOf_ly e1 l] at h
    obtain ⟨k1, k2⟩ := List.min?_eq_some_iff.mp e2
    refine ⟨a, ns, rfl, SqL.of h, List.length_pos_of_mem k1, fun z hz hall => ?_⟩
    have : z = k := Int.le_antisymm (hall k k1) (k2 z hz)
    subst this
    exact q.same w (.int _)
  · cases e
theorem rn_any : RnOk K (rAny K) fAny := fun H ad xs μ vs ps c Q w m e q => by
  unfold fAny at e
  split at e
  · simp only [Option.map_eq_some_iff] at e
    obtain ⟨ns, e1, rfl⟩ := e
    obtain ⟨v, rfl, m1⟩ := m.one
    obtain ⟨a, ws, rfl, h, l⟩ := m1.list
    rw [boolsOf_ly e1 l] at h
    exact ⟨a, ns, rfl, SqL.of h, q.same w (.bl _)⟩
  · cases e
theorem rn_all : RnOk K (rAll K) fAll := fun H ad xs μ vs ps c Q w m e q => by
  unfold fAll at e
  split at e
  · simp only [Option.map_eq_some_iff] at e
    obtain ⟨ns, e1, rfl⟩ := e
    obtain ⟨v, rfl, m1⟩ := m.one
    obtain ⟨a, ws, rfl, h, l⟩ := m1.list
    rw [boolsOf_ly e1 l] at h
    exact ⟨a, ns, rfl, SqL.of h, q.same w (.bl _)⟩
  · cases e
def rTupOf (K : PySem.W.Frag) : RN := fun xs H Q => ∃ p ys, xs = [.ref p] ∧ ((SqL K H p ys ∧ ∀ l, H l = none → Q (.ref l) (upd H l (.tup ys))) ∨ (SqT K H p ys ∧ Q (.ref p) H))
theorem rn_tuple : RnOk K (rTupOf K) fTuple := fun H ad xs μ vs ps c Q w m e q => by
  unfold fTuple at e
  split at e
  · cases e
    obtain ⟨v, rfl, m1⟩ := m.one
    obtain ⟨a, ws, rfl, h, l⟩ := m1.list
    exact ⟨a, ws, rfl, .inl ⟨SqL.of h, fun p hp => q.mk_tup w l hp⟩⟩
  · cases e
    obtain ⟨v, rfl, m1⟩ := m.one
    have y := Mo.ly_tuple m1
    obtain ⟨a, ws, rfl, h, l⟩ := m1.tuple
    exact ⟨a, ws, rfl, .inr ⟨h, q.same w y⟩⟩
  · cases e
def rLstOf (K : PySem.W.Frag) : RN := fun xs H Q => ∃ p ys, xs = [.ref p] ∧ (SqL K H p ys ∨ SqT K H p ys) ∧ ∀ l, H l = none → Q (.ref l) (upd H l (.lst ys))
theorem rn_list : RnNew K (rLstOf K) gList := fun H ad xs μ vs ps c Q w m e q => by
  unfold gList at e
  split at e
  · cases e
    obtain ⟨v, rfl, m1⟩ := m.one
    obtain ⟨a, ws, rfl, h, l⟩ := m1.list
    exact ⟨a, ws, rfl, .inl (SqL.of h), fun p hp => q p ws hp l⟩
  · cases e
    obtain ⟨v, rfl, m1⟩ := m.one
    obtain ⟨a, ws, rfl, h, l⟩ := m1.tuple
    exact ⟨a, ws, rfl, .inr h, fun p hp => q p ws hp l⟩
  · cases e
end
end Zd

set_option Elab.async false
set_option linter.all false
set_option maxRecDepth 100000
set_option maxHeartbeats 4000000
/-! Items, slices, truth, in, isinstance, methods of lists and dicts. -/
namespace Zd
open PySem PySem.Spec PyProof.Rows L2

/-! ### x[i] -/
def fIx : F2
  | .list ds, .int i => atI ds i
  | .tuple ds, .int i => atI ds i
  | _, _ => none
theorem ly_at {K : PySem.W.Frag} {H : Hp} {vs : List V} {ds : List PyData} {i : Int} {d : PyData} (l : LyAll K H vs ds) (e : atI ds i = some d) : ∃ v, atI vs i = some v ∧ Ly K H v d := by
  unfold atI at e ⊢
  rw [LyAll.length l]
  cases h : ixN ds.length i with
  | none => rw [h] at e; cases e
  | some j =>
    rw [h] at e
    exact LyAll.get l e
/-- an item; of a list of places, a place -/
def eIx (ea eb : EvE) : EvE := fun env μ => (ea env μ).bind fun p => (eb env p.2).bind fun q =>
  match p.1, asI q.1 with
  | .ref l, some i => match q.2[l]? with
    | some (.lst ds) => match atI ds i with
      | some c => .ok (.pd c, q.2)
      | none => .stuck
    | some (.lls ls) => match atI ls i with
      | some k => .ok (.ref k, q.2)
      | none => .stuck
    | _ => .stuck
  | .pd d, some i => match fIx d (.int i) with
    | some c => .ok (.pd c, q.2)
    | none => .stuck
  | _, _ => .stuck
theorem map_at {α β : Type} (f : α → β) (l : List α) (i : Int) : atI (l.map f) i = (atI l i).map f := by
  unfold atI
  rw [List.length_map]
  cases ixN l.length i with
  | none => rfl
  | some j => simp
section
variable {X : Cx} {W : Wish} {a b : Expr} {ea eb : EvE} {pos : Pos}
theorem se_ix (ha : SE X W a ea) (hb : SE X W b eb) (hs : PlainIx b := by exact fun _ _ => rfl) : SE X W (.Subscript a b pos) (eIx ea eb) := by
  refine pe_imp (pe_ix ix_seq ha hb hs) fun σ H Q h => ?_
  obtain ⟨ad, xs, env, μ, sr, w, p⟩ := h
  refine ⟨ad, xs, env, μ, sr, w, p.bind.mono fun d1 H1 ad1 μ1 e1 w1 p1 v1 r1 => ?_⟩
  refine ⟨ad1, xs, env, μ1, sr.ext e1, w1, p1.bind.mono fun d2 H2 ad2 μ2 e2 w2 p2 v2 r2 => ?_⟩
  dsimp only at p2
  cases hi : asI d2 with
  | none => rw [hi] at p2; cases d1 <;> exact p2.elim
  | some i =>
    have ev2 := asI_rep hi r2
    subst ev2
    rw [hi] at p2
    cases d1 with
    | pd d =>
      dsimp only at p2
      cases d with
      | list ds =>
        cases hc : atI ds i with
        | none => simp only [fIx, hc] at p2; exact p2.elim
        | some c =>
          simp only [fIx, hc] at p2
          cases (r1.ext e2 : Rep X.K H2 ad2 xs (.pd (.list ds)) v1) with
          | lst h l =>
            obtain ⟨v, q1, q2⟩ := ly_at l hc
            exact .inl ⟨_, _, i, v, rfl, rfl, SqL.of (Im_le _ _ h), q1, p2.ok w2 _ q2⟩
      | tuple ds =>
        cases hc : atI ds i with
        | none => simp only [fIx, hc] at p2; exact p2.elim
        | some c =>
          simp only [fIx, hc] at p2
          cases (r1.ext e2 : Rep X.K H2 ad2 xs (.pd (.tuple ds)) v1) with
          | tup h l =>
            obtain ⟨v, q1, q2⟩ := ly_at l hc
            exact .inr (.inl ⟨_, _, i, v, rfl, rfl, SqT.grow Im_le h, q1, p2.ok w2 _ q2⟩)
      | _ => exact p2.elim
    | ref l =>
      dsimp only at p2
      obtain ⟨a1, g1, rfl⟩ := r1.ext e2
      cases hc : μ2[l]? with
      | none => rw [hc] at p2; exact p2.elim
      | some c =>
        have ck := w2.cell l a1 c g1 hc
        cases c with
        | lst ds =>
          cases hd : atI ds i with
          | none => simp only [hc, hd] at p2; exact p2.elim
          | some c =>
            simp only [hc, hd] at p2
            obtain ⟨vs, k1, k2⟩ := ck
            obtain ⟨v, q1, q2⟩ := ly_at k2 hd
            exact .inl ⟨_, _, i, v, rfl, rfl, SqL.of k1, q1, p2.ok w2 _ q2⟩
        | lls ls =>
          cases hd : atI ls i with
          | none => simp only [hc, hd] at p2; exact p2.elim
          | some k =>
            simp only [hc, hd] at p2
            obtain ⟨as, k1, k2⟩ := ck
            have e3 : (atI as i).map some = (atI ls i).map (fun l => ad2[l]?) := by rw [← map_at, ← map_at, k2]
            rw [hd] at e3
            cases ha : atI as i with
            | none => rw [ha] at e3; simp at e3
            | some b =>
              rw [ha] at e3
              simp only [Option.map_some, Option.some.injEq] at e3
              exact .inl ⟨_, _, i, .ref b, rfl, rfl, SqL.of k1, by rw [map_at, ha]; rfl, p2.ok w2 _ ⟨b, e3.symm, rfl⟩⟩
        | _ => rw [hc] at p2; exact p2.elim
    | scr ns => exact p2.elim
end

/-! ### x[lo:hi] -/
abbrev EvO := Env → Store → Out (Option Int × Store)
def tDO (K : PySem.W.Frag) (W : Wish) (ev : EvO) : TO := fun σ H Q => ∃ ad xs env μ, SRep K H ad xs σ env ∧ WOk K H ad xs μ ∧ Post K xs W H ad (ev env μ) fun o H' ad' _ => Q o H'
abbrev SO (X : Cx) (W : Wish) (e : Option Expr) (ev : EvO) : Prop := PO X e (tDO X.K W ev)
def oNone : EvO := fun _ μ => .ok (none, μ)
def oSome (ea : EvE) : EvO := fun env μ => (ea env μ).bind fun p => match asI p.1 with
  | some i => .ok (some i, p.2)
  | none => .stuck
section
variable {X : Cx} {W : Wish} {a e : Expr} {ea : EvE}
theorem po_imp {e : Option Expr} {t t' : TO} (h : PO X e t) (k : ∀ σ H Q, t' σ H Q → t σ H Q) : PO X e t' := ⟨fun pins s σ H Q I q => h.run pins s σ H Q I (k _ _ _ q)⟩
theorem so_none : SO X W none oNone := po_imp po_none fun σ H Q h => by
  obtain ⟨ad, xs, env, μ, sr, w, p⟩ := h
  exact p.ok w
theorem so_some (ha : SE X W a ea) : SO X W (some a) (oSome ea) := po_imp (po_some ha) fun σ H Q h => by
  obtain ⟨ad, xs, env, μ, sr, w, p⟩ := h
  refine ⟨ad, xs, env, μ, sr, w, p.bind.mono fun d H1 ad1 μ1 e1 w1 q v r => ?_⟩
  dsimp only at q
  cases hi : asI d with
  | none => rw [hi] at q; exact q.elim
  | some i =>
    rw [hi] at q
    exact ⟨i, asI_rep hi r, q.ok w1⟩
end
/-- a piece of a list -/
def cutD (ds : List PyData) (lo hi : Option Int) : List PyData := (ds.drop (HT.sIx ds.length 0 lo)).take (HT.sIx ds.length ds.length hi - HT.sIx ds.length 0 lo)
theorem cut_ly {K : PySem.W.Frag} {H : Hp} {vs : List V} {ds : List PyData} (l : LyAll K H vs ds) (lo hi : Option Int) : LyAll K H (cutV vs lo hi) (cutD ds lo hi) := by
  unfold cutV cutD
  rw [LyAll.length l]
  exact LyAll.take _ (LyAll.drop _ l)
def eSlL (ea : EvE) (el eh : EvO) : EvF := fun env μ => (ea env μ).bind fun p => (el env p.2).bind fun q => (eh env q.2).bind fun r =>
  match p.1 with
  | .scr ns => .ok (cutD (ns.map .int) q.1 r.1, r.2)
  | _ => match deref r.2 p.1 with
    | some (.list ds) => .ok (cutD ds q.1 r.1, r.2)
    | _ => .stuck
def eSlT (ea : EvE) (el eh : EvO) : EvE := fun env μ => (ea env μ).bind fun p => (el env p.2).bind fun q => (eh env q.2).bind fun r =>
  match p.1 with
  | .pd (.tuple ds) => .ok (.pd (.tuple (cutD ds q.1 r.1)), r.2)
  | _ => .stuck
theorem map_cut (ns : List Int) (lo hi : Option Int) : ∃ ms : List Int, cutV (ns.map V.int) lo hi = ms.map V.int ∧ cutD (ns.map PyData.int) lo hi = ms.map PyData.int := by
  refine ⟨(ns.drop (HT.sIx ns.length 0 lo)).take (HT.sIx ns.length ns.length hi - HT.sIx ns.length 0 lo), ?_, ?_⟩
  · unfold cutV
    rw [List.length_map, List.map_take, List.map_drop]
  · unfold cutD
    rw [List.length_map, List.map_take, List.map_drop]
section
variable {X : Cx} {W : Wish} {a : Expr} {lo hi : Option Expr} {ea : EvE} {el eh : EvO} {pos p2 : Pos}
theorem sf_sl (ha : SE X W a ea) (hl : SO X W lo el) (hh : SO X W hi eh) : SF X W (.Subscript a (.Slice lo hi none p2) pos) (eSlL ea el eh) := by
  refine pe_imp (pe_slice sl_list ha hl hh) fun σ H Q h => ?_
  obtain ⟨ad, xs, env, μ, sr, w, p⟩ := h
  refine ⟨ad, xs, env, μ, sr, w, p.bind.mono fun d1 H1 ad1 μ1 e1 w1 p1 v1 r1 => ?_⟩
  refine ⟨ad1, xs, env, μ1, sr.ext e1, w1, p1.bind.mono fun l H2 ad2 μ2 e2 w2 p2 => ?_⟩
  refine ⟨ad2, xs, env, μ2, (sr.ext e1).ext e2, w2, p2.bind.mono fun u H3 ad3 μ3 e3 w3 p3 => ?_⟩
  dsimp only at p3
  cases d1 with
  | scr ns =>
    obtain ⟨a1, rfl, s1⟩ := (r1.ext e2).ext e3
    refine ⟨a1, _, rfl, Same.seq Im_le s1, fun p hp => ?_⟩
    obtain ⟨ms, k1, k2⟩ := map_cut ns l u
    have q := p3.ok w3 p (cutV (ns.map V.int) l u) hp
    rw [k1, k2] at q
    rw [k1]
    exact q (LyAll.map_int ms)
  | pd d =>
    cases d with
    | list ds =>
      cases ((r1.ext e2).ext e3 : Rep X.K H3 ad3 xs (.pd (.list ds)) v1) with
      | lst h k => exact ⟨_, _, rfl, SqL.of (Im_le _ _ h), fun p hp => p3.ok w3 p _ hp (cut_ly k l u)⟩
    | _ => exact p3.elim
  | ref k =>
    obtain ⟨a1, g1, rfl⟩ := (r1.ext e2).ext e3
    cases hc : μ3[k]? with
    | none => simp only [deref, hc] at p3; exact p3.elim
    | some c =>
      cases c with
      | lst ds =>
        simp only [deref, hc] at p3
        obtain ⟨vs, k1, k2⟩ := w3.cell k a1 _ g1 hc
        exact ⟨_, _, rfl, SqL.of k1, fun p hp => p3.ok w3 p _ hp (cut_ly k2 l u)⟩
      | _ => simp only [deref, hc] at p3; exact p3.elim
theorem se_slT (ha : SE X W a ea) (hl : SO X W lo el) (hh : SO X W hi eh) : SE X W (.Subscript a (.Slice lo hi none p2) pos) (eSlT ea el eh) := by
  refine pe_imp (pe_slice sl_tupA ha hl hh) fun σ H Q h => ?_
  obtain ⟨ad, xs, env, μ, sr, w, p⟩ := h
  refine ⟨ad, xs, env, μ, sr, w, p.bind.mono fun d1 H1 ad1 μ1 e1 w1 p1 v1 r1 => ?_⟩
  refine ⟨ad1, xs, env, μ1, sr.ext e1, w1, p1.bind.mono fun l H2 ad2 μ2 e2 w2 p2 => ?_⟩
  refine ⟨ad2, xs, env, μ2, (sr.ext e1).ext e2, w2, p2.bind.mono fun u H3 ad3 μ3 e3 w3 p3 => ?_⟩
  dsimp only at p3
  cases d1 with
  | pd d =>
    cases d with
    | tuple ds =>
      have ly : Ly X.K (Im H3 ad3 xs) v1 (.tuple ds) := (r1.ext e2).ext e3
      cases ly with
      | tup h k =>
        rename_i a1 vs
        have n1 := LyAll.length k
        refine ⟨a1, vs, rfl, SqT.grow Im_le h, fun hw => ?_, fun hw p hp => ?_⟩
        · have e5 : cutD ds l u = ds := by
            unfold cutD
            rw [← n1, hw.1, hw.2, List.drop_zero, Nat.sub_zero, n1, List.take_length]
          have q5 : ∀ v, Rep X.K H3 ad3 xs (.pd (.tuple (cutD ds l u))) v → Q v H3 := p3.ok w3
          rw [e5] at q5
          exact q5 _ (.tup h k)
        · obtain ⟨w4, e4, i4⟩ := w3.new (o := .tup (cutV vs l u)) hp
          exact p3.ok_at e4 w4 _ (.tup (SqT.of i4) (LyAll.grow e4.same (cut_ly k l u)))
    | _ => exact p3.elim
  | _ => exact p3.elim
end

/-! ### truth -/
def truD (μ : Store) : D → Option Bool
  | .pd .none => some false
  | .pd (.bool b) => some b
  | .pd (.int i) => some (i != 0)
  | .pd (.list ds) => some (!ds.isEmpty)
  | .pd (.tuple ds) => some (!ds.isEmpty)
  | .ref l => match μ[l]? with
    | some (.lst ds) => some (!ds.isEmpty)
    | some (.lls ls) => some (!ls.isEmpty)
    | some (.dic kvs) => some (!kvs.isEmpty)
    | _ => none
  | _ => none
def eTru (ea : EvE) : EvT := fun env μ => (ea env μ).bind fun p => match truD p.2 p.1 with
  | some b => .ok (b, p.2)
  | none => .stuck
theorem isEmpty_len {α β : Type} {l : List α} {m : List β} (h : l.length = m.length) : l.isEmpty = m.isEmpty := by
  cases l <;> cases m <;> first | rfl | simp at h
theorem tru_rep {K : PySem.W.Frag} {H : Hp} {ad xs : List Addr} {μ : Store} (w : WOk K H ad xs μ) {d : D} {v : V} {b : Bool} (r : Rep K H ad xs d v) (e : truD μ d = some b) : TruV K v H b := by
  cases d with
  | pd d =>
    cases d with
    | none => cases r; cases e; rfl
    | bool k => cases r; cases e; rfl
    | int i => cases r; cases e; rfl
    | list ds =>
      cases e
      cases r with
      | lst h l => exact .inl ⟨_, SqL.of (Im_le _ _ h), by rw [isEmpty_len (LyAll.length l)]⟩
    | tuple ds =>
      cases e
      cases r with
      | tup h l => exact .inr (.inl ⟨_, SqT.grow Im_le h, by rw [isEmpty_len (LyAll.length l)]⟩)
    | _ => cases e
  | ref l =>
    obtain ⟨a, g, rfl⟩ := r
    cases hc : μ[l]? with
    | none => simp [truD, hc] at e
    | some c =>
      have ck := w.cell l a c g hc
      cases c with
      | lst ds =>
        simp only [truD, hc, Option.some.injEq] at e
        obtain ⟨vs, k1, k2⟩ := ck
        exact .inl ⟨_, SqL.of k1, by rw [isEmpty_len (LyAll.length k2)]; exact e.symm⟩
      | lls ls =>
        simp only [truD, hc, Option.some.injEq] at e
        obtain ⟨as, k1, k2⟩ := ck
        have hl : as.length = ls.length := by
          have := congrArg List.length k2
          simpa using this
        refine .inl ⟨_, SqL.of k1, ?_⟩
        rw [← e, isEmpty_len (show (as.map V.ref).length = ls.length by simpa using hl)]
      | dic kvs =>
        simp only [truD, hc, Option.some.injEq] at e
        obtain ⟨ws, k1, k2, _⟩ := ck
        have hl : ws.length = kvs.length := by
          have := congrArg List.length k2
          simpa using this
        exact .inr (.inr ⟨ws, k1, by rw [isEmpty_len hl]; exact e.symm⟩)
      | _ => simp [truD, hc] at e
  | scr ns => cases e
section
variable {X : Cx} {W : Wish} {a : Expr} {ea : EvE}
theorem st_tru (ha : SE X W a ea) (he : ∀ whole, isTrue a X.env whole = (do let v ← whole; standAt a.pos; holding [v] (truthy v)) := by intro _; rfl) : ST X W a (eTru ea) := by
  refine pt_imp (pt_truth ha he) fun σ H Q h => ?_
  obtain ⟨ad, xs, env, μ, sr, w, p⟩ := h
  refine ⟨ad, xs, env, μ, sr, w, p.bind.mono fun d H1 ad1 μ1 e1 w1 q v r => ?_⟩
  dsimp only at q
  cases hb : truD μ1 d with
  | none => rw [hb] at q; exact q.elim
  | some b =>
    rw [hb] at q
    exact ⟨b, tru_rep w1 r hb, q.ok w1⟩
end

/-! ### in, not in, of flat data in lists and tuples -/
/-- flat data: none, bools, ints, texts -/
def flatD : PyData → Bool
  | .none => true
  | .bool _ => true
  | .int _ => true
  | .str _ => true
  | _ => false
/-- == of flat data -/
def eqF : PyData → PyData → Bool
  | .none, .none => true
  | .bool a, .bool b => a == b
  | .bool a, .int b => (if a then 1 else 0) == b
  | .int a, .bool b => a == (if b then 1 else 0)
  | .int a, .int b => a == b
  | .str a, .str b => a == b
  | _, _ => false
def seqOf : PyData → Option (List PyData)
  | .list ds => some ds
  | .tuple ds => some ds
  | _ => none
def inD (a : PyData) (ds : List PyData) : Bool := ds.any fun y => eqF y a
def fIn : F2 := fun a b => match seqOf b with
  | some ds => if flatD a = true ∧ ds.all flatD = true then some (.bool (inD a ds)) else none
  | none => none
def fNotIn : F2 := fun a b => match seqOf b with
  | some ds => if flatD a = true ∧ ds.all flatD = true then some (.bool (!inD a ds)) else none
  | none => none
theorem ly_flat {K : PySem.W.Frag} {H : Hp} {v : V} {d : PyData} (l : Ly K H v d) (f : flatD d = true) : flatV v = true := by
  cases l <;> first | rfl | cases f
theorem ly_eqF {K : PySem.W.Frag} {H : Hp} {v u : V} {d e : PyData} (l : Ly K H v d) (m : Ly K H u e) (f : flatD d = true) (g : flatD e = true) : eqV v u = eqF d e := by
  cases l <;> cases m <;> first | rfl | exact absurd f (by simp [flatD]) | exact absurd g (by simp [flatD])
theorem ly_in {K : PySem.W.Frag} {H : Hp} {u : V} {e : PyData} (m : Ly K H u e) (g : flatD e = true) : ∀ {vs : List V} {ds : List PyData}, LyAll K H vs ds → ds.all flatD = true → vs.all flatV = true ∧ inV u vs = inD e ds
  | _, _, .nil, _ => ⟨rfl, rfl⟩
  | _, _, .cons h t, f => by
    rw [List.all_cons, Bool.and_eq_true] at f
    obtain ⟨h1, h2⟩ := ly_in m g t f.2
    refine ⟨by rw [List.all_cons, ly_flat h f.1, h1]; rfl, ?_⟩
    unfold inV inD at h2 ⊢
    rw [List.any_cons, List.any_cons, ly_eqF h m f.1 g, h2]
section
variable {X : Cx} {K : PySem.W.Frag}
theorem in_core {H : Hp} {ad xs : List Addr} {x y : V} {a b : PyData} {ds : List PyData} (m : Mo K H ad xs x a) (n : Mo K H ad xs y b) (hs : seqOf b = some ds) (h1 : flatD a = true) (h2 : ds.all flatD = true) :
    ∃ p vs, y = .ref p ∧ (SqL K H p vs ∨ SqT K H p vs) ∧ flatV x = true ∧ vs.all flatV = true ∧ inV x vs = inD a ds := by
  have lx : Ly K (Im H ad xs) x a := by
    rcases m with m | ⟨p, vs, es, rfl, rfl, _, _⟩
    · exact m
    · cases h1
  cases b with
  | list es =>
    cases hs
    obtain ⟨p, vs, rfl, e, l⟩ := n.list
    obtain ⟨k1, k2⟩ := ly_in lx h1 l h2
    exact ⟨p, vs, rfl, .inl (SqL.of e), ly_flat lx h1, k1, k2⟩
  | tuple es =>
    cases hs
    obtain ⟨p, vs, rfl, e, l⟩ := n.tuple
    obtain ⟨k1, k2⟩ := ly_in lx h1 l h2
    exact ⟨p, vs, rfl, .inr e, ly_flat lx h1, k1, k2⟩
  | _ => cases hs
theorem r2_in : R2Ok K (rIn K false) fIn := fun H ad xs μ x y a b c Q w m n e q => by
  unfold fIn at e
  split at e
  · rename_i ds hs
    split at e
    · rename_i h
      cases e
      obtain ⟨p, vs, k1, k2, k3, k4, k5⟩ := in_core m n hs h.1 h.2
      refine ⟨p, vs, k1, k2, k3, k4, ?_⟩
      rw [k5]
      exact q.same w (.bl _)
    · cases e
  · cases e
theorem r2_notIn : R2Ok K (rIn K true) fNotIn := fun H ad xs μ x y a b c Q w m n e q => by
  unfold fNotIn at e
  split at e
  · rename_i ds hs
    split at e
    · rename_i h
      cases e
      obtain ⟨p, vs, k1, k2, k3, k4, k5⟩ := in_core m n hs h.1 h.2
      refine ⟨p, vs, k1, k2, k3, k4, ?_⟩
      rw [k5]
      exact q.same w (.bl _)
    · cases e
  · cases e
variable {W : Wish} {a b : Expr} {ea eb : EvE} {pos : Pos}
theorem se_in (ha : SE X W a ea) (hb : SE X W b eb) (hm : behindInMarks .In b = false := by rfl) : SE X W (.Compare a [.In] [b] pos) (eOp2 fIn ea eb) := se_cmp2 op_in_seq r2_in hm ha hb
theorem se_notIn (ha : SE X W a ea) (hb : SE X W b eb) (hm : behindInMarks .NotIn b = false := by rfl) : SE X W (.Compare a [.NotIn] [b] pos) (eOp2 fNotIn ea eb) := se_cmp2 op_notIn_seq r2_notIn hm ha hb
theorem st_in (ha : SE X W a ea) (hb : SE X W b eb) (hm : behindInMarks .In b = false := by rfl) : ST X W (.Compare a [.In] [b] pos) (eTst (eOp2 fIn ea eb)) := st_cmp2 op_in_seq r2_in hm ha hb
theorem st_notIn (ha : SE X W a ea) (hb : SE X W b eb) (hm : behindInMarks .NotIn b = false := by rfl) : ST X W (.Compare a [.NotIn] [b] pos) (eTst (eOp2 fNotIn ea eb)) := st_cmp2 op_notIn_seq r2_notIn hm ha hb
end

/-! ### isinstance(x, T) -/
def tyNames : List String := ["NoneType", "bool", "int", "str", "list", "tuple", "dict"]
def isiB (a b : String) : Bool := a == b || (a == "bool" && b == "int")
theorem kit_all : ∀ a ∈ tyNames, ∀ b ∈ tyNames, kitB a b = some (isiB a b) := by decide +kernel
/-- the name of a value's type, by its index -/
def tyD : D → String
  | .pd .none => "NoneType"
  | .pd (.bool _) => "bool"
  | .pd (.int _) => "int"
  | .pd (.str _) => "str"
  | .pd (.list _) => "list"
  | .pd (.tuple _) => "tuple"
  | .pd (.dict _) => ""
  | .ref _ => ""
  | .scr _ => ""
/-- whether a value is of the type T -/
def isInst (T : String) : D → Option Bool
  | .pd .none => some false
  | .pd (.bool _) => some (T == "bool" || T == "int")
  | .pd (.int _) => some (T == "int")
  | .pd (.str _) => some (T == "str")
  | .pd (.list _) => some (T == "list")
  | .pd (.tuple _) => some (T == "tuple")
  | _ => none
def eIsi (T : String) (ea : EvE) : EvE := fun env μ => (ea env μ).bind fun p => match isInst T p.1 with
  | some b => .ok (.pd (.bool b), p.2)
  | none => .stuck
theorem isi_ly {K : PySem.W.Frag} {H : Hp} {ad xs : List Addr} {T : String} (hT : T ∈ ["bool", "int", "str", "list", "tuple", "dict"]) {d : D} {v : V} {b : Bool} (r : Rep K H ad xs d v) (e : isInst T d = some b) :
    ∃ t : String, TyX K H v (.type t) ∧ kitB t T = some b := by
  have hT' : T ∈ tyNames := List.mem_cons_of_mem _ hT
  have nn : (("NoneType" : String) == T) = false := by
    rw [beq_eq_false_iff_ne]
    rintro rfl
    revert hT; decide
  cases d with
  | pd d =>
    cases d with
    | none => cases e; cases r; exact ⟨_, .base .non, by rw [kit_all "NoneType" (by decide) T hT']; unfold isiB; rw [nn]; rfl⟩
    | bool k => cases e; cases r; exact ⟨_, .base (.bl _), by rw [kit_all "bool" (by decide) T hT']; unfold isiB; rw [Bool.beq_comm (a := T) (b := "bool"), show (("bool" : String) == "bool") = true from rfl, Bool.true_and]⟩
    | int i => cases e; cases r; exact ⟨_, .base (.int _), by rw [kit_all "int" (by decide) T hT']; unfold isiB; rw [show (("int" : String) == "bool") = false from rfl, Bool.false_and, Bool.or_false, Bool.beq_comm]⟩
    | str i => cases e; cases r; exact ⟨_, .base (.str _), by rw [kit_all "str" (by decide) T hT']; unfold isiB; rw [show (("str" : String) == "bool") = false from rfl, Bool.false_and, Bool.or_false, Bool.beq_comm]⟩
    | list ds =>
      cases e
      cases r with
      | lst h l => exact ⟨_, .base (.lst (Im_le _ _ h)), by rw [kit_all "list" (by decide) T hT']; unfold isiB; rw [show (("list" : String) == "bool") = false from rfl, Bool.false_and, Bool.or_false, Bool.beq_comm]⟩
    | tuple ds =>
      cases e
      have k : kitB "tuple" T = some (T == "tuple") := by rw [kit_all "tuple" (by decide) T hT']; unfold isiB; rw [show (("tuple" : String) == "bool") = false from rfl, Bool.false_and, Bool.or_false, Bool.beq_comm]
      cases r with
      | tup h l =>
        rcases SqT.grow Im_le h with (h | ⟨o, h⟩) | ⟨o, its, n, k1, k2, _⟩
        · exact ⟨_, .base (.tup h), k⟩
        · exact ⟨_, .fTuple h, k⟩
        · exact ⟨_, .kTuple k1 k2, k⟩
    | dict _ => cases e
  | ref l => cases e
  | scr ns => cases e
section
variable {X : Cx} {W : Wish} {a : Expr} {ea : EvE} {pos p q : Pos} {x : Str} {T : String}
theorem se_isi (hT : T ∈ ["bool", "int", "str", "list", "tuple", "dict"]) (hg : Gl X "isinstance") (hm : X.mg "isinstance" = none) (hv : bootBuiltins "isinstance" = some (.builtin "isinstance")) (hgT : Gl X x) (hmT : X.mg x = none) (hvT : bootBuiltins x = some (.type T)) (ha : SE X W a ea)
    (hn : x ≠ "__name__" := by decide) (hd : (x == ("__debug__" : Str)) = false := by decide)
    (he : starEach [a, .Name x q] X.env = (false, eval a X.env) :: starEach [.Name x q] X.env := by rfl) (hpl : (backTo pos (starEach [.Name x q] X.env)).any (·.1) = false := by rfl)
    (hs : starEach [a, .Name x q] X.env = (false, eval a X.env) :: starEach [.Name x q] X.env := by rfl) (hs2 : starEach [.Name x q] X.env = (false, eval (.Name x q) X.env) :: starEach [] X.env := by rfl) :
    SE X W (.Call (.Name "isinstance" p) [a, .Name x q] [] pos) (eIsi T ea) := by
  refine pe_imp (pe_callB call_isi hg hm hv (pa_cons ha (pa_cons (pe_bltn (v := .ty T) hgT hmT hvT rfl hn hd) pa_nil hs2) hs) (by decide) (by decide) he hpl) fun σ H Q h => ?_
  obtain ⟨ad, xs, env, μ, sr, w, p⟩ := h
  refine ⟨ad, xs, env, μ, sr, w, p.bind.mono fun d H1 ad1 μ1 e1 w1 q v r => ?_⟩
  dsimp only at q
  cases hb : isInst T d with
  | none => rw [hb] at q; exact q.elim
  | some b =>
    rw [hb] at q
    obtain ⟨t, k1, k2⟩ := isi_ly hT r hb
    exact ⟨v, .ty T, .type t, .type T, b, rfl, .ty T, k1, kit_ty k2, q.ok w1 _ (.bl b)⟩
end

/-! ### methods of lists that may change -/
/-- how a method changes a list: its items, the arguments: the answer, the items then -/
abbrev FM := List PyData → List PyData → Option (PyData × List PyData)
abbrev RM := V → List V → Hp → VK → Prop
def MOk (K : PySem.W.Frag) (r : RM) (f : FM) : Prop := ∀ (H I : Hp) (a : Addr) (vs ws : List V) (ds ps : List PyData) (c : PyData) (es : List PyData) (Q : VK), H a = some (.lst vs) → Same I H → LyAll K I vs ds → LyAll K I ws ps → f ds ps = some (c, es) →
  (∀ v us, LyAll K I us es → Ly K I v c → Q v (upd H a (.lst us))) → r (.ref a) ws H Q
def eMeth (f : FM) (eo : EvE) (ea : EvA) : EvE := fun env μ => (eo env μ).bind fun p => match p.1 with
  | .ref l => match p.2[l]? with
    | some (.lst _) => (ea env p.2).bind fun q => match q.2[l]?, pdAll q.1 with
      | some (.lst ds), some ps => match f ds ps with
        | some (c, es) => .ok (.pd c, q.2.set l (.lst es))
        | none => .stuck
      | _, _ => .stuck
    | _ => .stuck
  | _ => .stuck
section
variable {X : Cx} {W : Wish} {o e : Expr} {es : List Expr} {eo : EvE} {ea : EvA} {apos cpos : Pos} {r : RM} {f : FM} {name : Str} {id : String}
theorem meth_core (hf : MOk X.K r f) {σ : L2.St} {H : Hp} {Q : VK} (h : tD X.K W (eMeth f eo ea) σ H Q) : tBM X.K "list" r (tD X.K W eo) (tDA X.K W ea) σ H Q := by
  obtain ⟨ad, xs, env, μ, sr, w, p⟩ := h
  refine ⟨ad, xs, env, μ, sr, w, p.bind.mono fun d H1 ad1 μ1 e1 w1 q v r => ?_⟩
  dsimp only at q
  cases d with
  | ref l =>
    dsimp only at q
    obtain ⟨a, g, rfl⟩ := r
    cases hc : μ1[l]? with
    | none => rw [hc] at q; exact q.elim
    | some c =>
      cases c with
      | lst ds0 =>
        rw [hc] at q
        dsimp only at q
        obtain ⟨vs0, k1, _⟩ := w1.cell l a _ g hc
        refine ⟨.inl ⟨rfl, vs0, SqL.of k1⟩, ad1, xs, env, μ1, sr.ext e1, w1, q.bind.mono fun as H2 ad2 μ2 e2 w2 q2 ws rs => ?_⟩
        dsimp only at q2
        cases hc2 : μ2[l]? with
        | none => rw [hc2] at q2; exact q2.elim
        | some c2 =>
          cases c2 with
          | lst ds =>
            rw [hc2] at q2
            cases hp : pdAll as with
            | none => rw [hp] at q2; exact q2.elim
            | some ps =>
              rw [hp] at q2
              dsimp only at q2
              cases hr : f ds ps with
              | none => rw [hr] at q2; exact q2.elim
              | some ce =>
                obtain ⟨c3, es3⟩ := ce
                rw [hr] at q2
                dsimp only at q2
                have g2 := e2.get g
                obtain ⟨vs, k2, k3⟩ := w2.cell l a _ g2 hc2
                refine hf H2 (Im H2 ad2 xs) a vs ws ds ps c3 es3 Q k2 Im_le k3 (pdAll_rep hp rs) hr fun v us lu lv => ?_
                have em : Im (upd H2 a (.lst us)) ad2 xs = Im H2 ad2 xs := by
                  funext b
                  unfold Im upd
                  by_cases eb : b = a
                  · subst eb; simp [List.mem_of_getElem? g2]
                  · simp [eb]
                obtain ⟨w3, e3⟩ := w2.write (o := .lst us) (c := .lst es3) g2 ⟨us, upd_same, by rw [em]; exact lu⟩
                exact q2.ok_at e3 w3 v (Ly.grow e3.same lv)
          | _ => rw [hc2] at q2; exact q2.elim
      | _ => rw [hc] at q; exact q.elim
  | _ => exact q.elim
theorem meth0_core (hf : MOk X.K r f) {σ : L2.St} {H : Hp} {Q : VK} (h : tD X.K W (eMeth f eo aNil) σ H Q) : tBM0 X.K "list" r (tD X.K W eo) σ H Q := by
  have h2 := meth_core (ea := aNil) hf h
  obtain ⟨ad, xs, env, μ, sr, w, p⟩ := h2
  refine ⟨ad, xs, env, μ, sr, w, p.mono fun d H1 ad1 μ1 e1 w1 q v r => ?_⟩
  obtain ⟨q1, ad2, xs2, env2, μ2, sr2, w2, q2⟩ := q v r
  exact ⟨q1, q2.ok w2 [] .nil⟩
theorem se_meth (slot : Slot "list" name id) (hty : typeOf (.builtin id) = pure (.type "method_descriptor")) (hm : MtR X id r) (hf : MOk X.K r f) (ho : SE X W o eo) (ha : SA X W (e :: es) ea)
    (hbase : attributeBase o name X.env (eval o X.env) = eval o X.env := by rfl)
    (hfew : ((backTo cpos (starEach (e :: es) X.env)).all (fun x => !x.1) && (backToKw cpos (keywordEach [] X.env)).all (fun x => x.1.isSome)
      && decide ((e :: es).length + ([] : List Keyword).length + (if ([] : List Keyword).isEmpty then 0 else 1) < 30)) = true := by rfl)
    (hline : (apos.endLine == cpos.line) = true := by rfl) (hs : starEach (e :: es) X.env = (false, eval e X.env) :: starEach es X.env := by rfl) (hplain : (backTo cpos (starEach es X.env)).any (·.1) = false := by rfl) :
    SE X W (.Call (.Attribute o name apos) (e :: es) [] cpos) (eMeth f eo ea) := pe_imp (pe_bm PySem.F.plainAttrs_list slot hty hm ho ha hbase hfew hline hs hplain) fun _ _ _ h => meth_core hf h
theorem se_meth0 (slot : Slot "list" name id) (hty : typeOf (.builtin id) = pure (.type "method_descriptor")) (hm : MtR X id r) (hf : MOk X.K r f) (ho : SE X W o eo)
    (hbase : attributeBase o name X.env (eval o X.env) = eval o X.env := by rfl) (hline : (apos.endLine == cpos.line) = true := by rfl) :
    SE X W (.Call (.Attribute o name apos) [] [] cpos) (eMeth f eo aNil) := pe_imp (pe_bm0 PySem.F.plainAttrs_list slot hty hm ho hbase hline) fun _ _ _ h => meth0_core hf h
end
def mAppend : FM
  | ds, [p] => if ds.length < sizeLine then some (.none, ds ++ [p]) else none
  | _, _ => none
def mPop : FM
  | ds, [] => ds.getLast?.map fun d => (d, ds.dropLast)
  | _, _ => none
def mPopAt : FM
  | ds, [.int i] => if -(2 ^ 63) ≤ i ∧ i < 2 ^ 63 then (seqIndex? i ds.length).bind fun k => ds[k]?.map fun d => (d, ds.eraseIdx k) else none
  | _, _ => none
/-- the place of an insertion -/
def mInsert : FM
  | ds, [.int i, p] => if ds.length < sizeLine ∧ 0 ≤ i ∧ i ≤ ds.length then some (.none, ds.take i.toNat ++ p :: ds.drop i.toNat) else none
  | _, _ => none
/-- the first place -/
def idxF (p : PyData) : List PyData → Option Nat
  | [] => none
  | d :: r => if eqF d p = true then some 0 else (idxF p r).map (· + 1)
def mIndex : FM
  | ds, [p] => if flatD p = true ∧ ds.all flatD = true then (idxF p ds).map fun (j : Nat) => ((.int (j : Int) : PyData), ds) else none
  | _, _ => none
section
variable {X : Cx} {K : PySem.W.Frag}
theorem LyAll.one {K : PySem.W.Frag} {H : Hp} {ws : List V} {p : PyData} (h : LyAll K H ws [p]) : ∃ v, ws = [v] ∧ Ly K H v p := by
  cases h with
  | cons h t => cases t; exact ⟨_, rfl, h⟩
theorem LyAll.two {K : PySem.W.Frag} {H : Hp} {ws : List V} {p q : PyData} (h : LyAll K H ws [p, q]) : ∃ v u, ws = [v, u] ∧ Ly K H v p ∧ Ly K H u q := by
  cases h with
  | cons h t =>
    cases t with
    | cons h2 t2 => cases t2; exact ⟨_, _, rfl, h, h2⟩
theorem LyAll.zero {K : PySem.W.Frag} {H : Hp} {ws : List V} (h : LyAll K H ws []) : ws = [] := by cases h; rfl
theorem mo_append : MOk K rAppend mAppend := fun H I a vs ws ds ps c es Q ha si lv lw e q => by
  unfold mAppend at e
  split at e
  · split at e
    · rename_i hz
      cases e
      obtain ⟨v, rfl, l⟩ := LyAll.one lw
      exact ⟨a, vs, v, rfl, rfl, ha, by rw [LyAll.length lv]; exact hz, q _ _ (LyAll.append lv (.cons l .nil)) .non⟩
    · cases e
  · cases e
theorem mo_pop : MOk K rPop mPop := fun H I a vs ws ds ps c es Q ha si lv lw e q => by
  unfold mPop at e
  split at e
  · simp only [Option.map_eq_some_iff] at e
    obtain ⟨d, e1, e2⟩ := e
    cases e2
    cases LyAll.zero lw
    rw [List.getLast?_eq_getElem?] at e1
    obtain ⟨v, h1, h2⟩ := LyAll.get lv e1
    have hl := LyAll.length lv
    refine ⟨a, vs, v, rfl, rfl, ha, by rw [hl]; exact h1, q _ _ ?_ h2⟩
    rw [List.dropLast_eq_take, List.dropLast_eq_take, hl]
    exact LyAll.take _ lv
  · cases e
theorem mo_popAt : MOk K rPopAt mPopAt := fun H I a vs ws ds ps c es Q ha si lv lw e q => by
  unfold mPopAt at e
  split at e
  · split at e
    · rename_i i hz
      simp only [Option.bind_eq_some_iff, Option.map_eq_some_iff] at e
      obtain ⟨k, e0, d, e1, e2⟩ := e
      cases e2
      obtain ⟨v, rfl, l⟩ := LyAll.one lw
      cases l
      obtain ⟨v, h1, h2⟩ := LyAll.get lv e1
      have hl := LyAll.length lv
      exact ⟨a, vs, i, k, v, rfl, rfl, ha, hz.1, hz.2, by rw [hl]; exact e0, h1, q _ _ (LyAll.eraseIdx k lv) h2⟩
    · cases e
  · cases e
theorem idx_ly {K : PySem.W.Frag} {H : Hp} {u : V} {p : PyData} (m : Ly K H u p) (g : flatD p = true) : ∀ {vs : List V} {ds : List PyData} {j : Nat}, LyAll K H vs ds → ds.all flatD = true → idxF p ds = some j →
    ∃ z, vs[j]? = some z ∧ eqV z u = true ∧ ∀ (m : Nat) (z' : V), m < j → vs[m]? = some z' → eqV z' u = false
  | _, _, _, .nil, _, e => by cases e
  | v :: vs, d :: ds, j, .cons h t, f, e => by
    rw [List.all_cons, Bool.and_eq_true] at f
    unfold idxF at e
    have he := ly_eqF h m f.1 g
    split at e
    · rename_i h1
      cases e
      exact ⟨v, rfl, by rw [he]; exact h1, fun m z' hm _ => absurd hm (Nat.not_lt_zero m)⟩
    · rename_i h1
      simp only [Option.map_eq_some_iff] at e
      obtain ⟨k, e1, rfl⟩ := e
      obtain ⟨z, k1, k2, k3⟩ := idx_ly m g t f.2 e1
      refine ⟨z, by simpa using k1, k2, fun m' z' hm hz => ?_⟩
      cases m' with
      | zero =>
        simp at hz
        subst hz
        rw [he]
        exact Bool.eq_false_iff.mpr h1
      | succ m' => exact k3 m' z' (by omega) (by simpa using hz)
theorem mo_index : MOk K (rIndex K) mIndex := fun H I a vs ws ds ps c es Q ha si lv lw e q => by
  unfold mIndex at e
  split at e
  · split at e
    · rename_i p hz
      simp only [Option.map_eq_some_iff] at e
      obtain ⟨j, e1, e2⟩ := e
      cases e2
      obtain ⟨v, rfl, l⟩ := LyAll.one lw
      obtain ⟨z, k1, k2, k3⟩ := idx_ly l hz.1 lv hz.2 e1
      obtain ⟨f1, _⟩ := ly_in l hz.1 lv hz.2
      refine ⟨a, vs, v, j, z, rfl, rfl, SqL.of ha, ly_flat l hz.1, f1, k1, k2, k3, ?_⟩
      have q' := q (.int (j : Int)) vs lv (.int _)
      have eu : upd H a (.lst vs) = H := by
        funext b
        unfold upd
        split
        · rename_i hb
          rw [hb, ha]
        · rfl
      rw [eu] at q'
      exact q'
    · cases e
  · cases e
theorem mo_insert : MOk K (fun x vs H Q => ∃ (l : Addr) (xs : List V) (i : Int) (y : V), x = .ref l ∧ vs = [.int i, y] ∧ H l = some (.lst xs) ∧ xs.length < sizeLine ∧ 0 ≤ i ∧ i < 2 ^ 63 ∧
    Q .non (upd H l (.lst (xs.take i.toNat ++ [y] ++ xs.drop i.toNat)))) mInsert := fun H I a vs ws ds ps c es Q ha si lv lw e q => by
  unfold mInsert at e
  split at e
  · split at e
    · rename_i hz
      cases e
      obtain ⟨v, u, rfl, l1, l2⟩ := LyAll.two lw
      cases l1
      have hl := LyAll.length lv
      have hs : (sizeLine : Nat) < 2 ^ 63 := line63
      refine ⟨a, vs, _, u, rfl, rfl, ha, by rw [hl]; exact hz.1, hz.2.1, by omega, q _ _ ?_ .non⟩
      rw [List.append_assoc]
      exact LyAll.append (LyAll.take _ lv) (.cons l2 (LyAll.drop _ lv))
    · cases e
  · cases e
variable {W : Wish} {o a b : Expr} {eo ea eb : EvE} {apos cpos : Pos}
theorem se_append (ho : SE X W o eo) (ha : SE X W a ea) (hbase : attributeBase o "append" X.env (eval o X.env) = eval o X.env := by rfl)
    (hfew : ((backTo cpos (starEach [a] X.env)).all (fun x => !x.1) && (backToKw cpos (keywordEach [] X.env)).all (fun x => x.1.isSome) && decide (([a] : List Expr).length + ([] : List Keyword).length + (if ([] : List Keyword).isEmpty then 0 else 1) < 30)) = true := by rfl)
    (hline : (apos.endLine == cpos.line) = true := by rfl) (hs : starEach [a] X.env = (false, eval a X.env) :: starEach [] X.env := by rfl) (hp : (backTo cpos (starEach [] X.env)).any (·.1) = false := by rfl) :
    SE X W (.Call (.Attribute o "append" apos) [a] [] cpos) (eMeth mAppend eo (aCons ea aNil)) := se_meth PySem.F.slot_list_append PySem.F.type_list_append mt_append mo_append ho (sa_cons ha sa_nil hs) hbase hfew hline hs hp
theorem se_pop (ho : SE X W o eo) (hbase : attributeBase o "pop" X.env (eval o X.env) = eval o X.env := by rfl) (hline : (apos.endLine == cpos.line) = true := by rfl) :
    SE X W (.Call (.Attribute o "pop" apos) [] [] cpos) (eMeth mPop eo aNil) := se_meth0 PySem.F.slot_list_pop PySem.F.type_list_pop mt_pop mo_pop ho hbase hline
theorem se_popAt (ho : SE X W o eo) (ha : SE X W a ea) (hbase : attributeBase o "pop" X.env (eval o X.env) = eval o X.env := by rfl)
    (hfew : ((backTo cpos (starEach [a] X.env)).all (fun x => !x.1) && (backToKw cpos (keywordEach [] X.env)).all (fun x => x.1.isSome) && decide (([a] : List Expr).length + ([] : List Keyword).length + (if ([] : List Keyword).isEmpty then 0 else 1) < 30)) = true := by rfl)
    (hline : (apos.endLine == cpos.line) = true := by rfl) (hs : starEach [a] X.env = (false, eval a X.env) :: starEach [] X.env := by rfl) (hp : (backTo cpos (starEach [] X.env)).any (·.1) = false := by rfl) :
    SE X W (.Call (.Attribute o "pop" apos) [a] [] cpos) (eMeth mPopAt eo (aCons ea aNil)) := se_meth PySem.F.slot_list_pop PySem.F.type_list_pop mt_popAt mo_popAt ho (sa_cons ha sa_nil hs) hbase hfew hline hs hp
theorem se_index (ho : SE X W o eo) (ha : SE X W a ea) (hbase : attributeBase o "index" X.env (eval o X.env) = eval o X.env := by rfl)
    (hfew : ((backTo cpos (starEach [a] X.env)).all (fun x => !x.1) && (backToKw cpos (keywordEach [] X.env)).all (fun x => x.1.isSome) && decide (([a] : List Expr).length + ([] : List Keyword).length + (if ([] : List Keyword).isEmpty then 0 else 1) < 30)) = true := by rfl)
    (hline : (apos.endLine == cpos.line) = true := by rfl) (hs : starEach [a] X.env = (false, eval a X.env) :: starEach [] X.env := by rfl) (hp : (backTo cpos (starEach [] X.env)).any (·.1) = false := by rfl) :
    SE X W (.Call (.Attribute o "index" apos) [a] [] cpos) (eMeth mIndex eo (aCons ea aNil)) := se_meth PySem.F.slot_list_index PySem.F.type_list_index mt_index mo_index ho (sa_cons ha sa_nil hs) hbase hfew hline hs hp
theorem se_insert (ho : SE X W o eo) (ha : SE X W a ea) (hb : SE X W b eb) (hbase : attributeBase o "insert" X.env (eval o X.env) = eval o X.env := by rfl)
    (hfew : ((backTo cpos (starEach [a, b] X.env)).all (fun x => !x.1) && (backToKw cpos (keywordEach [] X.env)).all (fun x => x.1.isSome) && decide (([a, b] : List Expr).length + ([] : List Keyword).length + (if ([] : List Keyword).isEmpty then 0 else 1) < 30)) = true := by rfl)
    (hline : (apos.endLine == cpos.line) = true := by rfl) (hs : starEach [a, b] X.env = (false, eval a X.env) :: starEach [b] X.env := by rfl) (hs2 : starEach [b] X.env = (false, eval b X.env) :: starEach [] X.env := by rfl) (hp : (backTo cpos (starEach [b] X.env)).any (·.1) = false := by rfl) :
    SE X W (.Call (.Attribute o "insert" apos) [a, b] [] cpos) (eMeth mInsert eo (aCons ea (aCons eb aNil))) := se_meth PySem.F.slot_list_insert PySem.F.type_list_insert mt_insert mo_insert ho (sa_cons ha (sa_cons hb sa_nil hs2) hs) hbase hfew hline hs hp
end
end Zd

set_option Elab.async false
set_option linter.all false
set_option maxRecDepth 100000
set_option maxHeartbeats 4000000
/-! Statements, read by value. -/
namespace Zd
open PySem PySem.Spec PyProof.Rows L2

inductive Fl where
  | nx
  | rt (d : D)
  | bk
  | ct
abbrev EvS := Env → Store → Out ((Fl × Env) × Store)
/-- what is wanted at an end -/
def AtEnd (K : PySem.W.Frag) (xs : List Addr) (D : Ends) (q : Fl × Env) (H : Hp) (ad : List Addr) : Prop := ∀ σ', SRep K H ad xs σ' q.2 →
  match q.1 with
  | .nx => D.nx σ' H
  | .rt d => ∀ v, Rep K H ad xs d v → D.rt v H
  | .bk => D.bk σ' H
  | .ct => D.ct σ' H
def tDS (K : PySem.W.Frag) (W : Wish) (ev : EvS) : TS := fun D σ H => ∃ ad xs env μ, SRep K H ad xs σ env ∧ WOk K H ad xs μ ∧
  Post K xs W H ad (ev env μ) fun q H' ad' _ => AtEnd K xs D q H' ad'
abbrev SS (X : Cx) (W : Wish) (st : Stmt) (ev : EvS) : Prop := PS X st (tDS X.K W ev)
abbrev SSs (X : Cx) (W : Wish) (st : List Stmt) (ev : EvS) : Prop := PSs X st (tDS X.K W ev)
section
variable {X : Cx}
theorem ps_imp {st : Stmt} {t t' : TS} (h : PS X st t) (k : ∀ D σ H, t' D σ H → t D σ H) : PS X st t' := ⟨fun pins s σ H D I q => h.run pins s σ H D I (k _ _ _ q)⟩
theorem pss_imp {st : List Stmt} {t t' : TS} (h : PSs X st t) (k : ∀ D σ H, t' D σ H → t D σ H) : PSs X st t' := ⟨fun pins s σ H D I q => h.run pins s σ H D I (k _ _ _ q)⟩
end

/-! ### blocks -/
def sNil : EvS := fun env μ => .ok ((.nx, env), μ)
def sCons (a b : EvS) : EvS := fun env μ => (a env μ).bind fun p => match p.1.1 with
  | .nx => b p.1.2 p.2
  | f => .ok ((f, p.1.2), p.2)
/-- slots forgotten -/
def sForget (vs : List Nat) (a : EvS) : EvS := fun env μ => (a env μ).bind fun p => .ok ((p.1.1, wipeE p.1.2 vs), p.2)
def sExp (ea : EvE) : EvS := fun env μ => (ea env μ).bind fun p => .ok ((.nx, env), p.2)
def sRet (ea : EvE) : EvS := fun env μ => (ea env μ).bind fun p => .ok ((.rt p.1, env), p.2)
def sRetN : EvS := fun env μ => .ok ((.rt (.pd .none), env), μ)
def sBrk : EvS := fun env μ => .ok ((.bk, env), μ)
def sCnt : EvS := fun env μ => .ok ((.ct, env), μ)
def sIf (c : EvT) (a b : EvS) : EvS := fun env μ => (c env μ).bind fun p => if p.1 = true then a env p.2 else b env p.2
def sStuck : EvS := fun _ _ => .stuck
section
variable {X : Cx} {W : Wish} {st : Stmt} {rest as bs : List Stmt} {a b : EvS} {e c : Expr} {ea : EvE} {ec : EvT} {pos : Pos}
theorem ss_nil : SSs X W [] sNil := pss_imp pss_nil fun D σ H h => by
  obtain ⟨ad, xs, env, μ, sr, w, p⟩ := h
  exact (p.ok w) σ sr
theorem seq_core {D : Ends} {σ : L2.St} {H : Hp} (h : tDS X.K W (sCons a b) D σ H) : tSeq (tDS X.K W a) (tDS X.K W b) D σ H := by
  obtain ⟨ad, xs, env, μ, sr, w, p⟩ := h
  refine ⟨ad, xs, env, μ, sr, w, p.bind.mono fun q H1 ad1 μ1 e1 w1 p1 σ1 sr1 => ?_⟩
  obtain ⟨f, env1⟩ := q
  dsimp only at p1
  cases f with
  | nx => exact ⟨ad1, xs, env1, μ1, sr1, w1, p1⟩
  | rt d => exact (p1.ok w1) σ1 sr1
  | bk => exact (p1.ok w1) σ1 sr1
  | ct => exact (p1.ok w1) σ1 sr1
theorem ss_cons (h1 : SS X W st a) (h2 : SSs X W rest b) : SSs X W (st :: rest) (sCons a b) := pss_imp (pss_cons h1 h2) fun D σ H h => seq_core h
theorem ss_one (h1 : SS X W st a) : SSs X W [st] a := pss_one h1
theorem forget_core {vs : List Nat} {D : Ends} {σ : L2.St} {H : Hp} (h : tDS X.K W (sForget vs a) D σ H) : tDS X.K W a D σ H := by
  obtain ⟨ad, xs, env, μ, sr, w, p⟩ := h
  refine ⟨ad, xs, env, μ, sr, w, p.bind.mono fun q H1 ad1 μ1 e1 w1 p1 σ1 sr1 => ?_⟩
  exact (p1.ok w1) σ1 (sr1.forgets vs)
theorem ss_forget (vs : List Nat) (h : SSs X W as a) : SSs X W as (sForget vs a) := pss_imp h fun D σ H h => forget_core h
theorem ss_forget1 (vs : List Nat) (h : SS X W st a) : SS X W st (sForget vs a) := ps_imp h fun D σ H h => forget_core h
theorem ss_exp (he : SE X W e ea) (hs : swapsWith e none pos.line X.env = pure false := by rfl) : SS X W (.Expr e pos) (sExp ea) := ps_imp (ps_expr he hs) fun D σ H h => by
  obtain ⟨ad, xs, env, μ, sr, w, p⟩ := h
  exact ⟨ad, xs, env, μ, sr, w, p.bind.mono fun d H1 ad1 μ1 e1 w1 p1 v r => (p1.ok w1) σ (sr.ext e1)⟩
theorem ss_ret (he : SE X W e ea) : SS X W (.Return (some e) pos) (sRet ea) := ps_imp (ps_ret he) fun D σ H h => by
  obtain ⟨ad, xs, env, μ, sr, w, p⟩ := h
  exact ⟨ad, xs, env, μ, sr, w, p.bind.mono fun d H1 ad1 μ1 e1 w1 p1 v r => (p1.ok w1) σ (sr.ext e1) v r⟩
theorem ss_retN : SS X W (.Return none pos) sRetN := ps_imp ps_retN fun D σ H h => by
  obtain ⟨ad, xs, env, μ, sr, w, p⟩ := h
  exact (p.ok w) σ sr _ .non
theorem ss_brk : SS X W (.Break pos) sBrk := ps_imp ps_break fun D σ H h => by
  obtain ⟨ad, xs, env, μ, sr, w, p⟩ := h
  exact (p.ok w) σ sr
theorem ss_cnt : SS X W (.Continue pos) sCnt := ps_imp ps_continue fun D σ H h => by
  obtain ⟨ad, xs, env, μ, sr, w, p⟩ := h
  exact (p.ok w) σ sr
theorem ss_if (hc : ST X W c ec) (ha : SSs X W as a) (hb : SSs X W bs b) : SS X W (.If c as bs pos) (sIf ec a b) := ps_imp (ps_if hc ha hb) fun D σ H h => by
  obtain ⟨ad, xs, env, μ, sr, w, p⟩ := h
  refine ⟨ad, xs, env, μ, sr, w, p.bind.mono fun d H1 ad1 μ1 e1 w1 p1 => ?_⟩
  dsimp only at p1
  cases d with
  | true => exact ⟨ad1, xs, env, μ1, sr.ext e1, w1, p1⟩
  | false => exact ⟨ad1, xs, env, μ1, sr.ext e1, w1, p1⟩
/-- a statement that is never come to -/
theorem ss_stuck : SS X W st sStuck := ps_imp ps_never fun D σ H h => by
  obtain ⟨ad, xs, env, μ, sr, w, p⟩ := h
  exact p
end

/-! ### targets -/
inductive Tg where
  | nm (i : Nat)
  | tp (ts : List Tg)
mutual
/-- a target takes a value -/
def bindT : Tg → D → Env → Option Env
  | .nm i, d, env => if i < env.length then some (env.set i (some d)) else none
  | .tp ts, .pd (.tuple ds), env => if ts.length = ds.length then bindTs ts (ds.map .pd) env else none
  | .tp _, _, _ => none
def bindTs : List Tg → List D → Env → Option Env
  | [], [], env => some env
  | t :: ts, d :: ds, env => match bindT t d env with
    | some env' => bindTs ts ds env'
    | none => none
  | _, _, _ => none
end
mutual
def slotsT : Tg → List Nat
  | .nm i => [i]
  | .tp ts => slotsTs ts
def slotsTs : List Tg → List Nat
  | [] => []
  | t :: ts => slotsT t ++ slotsTs ts
end
/-- behind a target: the slots; those wiped are as they were -/
def tDG (K : PySem.W.Frag) (T : Tg) : TG := fun v σ H Q => ∃ ad xs env d env', SRep K H ad xs σ env ∧ Rep K H ad xs d v ∧ bindT T d env = some env' ∧
  ∀ σ', SRep K H ad xs σ' env' → (∀ vs, (∀ i ∈ slotsT T, i ∈ vs) → L2.wipe σ' vs = L2.wipe σ vs) → Q σ' H
def tDGs (K : PySem.W.Frag) (Ts : List Tg) : TGs := fun ws σ H Q => ∃ ad xs env ds env', SRep K H ad xs σ env ∧ RepAll K H ad xs ds ws ∧ bindTs Ts ds env = some env' ∧
  ∀ σ', SRep K H ad xs σ' env' → (∀ vs, (∀ i ∈ slotsTs Ts, i ∈ vs) → L2.wipe σ' vs = L2.wipe σ vs) → Q σ' H
abbrev SG (X : Cx) (t : Expr) (T : Tg) : Prop := PG X t (tDG X.K T)
abbrev SGs (X : Cx) (ts : List Expr) (Ts : List Tg) : Prop := PGs X ts (tDGs X.K Ts)
theorem wipe_set {σ : L2.St} {i : Nat} {o : Option V} : ∀ {vs : List Nat}, i ∈ vs → L2.wipe (σ.set i o) vs = L2.wipe σ vs
  | v :: vs, h => by
    unfold L2.wipe
    by_cases e : i = v
    · subst e
      by_cases hm : i ∈ vs
      · rw [wipe_set hm]
      · have k : ∀ (vs : List Nat), i ∉ vs → L2.wipe (σ.set i o) vs = (L2.wipe σ vs).set i o := by
          intro vs
          induction vs with
          | nil => intro _; rfl
          | cons u us ih =>
            intro hn
            simp only [List.mem_cons, not_or] at hn
            unfold L2.wipe
            rw [ih hn.2, List.set_comm _ _ (show i ≠ u from hn.1)]
        rw [k vs hm, List.set_set]
    · have hm : i ∈ vs := by
        rcases List.mem_cons.mp h with z | z
        · exact absurd z e
        · exact z
      rw [wipe_set hm]
section
variable {X : Cx} {t : Expr} {ts : List Expr} {T : Tg} {Ts : List Tg} {pos : Pos} {k : Nat}
theorem pg_imp {g g' : TG} (h : PG X t g) (k : ∀ v σ H Q, g' v σ H Q → g v σ H Q) : PG X t g' := ⟨fun pins s σ H v u Q I r q => h.run pins s σ H v u Q I r (k _ _ _ _ q)⟩
theorem pgs_imp {g g' : TGs} (h : PGs X ts g) (k : ∀ v σ H Q, g' v σ H Q → g v σ H Q) : PGs X ts g' := ⟨fun pins s σ H v u Q I r q => h.run pins s σ H v u Q I r (k _ _ _ _ q)⟩
theorem sg_nm (i : Nat) {x : Str} (hN : X.N.Nodup) (hi : X.N[i]? = some x := by rfl) (hx : Loc X.env.scope x := by first | exact .inl rfl | exact .inr rfl) (hf : X.fn x = true ∨ X.env.scope.names.lookup x = some .local := by first | exact .inl rfl | exact .inr rfl | assumption) :
    SG X (.Name x pos) (.nm i) := pg_imp (pg_name hN hi hx hf) fun v σ H Q h => by
  obtain ⟨ad, xs, env, d, env', sr, r, e, q⟩ := h
  unfold bindT at e
  split at e
  · rename_i hl
    cases e
    exact q _ (sr.set r) fun vs hv => wipe_set (hv i (by simp [slotsT]))
  · cases e
theorem sgs_nil : SGs X [] [] := pgs_imp pgs_nil fun v σ H Q h => by
  obtain ⟨ad, xs, env, ds, env', sr, r, e, q⟩ := h
  cases r with
  | nil =>
    unfold bindTs at e
    cases e
    exact ⟨rfl, q _ sr fun _ _ => rfl⟩
  | cons _ _ => cases e
theorem sgs_cons (h1 : SG X t T) (h2 : SGs X ts Ts) (hs : (assignEach (t :: ts) X.env).map (·.2) = assign t X.env :: (assignEach ts X.env).map (·.2) := by rfl) : SGs X (t :: ts) (T :: Ts) := pgs_imp (pgs_cons h1 h2 hs) fun v σ H Q h => by
  obtain ⟨ad, xs, env, ds, env', sr, r, e, q⟩ := h
  cases r with
  | nil => cases e
  | @cons d v ds vs r rs =>
    unfold bindTs at e
    cases h1 : bindT T d env with
    | none => rw [h1] at e; cases e
    | some env1 =>
      rw [h1] at e
      refine ⟨v, vs, rfl, ad, xs, env, d, env1, sr, r, h1, fun σ1 sr1 w1 => ⟨ad, xs, env1, ds, env', sr1, rs, e, fun σ2 sr2 w2 => q σ2 sr2 fun vs hv => ?_⟩⟩
      rw [w2 vs fun i hi => hv i (by simp [slotsTs, hi]), w1 vs fun i hi => hv i (by simp [slotsTs, hi])]
theorem repAll_pd {K : PySem.W.Frag} {H : Hp} {ad xs : List Addr} : ∀ {ds : List PyData} {vs : List V}, LyAll K (Im H ad xs) vs ds → RepAll K H ad xs (ds.map .pd) vs
  | _, _, .nil => .nil
  | _, _, .cons h t => .cons h (repAll_pd t)
theorem sg_tp (hc : X.calm = true) (h : SGs X ts Ts) (hn : (assignEach ts X.env).length = ts.length := by rfl) (hl : ts.length = Ts.length := by rfl) (hst : (assignEach ts X.env).findIdx? (·.1) = none := by rfl) : SG X (.Tuple ts k pos) (.tp Ts) :=
  pg_imp (pg_tup (n := ts.length) hc h hn hst) fun v σ H Q h => by
  obtain ⟨ad, xs, env, d, env', sr, r, e, q⟩ := h
  cases d with
  | pd d =>
    cases d with
    | tuple ds =>
      unfold bindT at e
      split at e
      · rename_i hl2
        cases r with
        | tup h l =>
          exact ⟨_, _, rfl, SqT.grow Im_le h, by rw [LyAll.length l, ← hl2, hl], ad, xs, env, _, env', sr, repAll_pd l, e, q⟩
      · cases e
    | _ => cases e
  | _ => cases e
end

/-! ### stores -/
def sSet (T : Tg) (ea : EvE) : EvS := fun env μ => (ea env μ).bind fun p => match bindT T p.1 env with
  | some env' => .ok ((.nx, env'), p.2)
  | none => .stuck
/-- several names from as many expressions -/
def sPar (Ts : List Tg) (ea : EvA) : EvS := fun env μ => (ea env μ).bind fun p => match bindTs Ts p.1 env with
  | some env' => .ok ((.nx, env'), p.2)
  | none => .stuck
/-- an item of a list stored -/
def sSetIx (eo ei ev : EvE) : EvS := fun env μ => (ev env μ).bind fun p => (eo env p.2).bind fun q => (ei env q.2).bind fun r =>
  match p.1, q.1, asI r.1 with
  | .pd d, .ref l, some i => match r.2[l]? with
    | some (.lst ds) => match ixN ds.length i with
      | some j => .ok ((.nx, env), r.2.set l (.lst (ds.set j d)))
      | none => .stuck
    | _ => .stuck
  | _, _, _ => .stuck
section
variable {X : Cx} {W : Wish} {t o i e : Expr} {ea eo ei ev : EvE} {T : Tg} {pos p2 : Pos}
theorem ss_set (n : Nat) {x : Str} {pos' : Pos} (hN : X.N.Nodup) (he : SE X W e ea) (hi : X.N[n]? = some x := by rfl) (hx : Loc X.env.scope x := by first | exact .inl rfl | exact .inr rfl) (hs : swapsWith e (some (.Name x pos')) pos.line X.env = pure false := by rfl) (hf : X.fn x = true ∨ X.env.scope.names.lookup x = some .local := by first | exact .inl rfl | exact .inr rfl | assumption) :
    SS X W (.Assign [.Name x pos'] e pos) (sSet (.nm n) ea) := ps_imp (ps_set hN hi hx he hs hf) fun D σ H h => by
  obtain ⟨ad, xs, env, μ, sr, w, p⟩ := h
  refine ⟨ad, xs, env, μ, sr, w, p.bind.mono fun d H1 ad1 μ1 e1 w1 p1 v r => ?_⟩
  dsimp only at p1
  cases hb : bindT (.nm n) d env with
  | none => rw [hb] at p1; exact p1.elim
  | some env' =>
    rw [hb] at p1
    unfold bindT at hb
    split at hb
    · cases hb
      exact (p1.ok w1) _ ((sr.ext e1).set r)
    · cases hb
theorem ss_asg (he : SE X W e ea) (hg : SG X t T) (hs : swapsWithSole [t] e pos.line X.env = pure false := by rfl) (hw : swappedStores [t] e X.env = pure none := by rfl)
    (h1 : (assignEach [t] X.env).map (·.2) = [assign t X.env] := by rfl) : SS X W (.Assign [t] e pos) (sSet T ea) := ps_imp (ps_asg he hg hs hw h1) fun D σ H h => by
  obtain ⟨ad, xs, env, μ, sr, w, p⟩ := h
  refine ⟨ad, xs, env, μ, sr, w, p.bind.mono fun d H1 ad1 μ1 e1 w1 p1 v r => ?_⟩
  dsimp only at p1
  cases hb : bindT T d env with
  | none => rw [hb] at p1; exact p1.elim
  | some env' =>
    rw [hb] at p1
    exact ⟨ad1, xs, env, d, env', sr.ext e1, r, hb, fun σ' sr' _ => (p1.ok w1) σ' sr'⟩
/-- .. where the value is written as a tuple and the tuple is made -/
theorem ss_parT {ts es : List Expr} {k k2 : Nat} {Ts : List Tg} {er : EvA} {pt pe : Pos} (hc : X.calm = true) (he : SA X W es er) (hg : SGs X ts Ts) (hn : (assignEach ts X.env).length = ts.length := by rfl) (hl : ts.length = Ts.length := by rfl) (hz : es.length = ts.length := by rfl) (hst : (assignEach ts X.env).findIdx? (·.1) = none := by rfl)
    (hs : swapsWithSole [.Tuple ts k pt] (.Tuple es k2 pe) pos.line X.env = pure false := by rfl) (hw : swappedStores [.Tuple ts k pt] (.Tuple es k2 pe) X.env = pure none := by rfl) (h1 : (assignEach [.Tuple ts k pt] X.env).map (·.2) = [assign (.Tuple ts k pt) X.env] := by rfl) (hz2 : decide (ts.length ≤ 1000) = true := by rfl) :
    SS X W (.Assign [.Tuple ts k pt] (.Tuple es k2 pe) pos) (sPar Ts er) := ps_imp (ps_asg (pe_tup he) (pg_tup (n := ts.length) hc hg hn hst) hs hw h1) fun D σ H h => by
  obtain ⟨ad, xs, env, μ, sr, w, p⟩ := h
  refine ⟨ad, xs, env, μ, sr, w, p.bind.mono fun ds H1 ad1 μ1 e1 w1 p1 vs r => ?_⟩
  dsimp only at p1
  cases hb : bindTs Ts ds env with
  | none => rw [hb] at p1; exact p1.elim
  | some env' =>
    rw [hb] at p1
    have hlen : ∀ (Ts : List Tg) (ds : List Zd.D) (env env' : Zd.Env), bindTs Ts ds env = some env' → Ts.length = ds.length := by
      intro Ts
      induction Ts with
      | nil =>
        intro ds env env' h
        cases ds with
        | nil => rfl
        | cons _ _ => cases h
      | cons T Ts ih =>
        intro ds env env' h
        cases ds with
        | nil => cases h
        | cons d ds =>
          unfold bindTs at h
          cases h2 : bindT T d env with
          | none => rw [h2] at h; cases h
          | some e2 =>
            rw [h2] at h
            simp [ih ds e2 env' h]
    have hvs : vs.length = ts.length := by rw [← RepAll.length r, ← hlen _ _ _ _ hb, hl]
    refine ⟨by rw [hvs]; exact Nat.le_trans (of_decide_eq_true hz2) (Nat.le_of_lt (small1000 (Nat.le_refl _))), fun p hp => ?_⟩
    obtain ⟨w2, e2, i2⟩ := w1.new (o := .tup vs) hp
    exact ⟨p, vs, rfl, SqT.of (Im_le _ _ i2), hvs, ad1, xs, env, ds, env', (sr.ext e1).ext e2, r.ext e2, hb, fun σ' sr' _ => (p1.ok_at e2 w2) σ' sr'⟩
/-- two plain names -/
theorem ss_par2 (m n : Nat) {x y : Str} {a b : Expr} {er : EvA} {px py pt : Pos} {kt k2 pt2} (hc : X.calm = true) (hN : X.N.Nodup) (ha : SA X W [a, b] er) (hi : X.N[m]? = some x := by rfl) (hj : X.N[n]? = some y := by rfl) (hij : m ≠ n := by decide)
    (hx : X.env.scope.names.lookup x = some .local := by rfl) (hy : X.env.scope.names.lookup y = some .local := by rfl)
    (hw : swappedStores [.Tuple [.Name x px, .Name y py] kt pt] (.Tuple [a, b] k2 pt2) X.env = pure (some [x, y]) := by rfl)
    (hs : swapsWithSole [.Tuple [.Name x px, .Name y py] kt pt] (.Tuple [a, b] k2 pt2) pos.line X.env = pure false := by rfl) :
    SS X W (.Assign [.Tuple [.Name x px, .Name y py] kt pt] (.Tuple [a, b] k2 pt2) pos) (sPar [.nm m, .nm n] er) := ps_imp (ps_par hc hN hi hj hij hx hy ha hw hs) fun D σ H h => by
  obtain ⟨ad, xs, env, μ, sr, w, p⟩ := h
  refine ⟨ad, xs, env, μ, sr, w, p.bind.mono fun ds H1 ad1 μ1 e1 w1 p1 vs r => ?_⟩
  dsimp only at p1
  cases hb : bindTs [.nm m, .nm n] ds env with
  | none => rw [hb] at p1; exact p1.elim
  | some env' =>
    rw [hb] at p1
    cases r with
    | nil => cases hb
    | @cons d v ds vs r rs =>
      cases rs with
      | nil =>
        unfold bindTs bindT at hb
        split at hb
        · cases hb
        · cases hb
      | @cons d2 v2 ds vs r2 rs =>
        refine ⟨v, v2, ?_, ?_⟩
        · cases rs with
          | nil => rfl
          | cons _ _ =>
            simp only [bindTs, bindT] at hb
            split at hb
            · rename_i q
              split at q <;> first | cases hb | (split at hb <;> (try cases hb))
            · cases hb
        · have sr1 := sr.ext e1
          simp only [bindTs, bindT] at hb
          by_cases h1 : m < env.length
          · by_cases h2 : n < env.length
            · simp only [h1, h2, if_true, List.length_set] at hb
              cases rs with
              | nil =>
                simp only [bindTs] at hb
                cases hb
                exact (p1.ok w1) _ ((sr1.set r).set r2)
              | cons _ _ => simp only [bindTs] at hb; cases hb
            · simp only [h1, h2, if_true, if_false, List.length_set] at hb; cases hb
          · simp only [h1, if_false] at hb; cases hb
/-- three plain names -/
theorem ss_par3 (m n l : Nat) {x y z : Str} {a b c : Expr} {er : EvA} {px py pz pt : Pos} {kt k2 pt2} (hc : X.calm = true) (hN : X.N.Nodup) (ha : SA X W [a, b, c] er) (hi : X.N[m]? = some x := by rfl) (hj : X.N[n]? = some y := by rfl) (hl : X.N[l]? = some z := by rfl) (hij : m ≠ n := by decide) (hil : m ≠ l := by decide) (hjl : n ≠ l := by decide)
    (hx : X.env.scope.names.lookup x = some .local := by rfl) (hy : X.env.scope.names.lookup y = some .local := by rfl) (hz : X.env.scope.names.lookup z = some .local := by rfl)
    (hw : swappedStores [.Tuple [.Name x px, .Name y py, .Name z pz] kt pt] (.Tuple [a, b, c] k2 pt2) X.env = pure (some [x, y, z]) := by rfl)
    (hs : swapsWithSole [.Tuple [.Name x px, .Name y py, .Name z pz] kt pt] (.Tuple [a, b, c] k2 pt2) pos.line X.env = pure false := by rfl) :
    SS X W (.Assign [.Tuple [.Name x px, .Name y py, .Name z pz] kt pt] (.Tuple [a, b, c] k2 pt2) pos) (sPar [.nm m, .nm n, .nm l] er) := ps_imp (ps_par3 hc hN hi hj hl hij hil hjl hx hy hz ha hw hs) fun D σ H h => by
  obtain ⟨ad, xs, env, μ, sr, w, p⟩ := h
  refine ⟨ad, xs, env, μ, sr, w, p.bind.mono fun ds H1 ad1 μ1 e1 w1 p1 vs r => ?_⟩
  dsimp only at p1
  cases hb : bindTs [.nm m, .nm n, .nm l] ds env with
  | none => rw [hb] at p1; exact p1.elim
  | some env' =>
    rw [hb] at p1
    have hm : m < env.length := by
      cases ds with
      | nil => cases hb
      | cons d ds =>
        simp only [bindTs, bindT] at hb
        by_cases h1 : m < env.length
        · exact h1
        · simp only [h1, if_false] at hb; cases hb
    have hn : n < env.length := by
      cases ds with
      | nil => cases hb
      | cons d ds =>
        cases ds with
        | nil => simp only [bindTs, bindT, hm, if_true] at hb; cases hb
        | cons d2 ds =>
          simp only [bindTs, bindT, hm, if_true, List.length_set] at hb
          by_cases h1 : n < env.length
          · exact h1
          · simp only [h1, if_false] at hb; cases hb
    cases r with
    | nil => cases hb
    | @cons d v ds vs r rs =>
      cases rs with
      | nil => simp only [bindTs, bindT, hm, if_true] at hb; cases hb
      | @cons d2 v2 ds vs r2 rs =>
        cases rs with
        | nil => simp only [bindTs, bindT, hm, hn, if_true, List.length_set] at hb; cases hb
        | @cons d3 v3 ds vs r3 rs =>
          simp only [bindTs, bindT, hm, hn, if_true, List.length_set] at hb
          by_cases h3 : l < env.length
          · simp only [h3, if_true] at hb
            cases rs with
            | nil =>
              simp only [bindTs] at hb
              cases hb
              exact ⟨v, v2, v3, rfl, (p1.ok w1) _ ((((sr.ext e1).set r).set r2).set r3)⟩
            | cons _ _ => simp only [bindTs] at hb; cases hb
          · simp only [h3, if_false] at hb; cases hb
theorem setIx_core {σ : L2.St} {H : Hp} {D : Ends} (h : tDS X.K W (sSetIx eo ei ev) D σ H) : tAsg (tD X.K W ev) (gSub (tD X.K W eo) (tD X.K W ei) rSetL) D σ H := by
  obtain ⟨ad, xs, env, μ, sr, w, p⟩ := h
  refine ⟨ad, xs, env, μ, sr, w, p.bind.mono fun d1 H1 ad1 μ1 e1 w1 p1 v1 r1 => ?_⟩
  refine ⟨ad1, xs, env, μ1, sr.ext e1, w1, p1.bind.mono fun d2 H2 ad2 μ2 e2 w2 p2 v2 r2 => ?_⟩
  refine ⟨ad2, xs, env, μ2, (sr.ext e1).ext e2, w2, p2.bind.mono fun d3 H3 ad3 μ3 e3 w3 p3 v3 r3 => ?_⟩
  dsimp only at p3
  cases hi : asI d3 with
  | none => rw [hi] at p3; cases d1 <;> cases d2 <;> exact p3.elim
  | some i =>
    rw [hi] at p3
    cases d1 with
    | pd d =>
      cases d2 with
      | ref l =>
        dsimp only at p3
        obtain ⟨a, g, rfl⟩ := r2.ext e3
        cases hc : μ3[l]? with
        | none => rw [hc] at p3; exact p3.elim
        | some c =>
          cases c with
          | lst ds =>
            rw [hc] at p3
            dsimp only at p3
            cases hj : ixN ds.length i with
            | none => rw [hj] at p3; exact p3.elim
            | some j =>
              rw [hj] at p3
              dsimp only at p3
              obtain ⟨vs, k1, k2⟩ := w3.cell l a _ g hc
              refine ⟨a, vs, i, j, rfl, asI_rep hi r3, k1, by rw [LyAll.length k2]; exact hj, ?_⟩
              have lv : Ly X.K (Im H3 ad3 xs) v1 d := (r1.ext e2).ext e3
              have em : Im (upd H3 a (.lst (vs.set j v1))) ad3 xs = Im H3 ad3 xs := by
                funext b
                unfold Im upd
                by_cases eb : b = a
                · subst eb; simp [List.mem_of_getElem? g]
                · simp [eb]
              obtain ⟨w4, e4⟩ := w3.write (o := .lst (vs.set j v1)) (c := .lst (ds.set j d)) g ⟨_, upd_same, by rw [em]; exact LyAll.set lv j k2⟩
              exact (p3.ok_at e4 w4) σ ((((sr.ext e1).ext e2).ext e3).ext e4)
          | _ => rw [hc] at p3; exact p3.elim
      | _ => exact p3.elim
    | _ => exact p3.elim
theorem ss_setIx (ho : SE X W o eo) (hi : SE X W i ei) (he : SE X W e ev)
    (ha : ∀ v, assign (.Subscript o i p2) X.env v = (do
      let ov ← holding [v] (eval o X.env)
      let iv ← holding [v, ov] (eval i X.env)
      standAt p2
      holding [v, ov, iv] (setItem ov iv v)
      release [v, ov, iv] []) := by intro _; rfl)
    (hs : swapsWithSole [.Subscript o i p2] e pos.line X.env = pure false := by rfl) (hw : swappedStores [.Subscript o i p2] e X.env = pure none := by rfl)
    (h1 : (assignEach [.Subscript o i p2] X.env).map (·.2) = [assign (.Subscript o i p2) X.env] := by rfl) : SS X W (.Assign [.Subscript o i p2] e pos) (sSetIx eo ei ev) := ps_imp (ps_asg he (pg_sub ho hi set_list ha) hs hw h1) fun D σ H h => setIx_core h
/-- x op= e, ints -/
def sAug (n : Nat) (f : Int → Int → Int) (ea : EvE) : EvS := fun env μ => match env[n]? with
  | some (some d) => (ea env μ).bind fun p => match asI d, asI p.1 with
    | some i, some j => .ok ((.nx, env.set n (some (.pd (.int (f i j))))), p.2)
    | _, _ => .stuck
  | _ => .stuck
theorem ss_aug (n : Nat) {x : Str} {op : Operator} {f : Int → Int → Int} {pos' : Pos} (hN : X.N.Nodup) (he : SE X W e ea) (ho : PIp X op (ipI f)) (hi : X.N[n]? = some x := by rfl) (hx : Loc X.env.scope x := by first | exact .inl rfl | exact .inr rfl) (hf : X.fn x = true ∨ X.env.scope.names.lookup x = some .local := by first | exact .inl rfl | exact .inr rfl | assumption) :
    SS X W (.AugAssign (.Name x pos') op e pos) (sAug n f ea) := ps_imp (ps_aug hN hi hx he ho hf) fun D σ H h => by
  obtain ⟨ad, xs, env, μ, sr, w, p⟩ := h
  unfold sAug at p
  cases he : env[n]? with
  | none => rw [he] at p; exact p.elim
  | some o =>
    cases o with
    | none => rw [he] at p; exact p.elim
    | some d =>
      rw [he] at p
      obtain ⟨v, h1, h2⟩ := sr.at_ n d he
      refine ⟨v, h1, ad, xs, env, μ, sr, w, p.bind.mono fun d2 H1 ad1 μ1 e1 w1 p1 v2 r2 => ?_⟩
      dsimp only at p1
      cases hi : asI d with
      | none => rw [hi] at p1; exact p1.elim
      | some i =>
        cases hj : asI d2 with
        | none => rw [hi, hj] at p1; exact p1.elim
        | some j =>
          rw [hi, hj] at p1
          exact ⟨i, j, asI_rep hi h2, asI_rep hj r2, (p1.ok w1) _ ((sr.ext e1).set (d := .pd (.int (f i j))) (Ly.int (f i j)))⟩
/-- o[i] op= e, an item of a list that may change, ints -/
def sAugIx (f : Int → Int → Int) (eo ei ea : EvE) : EvS := fun env μ => (eo env μ).bind fun p => (ei env p.2).bind fun q => match p.1, asI q.1 with
  | .ref l, some i => match q.2[l]? with
    | some (.lst ds0) => match atI ds0 i with
      | some (.int k) => if 0 ≤ i then (ea env q.2).bind fun r => match asI r.1, r.2[l]? with
        | some j, some (.lst ds) => match ixN ds.length i with
          | some n => .ok ((.nx, env), r.2.set l (.lst (ds.set n (.int (f k j)))))
          | none => .stuck
        | _, _ => .stuck
        else .stuck
      | _ => .stuck
    | _ => .stuck
  | _, _ => .stuck
def rGetN (K : PySem.W.Frag) : V → V → Hp → VK → Prop := fun x y H Q => ∃ p xs i v, x = .ref p ∧ y = .int i ∧ 0 ≤ i ∧ SqL K H p xs ∧ atI xs i = some v ∧ Q v H
theorem get_listN : PGet X (rGetN X.K) := by
  intro pins s σ H o i ov iv Q I ro ri h
  obtain ⟨p, xs, i, z, rfl, rfl, h0, hq, he, q⟩ := h
  cases ro
  obtain ⟨t, rfl⟩ := ri
  obtain ⟨its, r, pl, hz⟩ := I.list hq
  obtain ⟨j, h1, h2, h3, h4, h5⟩ := atI_get he
  obtain ⟨w, ew, rw'⟩ := r.get h2
  have hl := r.length
  have hn := line63
  have hj : i.toNat = j := by
    rw [seqIndex_of h0 h5] at h1
    exact Option.some.inj h1
  exact wpAny_getItem_list pl.isList h0 (by omega) (by rw [hj]; simpa using ew) ⟨z, H, I, rw', q⟩
theorem augIx_core {f : Int → Int → Int} {σ : L2.St} {H : Hp} {D : Ends} (h : tDS X.K W (sAugIx f eo ei ea) D σ H) : tAugS (tD X.K W eo) (tD X.K W ei) (tD X.K W ea) (rGetN X.K) (ipI f) rSetL D σ H := by
  obtain ⟨ad, xs, env, μ, sr, w, p⟩ := h
  refine ⟨ad, xs, env, μ, sr, w, p.bind.mono fun d1 H1 ad1 μ1 e1 w1 p1 v1 r1 => ?_⟩
  refine ⟨ad1, xs, env, μ1, sr.ext e1, w1, p1.bind.mono fun d2 H2 ad2 μ2 e2 w2 p2 v2 r2 => ?_⟩
  dsimp only at p2
  cases hi : asI d2 with
  | none => rw [hi] at p2; cases d1 <;> exact p2.elim
  | some i =>
    rw [hi] at p2
    cases d1 with
    | ref l =>
      dsimp only at p2
      obtain ⟨a, g, rfl⟩ := r1.ext e2
      cases hc : μ2[l]? with
      | none => rw [hc] at p2; exact p2.elim
      | some c =>
        cases c with
        | lst ds0 =>
          rw [hc] at p2
          dsimp only at p2
          cases hk : atI ds0 i with
          | none => rw [hk] at p2; exact p2.elim
          | some c0 =>
            cases c0 with
            | int k =>
              rw [hk] at p2
              dsimp only at p2
              split at p2
              · rename_i h0
                obtain ⟨vs0, k1, k2⟩ := w2.cell l a _ g hc
                obtain ⟨v0, k3, k4⟩ := ly_at k2 hk
                cases k4
                refine ⟨a, vs0, i, .int k, rfl, asI_rep hi r2, h0, SqL.of k1, k3, ?_⟩
                refine ⟨ad2, xs, env, μ2, (sr.ext e1).ext e2, w2, p2.bind.mono fun d3 H3 ad3 μ3 e3 w3 p3 v3 r3 => ?_⟩
                dsimp only at p3
                cases hj : asI d3 with
                | none => rw [hj] at p3; exact p3.elim
                | some j =>
                  rw [hj] at p3
                  cases hc3 : μ3[l]? with
                  | none => rw [hc3] at p3; exact p3.elim
                  | some c3 =>
                    cases c3 with
                    | lst ds =>
                      rw [hc3] at p3
                      dsimp only at p3
                      cases hn : ixN ds.length i with
                      | none => rw [hn] at p3; exact p3.elim
                      | some n =>
                        rw [hn] at p3
                        dsimp only at p3
                        have g3 := e3.get g
                        obtain ⟨vs, m1, m2⟩ := w3.cell l a _ g3 hc3
                        refine ⟨k, j, rfl, asI_rep hj r3, a, vs, i, n, rfl, asI_rep hi r2, m1, by rw [LyAll.length m2]; exact hn, ?_⟩
                        have em : Im (upd H3 a (.lst (vs.set n (.int (f k j))))) ad3 xs = Im H3 ad3 xs := by
                          funext b
                          unfold Im upd
                          by_cases eb : b = a
                          · subst eb; simp [List.mem_of_getElem? g3]
                          · simp [eb]
                        obtain ⟨w4, e4⟩ := w3.write (o := .lst (vs.set n (.int (f k j)))) (c := .lst (ds.set n (.int (f k j)))) g3 ⟨_, upd_same, by rw [em]; exact LyAll.set (.int _) n m2⟩
                        exact (p3.ok_at e4 w4) σ ((((sr.ext e1).ext e2).ext e3).ext e4)
                    | _ => rw [hc3] at p3; exact p3.elim
              · exact p2.elim
            | _ => rw [hk] at p2; exact p2.elim
        | _ => rw [hc] at p2; exact p2.elim
    | _ => exact p2.elim
theorem ss_augIx {op : Operator} {f : Int → Int → Int} (ho : SE X W o eo) (hi : SE X W i ei) (he : SE X W e ea) (hp : PIp X op (ipI f))
    (ha : ∀ ov iv new, augStore i ov iv new = (do holding [new, ov, iv] (setItem ov iv new); release [new, ov, iv] []; pure .next) := by intros; rfl) : SS X W (.AugAssign (.Subscript o i p2) op e pos) (sAugIx f eo ei ea) :=
  ps_imp (ps_augS ho hi get_listN he hp set_list ha) fun D σ H h => augIx_core h
end
end Zd

set_option Elab.async false
set_option linter.all false
set_option maxRecDepth 100000
set_option maxHeartbeats 4000000
/-! Loops and comprehensions, read by value. -/
namespace Zd
open PySem PySem.Spec PyProof.Rows L2

/-! ### what is walked -/
/-- the items; the lists that must stand as they do -/
abbrev Src := List D × List (Nat × Cell)
abbrev EvI := Env → Store → Out (Src × Store)
def Held (g : List (Nat × Cell)) (μ : Store) : Prop := ∀ q ∈ g, μ[q.1]? = some q.2
/-- J hands out the items, from the heap I on -/
def Walk (K : PySem.W.Frag) (I0 : Hp) (ad0 : List Addr) (J : It) (p : Src) : Prop := ∀ (i : Nat) (H : Hp) (ad xs : List Addr) (μ : Store),
  Same I0 (Im H ad xs) → (∃ nw, ad = ad0 ++ nw) → WOk K H ad xs μ → Held p.2 μ →
  (p.1.length = i → J.stop i H) ∧ (∀ d, p.1[i]? = some d → J.go i H ∧ ∀ x H', J.yld i H x H' → Ext H ad xs H' ad ∧ WOk K H' ad xs μ ∧ Rep K H' ad xs d x)
def tDI (K : PySem.W.Frag) (W : Wish) (ev : EvI) : TI := fun σ H R => ∃ ad xs env μ, SRep K H ad xs σ env ∧ WOk K H ad xs μ ∧
  Post K xs W H ad (ev env μ) fun p H' ad' _ => ∀ J, Walk K (Im H' ad' xs) ad' J p → R J H'
abbrev SI (X : Cx) (W : Wish) (tg it : Expr) (ev : EvI) : Prop := PI X tg it (tDI X.K W ev)
theorem pi_imp {X : Cx} {tg it : Expr} {t t' : TI} (h : PI X tg it t) (k : ∀ σ H Q, t' σ H Q → t σ H Q) : PI X tg it t' := ⟨fun pins s σ H R I q => h.run pins s σ H R I (k _ _ _ q)⟩

/-- a list or a tuple as it is walked -/
def srcL (μ : Store) : D → Option Src
  | .pd (.list ds) => some (ds.map .pd, [])
  | .ref l => match μ[l]? with
    | some (.lst ds) => some (ds.map .pd, [(l, .lst ds)])
    | some (.lls ls) => some (ls.map .ref, [(l, .lls ls)])
    | _ => none
  | _ => none
def iLst (ea : EvE) : EvI := fun env μ => (ea env μ).bind fun p => match srcL p.2 p.1 with
  | some s => .ok (s, p.2)
  | none => .stuck
def iTp (ea : EvE) : EvI := fun env μ => (ea env μ).bind fun p => match p.1 with
  | .pd (.tuple ds) => .ok ((ds.map .pd, []), p.2)
  | _ => .stuck
def iRg1 (ea : EvE) : EvI := fun env μ => (ea env μ).bind fun p => match asI p.1 with
  | some n => if -(2 ^ 62) ≤ n ∧ n < 2 ^ 62 then .ok (((List.range n.toNat).map fun (k : Nat) => .pd (.int (k : Int)), []), p.2) else .stuck
  | none => .stuck
def iRg2 (ea eb : EvE) : EvI := fun env μ => (ea env μ).bind fun p => (eb env p.2).bind fun q => match asI p.1, asI q.1 with
  | some m, some n => if -(2 ^ 62) ≤ m ∧ m < 2 ^ 62 ∧ -(2 ^ 62) ≤ n ∧ n < 2 ^ 62 then .ok (((List.range (n - m).toNat).map fun (k : Nat) => .pd (.int (m + (k : Int))), []), q.2) else .stuck
  | _, _ => .stuck
/-- a list's items as they stand, wherever -/
def AsList (K : PySem.W.Frag) (I0 : Hp) (ad0 : List Addr) (a : Addr) (p : Src) : Prop := ∀ (H : Hp) (ad xs : List Addr) (μ : Store), Same I0 (Im H ad xs) → (∃ nw, ad = ad0 ++ nw) → WOk K H ad xs μ → Held p.2 μ → ∃ vs, H a = some (.lst vs) ∧ RepAll K H ad xs p.1 vs
theorem RepAll.get {K : PySem.W.Frag} {H : Hp} {ad xs : List Addr} : ∀ {ds : List D} {vs : List V} {i : Nat} {d : D}, RepAll K H ad xs ds vs → ds[i]? = some d → ∃ v, vs[i]? = some v ∧ Rep K H ad xs d v
  | _, _, _, _, .nil, e => by simp at e
  | _, _, 0, _, .cons h _, e => by simp at e; subst e; exact ⟨_, rfl, h⟩
  | _, _, i + 1, _, .cons _ q, e => by
    obtain ⟨v, e1, e2⟩ := RepAll.get (i := i) q (by simpa using e)
    exact ⟨v, by simpa using e1, e2⟩
theorem lls_rep {K : PySem.W.Frag} {H : Hp} {ad xs : List Addr} : ∀ {ls : List Nat} {as : List Addr}, as.map some = ls.map (fun l => ad[l]?) → RepAll K H ad xs (ls.map .ref) (as.map V.ref)
  | [], [], _ => .nil
  | [], _ :: _, e => by simp at e
  | _ :: _, [], e => by simp at e
  | l :: ls, a :: as, e => by
    simp only [List.map_cons, List.cons.injEq] at e
    exact .cons ⟨a, e.1.symm, rfl⟩ (lls_rep e.2)
theorem srcL_as {K : PySem.W.Frag} {H : Hp} {ad xs : List Addr} {μ : Store} {d : D} {v : V} {p : Src} (w : WOk K H ad xs μ) (r : Rep K H ad xs d v) (e : srcL μ d = some p) : ∃ a, v = .ref a ∧ AsList K (Im H ad xs) ad a p ∧ Held p.2 μ := by
  cases d with
  | pd d =>
    cases d with
    | list ds =>
      cases e
      cases r with
      | lst h l =>
        rename_i a vs
        exact ⟨a, rfl, fun H' ad' xs' μ' s _ w' _ => ⟨vs, (Im_some (s _ _ h)).2.2, repAll_pd (LyAll.grow s l)⟩, fun q hq => by simp at hq⟩
    | _ => cases e
  | ref l =>
    obtain ⟨a, g, rfl⟩ := r
    cases hc : μ[l]? with
    | none => simp [srcL, hc] at e
    | some c =>
      cases c with
      | lst ds =>
        simp only [srcL, hc, Option.some.injEq] at e
        subst e
        refine ⟨a, rfl, fun H' ad' xs' μ' s ⟨nw, en⟩ w' hh => ?_, fun q hq => ?_⟩
        · have hc' := hh (l, .lst ds) (by simp)
          have g' : ad'[l]? = some a := by
            rw [en, List.getElem?_append_left (List.getElem?_eq_some_iff.mp g).1]
            exact g
          obtain ⟨vs, k1, k2⟩ := w'.cell l a _ g' hc'
          exact ⟨vs, k1, repAll_pd k2⟩
        · have : q = (l, .lst ds) := by simpa using hq
          subst this
          exact hc
      | lls ls =>
        simp only [srcL, hc, Option.some.injEq] at e
        subst e
        refine ⟨a, rfl, fun H' ad' xs' μ' s ⟨nw, en⟩ w' hh => ?_, fun q hq => ?_⟩
        · have hc' := hh (l, .lls ls) (by simp)
          have g' : ad'[l]? = some a := by
            rw [en, List.getElem?_append_left (List.getElem?_eq_some_iff.mp g).1]
            exact g
          obtain ⟨as, k1, k2⟩ := w'.cell l a _ g' hc'
          exact ⟨_, k1, lls_rep k2⟩
        · have : q = (l, .lls ls) := by simpa using hq
          subst this
          exact hc
      | _ => simp [srcL, hc] at e
  | scr ns => cases e
theorem walk_asL {K : PySem.W.Frag} {I0 : Hp} {ad0 : List Addr} {a : Addr} {p : Src} (h : AsList K I0 ad0 a p) : Walk K I0 ad0 (Itl K a) p := fun i H ad xs μ s n w hh => by
  obtain ⟨vs, k1, k2⟩ := h H ad xs μ s n w hh
  have hl := RepAll.length k2
  refine ⟨fun hi => ⟨vs, SqL.of k1, by omega⟩, fun d hd => ?_⟩
  obtain ⟨v, e1, e2⟩ := RepAll.get k2 hd
  refine ⟨⟨vs, v, SqL.of k1, e1⟩, fun x H' y => ?_⟩
  obtain ⟨rfl, y⟩ := y
  have ex := y vs (SqL.of k1)
  rw [e1] at ex
  cases ex
  exact ⟨Ext.refl, w, e2⟩
theorem walk_tp {K : PySem.W.Frag} {I0 : Hp} {ad0 : List Addr} {a : Addr} {vs : List V} {ds : List PyData} (h : SqT K I0 a vs) (l : LyAll K I0 vs ds) : Walk K I0 ad0 (Itt K a) (ds.map .pd, []) := fun i H ad xs μ s n w hh => by
  have h' := SqT.grow Im_le (SqT.grow s h)
  have l' := repAll_pd (LyAll.grow s l)
  have hl := RepAll.length l'
  refine ⟨fun hi => ⟨vs, h', by simp only at hi; omega⟩, fun d hd => ?_⟩
  obtain ⟨v, e1, e2⟩ := RepAll.get l' hd
  refine ⟨⟨vs, v, h', e1⟩, fun x H' y => ?_⟩
  obtain ⟨rfl, y⟩ := y
  have ex := y vs h'
  rw [e1] at ex
  cases ex
  exact ⟨Ext.refl, w, e2⟩
theorem walk_rg {K : PySem.W.Frag} {I0 : Hp} {ad0 : List Addr} {m : Int} {n : Nat} : Walk K I0 ad0 (Itr m n) ((List.range n).map fun (k : Nat) => .pd (.int (m + (k : Int))), []) := fun i H ad xs μ s nn w hh => by
  refine ⟨fun hi => by have h2 : n = i := (by simpa using hi); simp [Itr]; omega, fun d hd => ?_⟩
  simp only [List.getElem?_map, Option.map_eq_some_iff] at hd
  obtain ⟨k, e1, rfl⟩ := hd
  obtain ⟨hk, ek⟩ := List.getElem?_eq_some_iff.mp e1
  have ek' : k = i := by simpa using ek.symm
  subst ek'
  refine ⟨by simpa [Itr] using hk, fun x H' y => ?_⟩
  obtain ⟨rfl, rfl⟩ := y
  exact ⟨Ext.refl, w, Ly.int _⟩
section
variable {X : Cx} {W : Wish} {tg a b : Expr} {ea eb : EvE} {pos p : Pos}
theorem si_lst (ha : SE X W a ea) : SI X W tg a (iLst ea) := pi_imp (pi_list ha) fun σ H R h => by
  obtain ⟨ad, xs, env, μ, sr, w, p⟩ := h
  refine ⟨ad, xs, env, μ, sr, w, p.bind.mono fun d H1 ad1 μ1 e1 w1 q v r => ?_⟩
  dsimp only at q
  cases hs : srcL μ1 d with
  | none => rw [hs] at q; exact q.elim
  | some s =>
    rw [hs] at q
    obtain ⟨a, rfl, k1, k2⟩ := srcL_as w1 r hs
    obtain ⟨vs, k3, _⟩ := k1 H1 ad1 xs μ1 (fun _ _ h => h) ⟨[], by simp⟩ w1 k2
    exact ⟨a, rfl, ⟨vs, SqL.of k3⟩, q.ok w1 _ (walk_asL k1)⟩
theorem si_tp (ha : SE X W a ea) : SI X W tg a (iTp ea) := pi_imp (pi_tup ha) fun σ H R h => by
  obtain ⟨ad, xs, env, μ, sr, w, p⟩ := h
  refine ⟨ad, xs, env, μ, sr, w, p.bind.mono fun d H1 ad1 μ1 e1 w1 q v r => ?_⟩
  dsimp only at q
  cases d with
  | pd d =>
    cases d with
    | tuple ds =>
      cases r with
      | tup h l => exact ⟨_, rfl, ⟨_, SqT.grow Im_le h⟩, q.ok w1 _ (walk_tp h l)⟩
    | _ => exact q.elim
  | _ => exact q.elim
theorem si_rg1 (hg : Gl X "range") (hm : X.mg "range" = none) (ha : SE X W a ea) (hs : starEach [a] X.env = [(false, eval a X.env)] := by rfl) : SI X W tg (.Call (.Name "range" p) [a] [] pos) (iRg1 ea) := pi_imp (pi_range1 hg hm (pa_cons ha pa_nil hs) hs) fun σ H R h => by
  obtain ⟨ad, xs, env, μ, sr, w, p⟩ := h
  refine ⟨ad, xs, env, μ, sr, w, p.bind.mono fun d H1 ad1 μ1 e1 w1 q v r => ?_⟩
  dsimp only at q
  cases hi : asI d with
  | none => rw [hi] at q; exact q.elim
  | some n =>
    rw [hi] at q
    dsimp only at q
    split at q
    · rename_i hn
      refine ⟨n, by rw [asI_rep hi r], hn.1, hn.2, ?_⟩
      have wk := walk_rg (K := X.K) (I0 := Im H1 ad1 xs) (ad0 := ad1) (m := 0) (n := n.toNat)
      simp only [Int.zero_add] at wk
      exact q.ok w1 _ wk
    · exact q.elim
theorem si_rg2 (hg : Gl X "range") (hm : X.mg "range" = none) (ha : SE X W a ea) (hb : SE X W b eb) (hs : starEach [a, b] X.env = [(false, eval a X.env), (false, eval b X.env)] := by rfl) (hs2 : starEach [b] X.env = [(false, eval b X.env)] := by rfl)
    (hs3 : starEach [a, b] X.env = (false, eval a X.env) :: starEach [b] X.env := by rfl) : SI X W tg (.Call (.Name "range" p) [a, b] [] pos) (iRg2 ea eb) := pi_imp (pi_range2 hg hm (pa_cons ha (pa_cons hb pa_nil hs2) hs3) hs hs2) fun σ H R h => by
  obtain ⟨ad, xs, env, μ, sr, w, p⟩ := h
  refine ⟨ad, xs, env, μ, sr, w, p.bind.mono fun d H1 ad1 μ1 e1 w1 q v r => ?_⟩
  refine ⟨ad1, xs, env, μ1, sr.ext e1, w1, q.bind.mono fun d2 H2 ad2 μ2 e2 w2 q2 v2 r2 => ?_⟩
  dsimp only at q2
  cases hi : asI d with
  | none => rw [hi] at q2; exact q2.elim
  | some m =>
    cases hj : asI d2 with
    | none => rw [hi, hj] at q2; exact q2.elim
    | some n =>
      rw [hi, hj] at q2
      dsimp only at q2
      split at q2
      · rename_i hn
        refine ⟨m, n, by rw [asI_rep hi r, asI_rep hj r2], ⟨hn.1, hn.2.1, hn.2.2.1, hn.2.2.2⟩, ?_⟩
        exact q2.ok w2 _ walk_rg
      · exact q2.elim
end

/-! ### for -/
open Classical in
noncomputable def loopD (g : List (Nat × Cell)) (T : Tg) (body : EvS) : List D → EvS
  | [], env, μ => if Held g μ then .ok ((.nx, env), μ) else .stuck
  | d :: ds, env, μ => if Held g μ then match bindT T d env with
    | some env1 => (body env1 μ).bind fun p => match p.1.1 with
      | .nx => loopD g T body ds p.1.2 p.2
      | .ct => loopD g T body ds p.1.2 p.2
      | .bk => .ok ((.nx, p.1.2), p.2)
      | .rt d => .ok ((.rt d, p.1.2), p.2)
    | none => .stuck
    else .stuck
noncomputable def sFor (T : Tg) (ei : EvI) (body : EvS) : EvS := fun env μ => (ei env μ).bind fun p => loopD p.1.2 T body p.1.1 env p.2
section
variable {X : Cx} {W : Wish} {tg it : Expr} {T : Tg} {ei : EvI} {body : EvS} {bs : List Stmt} {pos : Pos}
theorem for_core {σ : L2.St} {H : Hp} {D : Ends} (h : tDS X.K W (sFor T ei body) D σ H) : tFor (tDI X.K W ei) (tDG X.K T) (tDS X.K W body) D σ H := by
  obtain ⟨ad, xs, env, μ, sr, w, p⟩ := h
  refine ⟨ad, xs, env, μ, sr, w, p.bind.mono fun s H1 ad1 μ1 e1 w1 p1 J wk => ?_⟩
  obtain ⟨items, g⟩ := s
  dsimp only at p1
  -- the invariant: what is left is still to be walked
  refine ⟨fun i m σ' H' => m = items.length - i ∧ i ≤ items.length ∧ ∃ ad' env' μ', Same (Im H1 ad1 xs) (Im H' ad' xs) ∧ (∃ nw, ad' = ad1 ++ nw) ∧ SRep X.K H' ad' xs σ' env' ∧ WOk X.K H' ad' xs μ' ∧ Post X.K xs W H' ad' (loopD g T body (items.drop i) env' μ') fun q H'' ad'' _ => AtEnd X.K xs D q H'' ad'',
    ⟨items.length, by simp, Nat.zero_le _, ad1, env, μ1, fun _ _ h => h, ⟨[], by simp⟩, sr.ext e1, w1, by rw [List.drop_zero]; exact p1⟩, ?_⟩
  rintro i m σ' H' ⟨rfl, hi, ad', env', μ', sm, nw, sr', w', p'⟩
  by_cases hlt : i < items.length
  · rw [List.drop_eq_getElem_cons hlt] at p'
    unfold loopD at p'
    split at p'
    · rename_i hh
      obtain ⟨_, k2⟩ := wk i H' ad' xs μ' sm nw w' hh
      obtain ⟨kg, ky⟩ := k2 items[i] (by simp [hlt])
      refine .inr ⟨kg, fun σ2 H2 => ∃ ad2 env2 μ2, Same (Im H1 ad1 xs) (Im H2 ad2 xs) ∧ (∃ nw, ad2 = ad1 ++ nw) ∧ SRep X.K H2 ad2 xs σ2 env2 ∧ WOk X.K H2 ad2 xs μ2 ∧ Post X.K xs W H2 ad2 (loopD g T body (items.drop (i + 1)) env2 μ2) fun q H'' ad'' _ => AtEnd X.K xs D q H'' ad'',
        fun σ2 H2 h2 => ⟨items.length - (i + 1), by omega, rfl, hlt, h2⟩, fun x Hx y => ?_⟩
      obtain ⟨ex, wx, rx⟩ := ky x Hx y
      cases hb : bindT T items[i] env' with
      | none => rw [hb] at p'; exact p'.elim
      | some env1 =>
        rw [hb] at p'
        dsimp only at p'
        refine ⟨ad', xs, env', _, env1, sr'.ext ex, rx, hb, fun σ1 sr1 _ => ?_⟩
        have pb : Post X.K xs W Hx ad' ((body env1 μ').bind fun p => match p.1.1 with
          | .nx => loopD g T body (items.drop (i + 1)) p.1.2 p.2
          | .ct => loopD g T body (items.drop (i + 1)) p.1.2 p.2
          | .bk => .ok ((.nx, p.1.2), p.2)
          | .rt d => .ok ((.rt d, p.1.2), p.2)) fun q H'' ad'' _ => AtEnd X.K xs D q H'' ad'' := by
          revert p'
          generalize ((body env1 μ').bind fun p => match p.1.1 with
            | .nx => loopD g T body (items.drop (i + 1)) p.1.2 p.2
            | .ct => loopD g T body (items.drop (i + 1)) p.1.2 p.2
            | .bk => .ok ((.nx, p.1.2), p.2)
            | .rt d => .ok ((.rt d, p.1.2), p.2)) = o
          intro p'
          cases o with
          | ok p => exact fun H'' ad'' e w => p' H'' ad'' (ex.trans e) w
          | exc c fs μ'' => exact fun H'' ad'' e w => p' H'' ad'' (ex.trans e) w
          | stuck => exact p'
        refine ⟨ad', xs, env1, μ', sr1, wx, pb.bind.mono fun q H3 ad3 μ3 e3 w3 p3 σ3 sr3 => ?_⟩
        obtain ⟨f, env3⟩ := q
        obtain ⟨nw1, en1⟩ := nw
        obtain ⟨nw3, en3⟩ := e3.pre
        have sm3 : Same (Im H1 ad1 xs) (Im H3 ad3 xs) := fun a o h => e3.same a o (ex.same a o (sm a o h))
        have pre3 : ∃ nw, ad3 = ad1 ++ nw := ⟨nw1 ++ nw3, by rw [en3, en1, List.append_assoc]⟩
        cases f with
        | nx => exact ⟨ad3, env3, μ3, sm3, pre3, sr3, w3, p3⟩
        | ct => exact ⟨ad3, env3, μ3, sm3, pre3, sr3, w3, p3⟩
        | bk => exact (p3.ok w3) σ3 sr3
        | rt d => exact (p3.ok w3) σ3 sr3
    · exact p'.elim
  · have hn : i = items.length := by omega
    subst hn
    rw [List.drop_length] at p'
    unfold loopD at p'
    split at p'
    · rename_i hh
      obtain ⟨k1, _⟩ := wk items.length H' ad' xs μ' sm nw w' hh
      exact .inl ⟨k1 rfl, (p'.ok w') σ' sr'⟩
    · exact p'.elim
theorem ss_for (hp : PassesOwn (model X.prog X.w) X.A X.env X.xe) (hc : X.calm = true) (hi : SI X W tg it ei) (hg : SG X tg T) (hb : SSs X W bs body) (hs : ∀ x, foldedSetIterable it X.env x = pure x := by intro _; rfl) : SS X W (.For tg it bs [] pos) (sFor T ei body) :=
  ps_imp (ps_for hp hc hi hg hb hs) fun D σ H h => for_core h
end

/-! ### while -/
def whileN (t : EvT) (body : EvS) : Nat → EvS
  | 0, _, _ => .stuck
  | n + 1, env, μ => (t env μ).bind fun p => if p.1 = true then (body env p.2).bind fun q => match q.1.1 with
      | .nx => whileN t body n q.1.2 q.2
      | .ct => whileN t body n q.1.2 q.2
      | .bk => .ok ((.nx, q.1.2), q.2)
      | .rt d => .ok ((.rt d, q.1.2), q.2)
    else .ok ((.nx, env), p.2)
open Classical in
noncomputable def sWhile (t : EvT) (body : EvS) : EvS := fun env μ => if h : ∃ n, whileN t body n env μ ≠ .stuck then whileN t body h.choose env μ else .stuck
section
variable {X : Cx} {W : Wish} {c : Expr} {ec : EvT} {body : EvS} {bs : List Stmt} {pos : Pos}
theorem while_core {σ : L2.St} {H : Hp} {D : Ends} (h : tDS X.K W (sWhile ec body) D σ H) : tWhile (tDT X.K W ec) (tDS X.K W body) D σ H := by
  obtain ⟨ad, xs, env, μ, sr, w, p⟩ := h
  unfold sWhile at p
  split at p
  · rename_i hx
    refine ⟨fun m σ' H' => ∃ ad' env' μ', SRep X.K H' ad' xs σ' env' ∧ WOk X.K H' ad' xs μ' ∧ Post X.K xs W H' ad' (whileN ec body m env' μ') fun q H'' ad'' _ => AtEnd X.K xs D q H'' ad'', ⟨_, ad, env, μ, sr, w, p⟩, ?_⟩
    rintro m σ' H' ⟨ad', env', μ', sr', w', p'⟩
    cases m with
    | zero => exact p'.elim
    | succ m =>
      unfold whileN at p'
      refine ⟨ad', xs, env', μ', sr', w', p'.bind.mono fun b H1 ad1 μ1 e1 w1 p1 => ?_⟩
      dsimp only at p1
      cases b with
      | false => exact (p1.ok w1) σ' (sr'.ext e1)
      | true =>
        simp only [if_true] at p1 ⊢
        refine ⟨fun σ2 H2 => ∃ ad2 env2 μ2, SRep X.K H2 ad2 xs σ2 env2 ∧ WOk X.K H2 ad2 xs μ2 ∧ Post X.K xs W H2 ad2 (whileN ec body m env2 μ2) fun q H'' ad'' _ => AtEnd X.K xs D q H'' ad'', fun σ2 H2 h2 => ⟨m, Nat.lt_succ_self m, h2⟩, ?_⟩
        refine ⟨ad1, xs, env', μ1, sr'.ext e1, w1, p1.bind.mono fun q H3 ad3 μ3 e3 w3 p3 σ3 sr3 => ?_⟩
        obtain ⟨f, env3⟩ := q
        cases f with
        | nx => exact ⟨ad3, env3, μ3, sr3, w3, p3⟩
        | ct => exact ⟨ad3, env3, μ3, sr3, w3, p3⟩
        | bk => exact (p3.ok w3) σ3 sr3
        | rt d => exact (p3.ok w3) σ3 sr3
  · exact p.elim
theorem ss_while (hp : PassesOwn (model X.prog X.w) X.A X.env X.xe) (hc : ST X W c ec) (hb : SSs X W bs body) : SS X W (.While c bs [] pos) (sWhile ec body) := ps_imp (ps_while hp hc hb) fun D σ H h => while_core h
end
end Zd

set_option Elab.async false
set_option linter.all false
set_option maxRecDepth 100000
set_option maxHeartbeats 4000000
/-! Comprehensions, read by value. -/
namespace Zd
open PySem PySem.Spec PyProof.Rows L2

theorem wipe_none : ∀ {vs : List Nat} {σ : L2.St} {i : Nat}, i ∈ vs → i < σ.length → (L2.wipe σ vs)[i]? = some none
  | v :: vs, σ, i, h, hl => by
    unfold L2.wipe
    by_cases e : i = v
    · subst e
      rw [List.getElem?_set_self (by rw [L2.wipe_length]; exact hl)]
    · rw [List.getElem?_set_ne (Ne.symm e)]
      exact wipe_none ((List.mem_cons.mp h).resolve_left e) hl
theorem wipe_off : ∀ {vs : List Nat} {σ : L2.St} {i : Nat}, i ∉ vs → (L2.wipe σ vs)[i]? = σ[i]?
  | [], _, _, _ => rfl
  | v :: vs, σ, i, h => by
    simp only [List.mem_cons, not_or] at h
    unfold L2.wipe
    rw [List.getElem?_set_ne (Ne.symm h.1)]
    exact wipe_off h.2
theorem wipe_wipe (σ : L2.St) (vs : List Nat) : L2.wipe (L2.wipe σ vs) vs = L2.wipe σ vs := by
  apply List.ext_getElem?
  intro i
  by_cases h : i ∈ vs
  · by_cases hl : i < σ.length
    · rw [wipe_none h (by rw [L2.wipe_length]; exact hl), wipe_none h hl]
    · rw [List.getElem?_eq_none (by rw [L2.wipe_length, L2.wipe_length]; omega), List.getElem?_eq_none (by rw [L2.wipe_length]; omega)]
  · rw [wipe_off h]

open Classical in
noncomputable def compD (g : List (Nat × Cell)) (T : Tg) (tst : EvT) (elt : EvE) (env : Env) : List D → Store → Out (List D × Store)
  | [], μ => if Held g μ then .ok ([], μ) else .stuck
  | d :: ds, μ => if Held g μ then match bindT T d env with
    | some env1 => (tst env1 μ).bind fun p => if p.1 = true then (elt env1 p.2).bind fun q => (compD g T tst elt env ds q.2).bind fun r => .ok (q.1 :: r.1, r.2)
      else compD g T tst elt env ds p.2
    | none => .stuck
    else .stuck
def noExc {α : Type} : Out α → Out α
  | .ok a => .ok a
  | _ => .stuck
@[simp] theorem noExc_ok {α : Type} (a : α) : noExc (.ok a) = .ok a := rfl
theorem noExc_eq {α : Type} {o : Out α} {a : α} (h : noExc o = .ok a) : o = .ok a := by
  cases o with
  | ok b => exact h
  | _ => cases h
theorem bind_ok {α β : Type} {x : Out α} {f : α → Out β} {b : β} (h : x.bind f = .ok b) : ∃ a, x = .ok a ∧ f a = .ok b := by
  cases x with
  | ok a => exact ⟨a, rfl, h⟩
  | _ => cases h
def tYesE : EvT := fun _ μ => .ok (true, μ)
/-- a comprehension: its own slots vs, target, source, test, element -/
noncomputable def eLcD (vs : List Nat) (T : Tg) (ei : EvI) (tst : EvT) (elt : EvE) : EvA := fun env μ => (ei env μ).bind fun p =>
  if p.1.1.length ≤ sizeLine then noExc (compD p.1.2 T tst elt (wipeE env vs) p.1.1 p.2) else .stuck
/-- .. its items data -/
def asF (ea : EvA) : EvF := fun env μ => (ea env μ).bind fun p => match pdAll p.1 with
  | some ps => .ok (ps, p.2)
  | none => .stuck
noncomputable abbrev eLc (vs : List Nat) (T : Tg) (ei : EvI) (tst : EvT) (elt : EvE) : EvF := asF (eLcD vs T ei tst elt)
/-- the new list at p, of these values -/
def tDL (K : PySem.W.Frag) (W : Wish) (ev : EvA) : TE := fun σ H Q => ∃ ad xs env μ, SRep K H ad xs σ env ∧ WOk K H ad xs μ ∧
  Post K xs W H ad (ev env μ) fun ds H' ad' _ => ∀ p vs, H' p = none → RepAll K H' ad' xs ds vs → Q (.ref p) (upd H' p (.lst vs))
abbrev SL (X : Cx) (W : Wish) (e : Expr) (ev : EvA) : Prop := PE X e (tDL X.K W ev)
/-- a list of places that may change -/
def refAll : List D → Option (List Nat)
  | [] => some []
  | .ref l :: r => (refAll r).map (l :: ·)
  | _ => none
def eOwnL (ea : EvA) : EvE := fun env μ => (ea env μ).bind fun p => match refAll p.1 with
  | some ls => .ok (.ref p.2.length, p.2 ++ [.lls ls])
  | none => .stuck
theorem refAll_rep {K : PySem.W.Frag} {H : Hp} {ad xs : List Addr} : ∀ {ds : List D} {ls : List Nat} {vs : List V}, refAll ds = some ls → RepAll K H ad xs ds vs → ∃ as : List Addr, vs = as.map V.ref ∧ as.map some = ls.map (fun l => ad[l]?)
  | [], _, _, e, .nil => by cases e; exact ⟨[], rfl, rfl⟩
  | .ref l :: r, ls, _, e, .cons h t => by
    simp only [refAll, Option.map_eq_some_iff] at e
    obtain ⟨ms, e1, rfl⟩ := e
    obtain ⟨a, g, rfl⟩ := h
    obtain ⟨as, k1, k2⟩ := refAll_rep e1 t
    exact ⟨a :: as, by rw [k1]; rfl, by simp [k2, g]⟩
  | .pd _ :: _, _, _, e, _ => by cases e
  | .scr _ :: _, _, _, e, _ => by cases e
section
variable {K : PySem.W.Frag} {W : Wish} {ea : EvA} {ev : EvF} {σ : L2.St} {H : Hp} {Q : VK}
theorem asF_core (h : tDF K W (asF ea) σ H Q) : tDL K W ea σ H Q := by
  obtain ⟨ad, xs, env, μ, sr, w, p⟩ := h
  refine ⟨ad, xs, env, μ, sr, w, p.bind.mono fun ds H1 ad1 μ1 e1 w1 q r vs hp l => ?_⟩
  dsimp only at q
  cases hd : pdAll ds with
  | none => rw [hd] at q; exact q.elim
  | some ps =>
    rw [hd] at q
    exact q.ok w1 r vs hp (pdAll_rep hd l)
theorem ownL_core (h : tD K W (eOwnL ea) σ H Q) : tDL K W ea σ H Q := by
  obtain ⟨ad, xs, env, μ, sr, w, p⟩ := h
  refine ⟨ad, xs, env, μ, sr, w, p.bind.mono fun ds H1 ad1 μ1 e1 w1 q r vs hp l => ?_⟩
  dsimp only at q
  cases hd : refAll ds with
  | none => rw [hd] at q; exact q.elim
  | some ls =>
    rw [hd] at q
    obtain ⟨as, rfl, k2⟩ := refAll_rep hd l
    have hh : ls.map (fun l => ad1[l]?) = ls.map (fun l => (ad1 ++ [r])[l]?) := by
      refine List.map_congr_left fun l hl => ?_
      have m : ad1[l]? ∈ ls.map (fun l => ad1[l]?) := List.mem_map.mpr ⟨l, hl, rfl⟩
      rw [← k2] at m
      obtain ⟨x, _, hx⟩ := List.mem_map.mp m
      rw [List.getElem?_append_left (List.getElem?_eq_some_iff.mp hx.symm).1]
    obtain ⟨w2, e2⟩ := w1.alloc (o := .lst (as.map V.ref)) (c := .lls ls) hp ⟨as, upd_same, by rw [k2, hh]⟩
    exact q.ok_at e2 w2 _ ⟨r, by rw [← w1.len]; simp, rfl⟩
theorem frz_core (h : tD K W (eFrz ev) σ H Q) : tDF K W ev σ H Q := by
  obtain ⟨ad, xs, env, μ, sr, w, p⟩ := h
  refine ⟨ad, xs, env, μ, sr, w, p.bind.mono fun ds H1 ad1 μ1 e1 w1 q r vs hp l => ?_⟩
  obtain ⟨w2, e2, i2⟩ := w1.new (o := .lst vs) hp
  exact q.ok_at e2 w2 _ (.lst i2 (LyAll.grow e2.same l))
theorem own_core (h : tD K W (eOwn ev) σ H Q) : tDF K W ev σ H Q := by
  obtain ⟨ad, xs, env, μ, sr, w, p⟩ := h
  refine ⟨ad, xs, env, μ, sr, w, p.bind.mono fun ds H1 ad1 μ1 e1 w1 q r vs hp l => ?_⟩
  have es : Same (Im H1 ad1 xs) (Im (upd H1 r (.lst vs)) (ad1 ++ [r]) xs) := fun a u e => by
    obtain ⟨x1, x2, x3⟩ := Im_some e
    have ne : a ≠ r := ne_of_none x3 hp
    exact Im_of (by simp [x1, ne]) x2 ((upd_ne ne).trans x3)
  obtain ⟨w2, e2⟩ := w1.alloc (o := .lst vs) (c := .lst ds) hp ⟨vs, upd_same, LyAll.grow es l⟩
  exact q.ok_at e2 w2 _ ⟨r, by rw [← w1.len]; simp, rfl⟩
theorem set_core {n : Nat} {ea : EvE} {D : Ends} (h : tDS K W (sSet (.nm n) ea) D σ H) : tD K W ea σ H fun x H1 => gName n x σ H1 D.nx := by
  obtain ⟨ad, xs, env, μ, sr, w, p⟩ := h
  refine ⟨ad, xs, env, μ, sr, w, p.bind.mono fun d H1 ad1 μ1 e1 w1 p1 v r => ?_⟩
  dsimp only at p1
  cases hb : bindT (.nm n) d env with
  | none => rw [hb] at p1; exact p1.elim
  | some env' =>
    rw [hb] at p1
    unfold bindT at hb
    split at hb
    · cases hb
      exact (p1.ok w1) _ ((sr.ext e1).set r)
    · cases hb
end

/-- what a comprehension's new list D is while it grows: it stands apart -/
theorem WOk.enter {K : PySem.W.Frag} {H : Hp} {ad xs : List Addr} {μ : Store} {D : Addr} (w : WOk K H ad xs μ) (hD : H D = none) : WOk K (upd H D (.lst [])) ad (D :: xs) μ ∧ Same (Im H ad xs) (Im (upd H D (.lst [])) ad (D :: xs)) := by
  obtain ⟨h1, h2⟩ := Im_new (o := .lst []) w hD
  have es : Same (Im H ad xs) (Im (upd H D (.lst [])) ad (D :: xs)) := fun a u e => by
    obtain ⟨x1, x2, x3⟩ := Im_some e
    have ne : a ≠ D := ne_of_none x3 hD
    exact Im_of x1 (by simp [ne, x2]) ((upd_ne ne).trans x3)
  refine ⟨⟨w.len, ?_, fun a ha => ?_, fun l a c e1 e2 => ?_⟩, es⟩
  · obtain ⟨n1, n2, n3⟩ := List.nodup_append.mp w.nd
    refine List.nodup_append.mpr ⟨n1, List.nodup_cons.mpr ⟨h2, n2⟩, fun a ha b hb => ?_⟩
    rcases List.mem_cons.mp hb with rfl | hb
    · exact fun z => h1 (z ▸ ha)
    · exact n3 a ha b hb
  · by_cases e : a = D
    · exact ⟨_, by rw [e, upd_same]⟩
    · have ha' : a ∈ ad ∨ a ∈ xs := by
        rcases ha with ha | ha
        · exact .inl ha
        · exact .inr ((List.mem_cons.mp ha).resolve_left e)
      obtain ⟨o, ho⟩ := w.there a ha'
      exact ⟨o, (upd_ne e).trans ho⟩
  · have c1 := w.cell l a c e1 e2
    have ne : a ≠ D := fun z => h1 (z ▸ List.mem_of_getElem? e1)
    cases c with
    | lst ds =>
      obtain ⟨vs, k1, k2⟩ := c1
      exact ⟨vs, (upd_ne ne).trans k1, LyAll.grow es k2⟩
    | lls ls =>
      obtain ⟨as, k1, k2⟩ := c1
      exact ⟨as, (upd_ne ne).trans k1, k2⟩
    | dic kvs =>
      obtain ⟨ws, k1, k2, k3⟩ := c1
      exact ⟨ws, (upd_ne ne).trans k1, k2, LyAll.grow es k3⟩
    | dit kvs =>
      obtain ⟨ws, k1, k2, k3⟩ := c1
      exact ⟨ws, (upd_ne ne).trans k1, k2, LyAll.grow es k3⟩
    | dead => trivial
/-- the list at D written while it stands apart -/
theorem WOk.atX {K : PySem.W.Frag} {H : Hp} {ad xs : List Addr} {μ : Store} {D : Addr} {o : HO} (w : WOk K H ad (D :: xs) μ) : WOk K (upd H D o) ad (D :: xs) μ ∧ Im (upd H D o) ad (D :: xs) = Im H ad (D :: xs) := by
  have em : Im (upd H D o) ad (D :: xs) = Im H ad (D :: xs) := by
    funext b
    unfold Im upd
    by_cases eb : b = D
    · subst eb; simp
    · simp [eb]
  have hD : D ∉ ad := fun z => (List.nodup_append.mp w.nd).2.2 D z D List.mem_cons_self rfl
  refine ⟨⟨w.len, w.nd, fun a ha => ?_, fun l a c e1 e2 => ?_⟩, em⟩
  · by_cases e : a = D
    · exact ⟨_, by rw [e, upd_same]⟩
    · obtain ⟨o', ho⟩ := w.there a ha
      exact ⟨o', (upd_ne e).trans ho⟩
  · have ne : a ≠ D := fun z => hD (z ▸ List.mem_of_getElem? e1)
    refine (w.cell l a c e1 e2).grow (ad1 := ad) (by rw [em]; exact fun _ _ h => h) ⟨[], by simp⟩ (upd_ne ne)
/-- behind it: the heap without it -/
def drp (H : Hp) (D : Addr) : Hp := fun a => if a = D then none else H a
theorem drp_upd {H : Hp} {D : Addr} {o : HO} (h : H D = some o) : upd (drp H D) D o = H := by
  funext b
  unfold upd drp
  by_cases e : b = D
  · subst e; simp [h]
  · simp [e]
theorem Im_drp {H : Hp} {ad xs : List Addr} {D : Addr} (hD : D ∉ ad) : Im (drp H D) ad xs = Im H ad (D :: xs) := by
  funext b
  unfold Im drp
  by_cases e : b = D
  · subst e; simp [hD]
  · simp [e]
theorem WOk.leave {K : PySem.W.Frag} {H : Hp} {ad xs : List Addr} {μ : Store} {D : Addr} (w : WOk K H ad (D :: xs) μ) : WOk K (drp H D) ad xs μ := by
  have hD : D ∉ ad := fun z => (List.nodup_append.mp w.nd).2.2 D z D List.mem_cons_self rfl
  obtain ⟨n1, n2, n3⟩ := List.nodup_append.mp w.nd
  have hx : D ∉ xs := (List.nodup_cons.mp n2).1
  have em := Im_drp (H := H) (xs := xs) hD
  refine ⟨w.len, List.nodup_append.mpr ⟨n1, (List.nodup_cons.mp n2).2, fun a ha b hb => n3 a ha b (List.mem_cons_of_mem _ hb)⟩, fun a ha => ?_, fun l a c e1 e2 => ?_⟩
  · have ne : a ≠ D := by
      rintro rfl
      exact ha.elim hD hx
    obtain ⟨o, ho⟩ := w.there a (ha.elim .inl fun z => .inr (List.mem_cons_of_mem _ z))
    exact ⟨o, by unfold drp; rw [if_neg ne]; exact ho⟩
  · have ne : a ≠ D := fun z => hD (z ▸ List.mem_of_getElem? e1)
    have c1 := w.cell l a c e1 e2
    have q : drp H D a = H a := by unfold drp; rw [if_neg ne]
    cases c with
    | lst ds =>
      obtain ⟨vs, k1, k2⟩ := c1
      exact ⟨vs, q.trans k1, by rw [em]; exact k2⟩
    | lls ls =>
      obtain ⟨as, k1, k2⟩ := c1
      exact ⟨as, q.trans k1, k2⟩
    | dic kvs =>
      obtain ⟨ws, k1, k2, k3⟩ := c1
      exact ⟨ws, q.trans k1, k2, by rw [em]; exact k3⟩
    | dit kvs =>
      obtain ⟨ws, k1, k2, k3⟩ := c1
      exact ⟨ws, q.trans k1, k2, by rw [em]; exact k3⟩
    | dead => trivial
theorem RepAll.to {K : PySem.W.Frag} {H H1 : Hp} {ad ad1 xs xs1 : List Addr} (s : Same (Im H ad xs) (Im H1 ad1 xs1)) (p : ∃ nw, ad1 = ad ++ nw) : ∀ {ds : List D} {vs : List V}, RepAll K H ad xs ds vs → RepAll K H1 ad1 xs1 ds vs
  | _, _, .nil => .nil
  | _, _, .cons h t => .cons (h.to s p) (RepAll.to s p t)
theorem RepAll.snoc {K : PySem.W.Frag} {H : Hp} {ad xs : List Addr} {d : D} {v : V} (r : Rep K H ad xs d v) : ∀ {ds : List D} {vs : List V}, RepAll K H ad xs ds vs → RepAll K H ad xs (ds ++ [d]) (vs ++ [v])
  | _, _, .nil => .cons r .nil
  | _, _, .cons h t => .cons h (RepAll.snoc r t)

/-- an evaluation that comes to an end gives any wish -/
theorem Post.of_ok {α : Type} {K : PySem.W.Frag} {xs : List Addr} {W : Wish} {H : Hp} {ad : List Addr} {o : Out (α × Store)} {a : α} {μ : Store} {Q : α → Hp → List Addr → Store → Prop} (e : o = .ok (a, μ))
    (k : ∀ H' ad', Ext H ad xs H' ad' → WOk K H' ad' xs μ → Q a H' ad' μ) : Post K xs W H ad o Q := by
  rw [e]
  exact k
section
variable {K : PySem.W.Frag} {W : Wish} {T : Tg} {ei : EvI} {tst : EvT} {elt : EvE} {vs : List Nat}
theorem lc_coreD (hT : ∀ i ∈ slotsT T, i ∈ vs) {σ : L2.St} {H : Hp} {Q : VK} (h : tDL K W (eLcD vs T ei tst elt) σ H Q) :
    tLc (tDI K W ei) (tDG K T) (tDT K W0 tst) (tD K W0 elt) vs σ H Q := by
  obtain ⟨ad, xs, env, μ, sr, w, p⟩ := h
  refine ⟨ad, xs, env, μ, sr, w, p.bind.mono fun s H1 ad1 μ1 e1 w1 p1 J wk => ?_⟩
  obtain ⟨items, g⟩ := s
  dsimp only at p1
  split at p1
  · rename_i hz
    intro D hD
    obtain ⟨w0, s0⟩ := w1.enter hD
    have hnD := Im_new (o := .lst []) w1 hD
    have srw : SRep K (upd H1 D (.lst [])) ad1 (D :: xs) (L2.wipe σ vs) (wipeE env vs) := ((sr.ext e1).wipe vs).to s0 ⟨[], by simp⟩
    cases ho : noExc (compD g T tst elt (wipeE env vs) items μ1) with
    | exc c fs μ' => rw [ho] at p1; cases hc : compD g T tst elt (wipeE env vs) items μ1 <;> rw [hc] at ho <;> cases ho
    | stuck => rw [ho] at p1; exact p1.elim
    | ok q =>
      obtain ⟨ds, μf⟩ := q
      rw [ho] at p1
      have hrun := noExc_eq ho
      have fin : ∀ H2 ad2, Same (Im H1 ad1 xs) (Im H2 ad2 (D :: xs)) → (∃ nw, ad2 = ad1 ++ nw) → (∀ a, a ∈ xs → H2 a = H1 a) → WOk K H2 ad2 (D :: xs) μf → ∀ vs', H2 D = some (.lst vs') → RepAll K H2 ad2 (D :: xs) ds vs' → Q (.ref D) H2 := by
        intro H2 ad2 sm pr kx w2 vs' hv r
        have hDa : D ∉ ad2 := fun z => (List.nodup_append.mp w2.nd).2.2 D z D List.mem_cons_self rfl
        have em := Im_drp (H := H2) (xs := xs) hDa
        have k := p1 (drp H2 D) ad2 ⟨by rw [em]; exact sm, pr, fun a ha => by
            have ne : a ≠ D := fun z => hnD.2 (z ▸ ha)
            unfold drp
            rw [if_neg ne]
            exact kx a ha⟩ w2.leave D vs' (by simp [drp]) (r.to (by rw [em]; exact fun _ _ h => h) ⟨[], by simp⟩)
        rw [drp_upd hv] at k
        exact k
      refine ⟨fun i m H' => m = items.length - i ∧ i ≤ items.length ∧ ∃ ad' μ' acc accv rest, H' D = some (.lst accv) ∧ RepAll K H' ad' (D :: xs) acc accv ∧ accv.length ≤ i ∧ Same (Im H1 ad1 xs) (Im H' ad' (D :: xs)) ∧ (∃ nw, ad' = ad1 ++ nw) ∧ (∀ a, a ∈ xs → H' a = H1 a) ∧ WOk K H' ad' (D :: xs) μ' ∧
        compD g T tst elt (wipeE env vs) (items.drop i) μ' = .ok (rest, μf) ∧ ds = acc ++ rest,
        ⟨items.length, by simp, Nat.zero_le _, ad1, μ1, [], [], ds, upd_same, .nil, Nat.le_refl _, s0, ⟨[], by simp⟩, fun a ha => upd_ne fun z => hnD.2 (z ▸ ha), w0, by rw [List.drop_zero]; exact hrun, rfl⟩, ?_⟩
      rintro i m H' ⟨rfl, hi, ad', μ', acc, accv, rest, hHD, racc, hal, sm, nw, kx, w', hr, hds⟩
      by_cases hlt : i < items.length
      · rw [List.drop_eq_getElem_cons hlt] at hr
        unfold compD at hr
        split at hr
        · rename_i hh
          have sm1 : Same (Im H1 ad1 xs) (Im H' ad' (D :: xs)) := sm
          obtain ⟨_, k2⟩ := wk i H' ad' (D :: xs) μ' sm nw w' hh
          obtain ⟨kg, ky⟩ := k2 items[i] (by simp [hlt])
          refine .inr ⟨kg, fun H2 => ∃ ad2 μ2 acc2 accv2 rest2, H2 D = some (.lst accv2) ∧ RepAll K H2 ad2 (D :: xs) acc2 accv2 ∧ accv2.length ≤ i + 1 ∧ Same (Im H1 ad1 xs) (Im H2 ad2 (D :: xs)) ∧ (∃ nw, ad2 = ad1 ++ nw) ∧ (∀ a, a ∈ xs → H2 a = H1 a) ∧ WOk K H2 ad2 (D :: xs) μ2 ∧
            compD g T tst elt (wipeE env vs) (items.drop (i + 1)) μ2 = .ok (rest2, μf) ∧ ds = acc2 ++ rest2, fun H2 h2 => ⟨items.length - (i + 1), by omega, rfl, hlt, h2⟩, fun x Hx y => ?_⟩
          obtain ⟨ex, wx, rx⟩ := ky x Hx y
          cases hb : bindT T items[i] (wipeE env vs) with
          | none => rw [hb] at hr; cases hr
          | some env1 =>
            rw [hb] at hr
            dsimp only at hr
            obtain ⟨⟨b, μ2⟩, ht, hr2⟩ := bind_ok hr
            obtain ⟨nw1, en1⟩ := nw
            have srx : SRep K Hx ad' (D :: xs) (L2.wipe σ vs) (wipeE env vs) := ((sr.ext e1).wipe vs).to (fun a o h => ex.same a o (sm a o h)) ⟨nw1, en1⟩
            refine ⟨ad', D :: xs, wipeE env vs, _, env1, srx, rx, hb, fun σ2 sr2 hw2 => ⟨?_, ?_⟩⟩
            · rw [hw2 vs hT, wipe_wipe]
            · refine ⟨ad', D :: xs, env1, μ', sr2, wx, Post.of_ok ht fun H3 ad3 e3 w3 => ?_⟩
              obtain ⟨nw3, en3⟩ := e3.pre
              have sm3 : Same (Im H1 ad1 xs) (Im H3 ad3 (D :: xs)) := fun a o h => e3.same a o (ex.same a o (sm a o h))
              have kx3 : ∀ a, a ∈ xs → H3 a = H1 a := fun a ha => ((e3.keepx a (List.mem_cons_of_mem _ ha)).trans (ex.keepx a (List.mem_cons_of_mem _ ha))).trans (kx a ha)
              have hD3 : H3 D = some (.lst accv) := ((e3.keepx D List.mem_cons_self).trans (ex.keepx D List.mem_cons_self)).trans hHD
              have r3 : RepAll K H3 ad3 (D :: xs) acc accv := RepAll.to (fun a o h => e3.same a o (ex.same a o h)) ⟨nw3, en3⟩ racc
              cases b with
              | false =>
                simp only [Bool.false_eq_true, if_false] at hr2 ⊢
                exact ⟨ad3, μ2, acc, accv, rest, hD3, r3, by omega, sm3, ⟨nw1 ++ nw3, by rw [en3, en1, List.append_assoc]⟩, kx3, w3, hr2, hds⟩
              | true =>
                simp only [if_true] at hr2 ⊢
                obtain ⟨⟨d4, μ4⟩, he, hr3⟩ := bind_ok hr2
                obtain ⟨⟨rest4, μ5⟩, hc4, hr4⟩ := bind_ok hr3
                cases hr4
                refine ⟨ad3, D :: xs, env1, μ2, sr2.ext e3, w3, Post.of_ok he fun H4 ad4 e4 w4 v4 rv4 => ?_⟩
                obtain ⟨nw4, en4⟩ := e4.pre
                have hD4 : H4 D = some (.lst accv) := (e4.keepx D List.mem_cons_self).trans hD3
                obtain ⟨w5, em5⟩ := w4.atX (o := .lst (accv ++ [v4]))
                have r5 : RepAll K (upd H4 D (.lst (accv ++ [v4]))) ad4 (D :: xs) (acc ++ [d4]) (accv ++ [v4]) := RepAll.to (by rw [em5]; exact fun _ _ h => h) ⟨[], by simp⟩ (RepAll.snoc rv4 (RepAll.ext e4 r3))
                refine ⟨accv, hD4, by omega, ad4, μ4, acc ++ [d4], accv ++ [v4], rest4, upd_same, r5, by simp; omega, ?_, ⟨nw1 ++ nw3 ++ nw4, by rw [en4, en3, en1]; simp⟩, fun a ha => ?_, w5, hc4, by rw [hds]; simp⟩
                · rw [em5]
                  exact fun a o h => e4.same a o (sm3 a o h)
                · have ne : a ≠ D := fun z => hnD.2 (z ▸ ha)
                  rw [upd_ne ne, e4.keepx a (List.mem_cons_of_mem _ ha)]
                  exact kx3 a ha
        · cases hr
      · have hn : i = items.length := by omega
        subst hn
        rw [List.drop_length] at hr
        unfold compD at hr
        split at hr
        · rename_i hh
          obtain ⟨k1, _⟩ := wk items.length H' ad' (D :: xs) μ' sm nw w' hh
          cases hr
          refine .inl ⟨k1 rfl, fin H' ad' sm nw kx w' accv hHD ?_⟩
          rw [hds, List.append_nil]
          exact racc
        · cases hr
  · exact p1.elim
end
abbrev STs (X : Cx) (W : Wish) (ifs : List Expr) (ev : EvT) : Prop := PTs X ifs (tDT X.K W ev)
section
variable {X : Cx} {W : Wish} {T : Tg} {ei : EvI} {tst : EvT} {elt : EvE} {tg it el c : Expr} {ifs : List Expr} {scope : Scope} {own : List (Str × Nat)} {pos spos py : Pos}
theorem pts_imp {t t' : TT} (h : PTs X ifs t) (k : ∀ σ H Q, t' σ H Q → t σ H Q) : PTs X ifs t' := ⟨fun pins s σ H Q I q => h.run pins s σ H Q I (k _ _ _ q)⟩
theorem sts_nil : STs X W [] tYesE := pts_imp pts_nil fun σ H Q h => by
  obtain ⟨ad, xs, env, μ, sr, w, p⟩ := h
  exact p.ok w
theorem sts_one (h : ST X W c tst) : STs X W [c] tst := pts_one h
theorem sl_lc (hc : X.calm = true) (hN : X.N.Nodup) (ok : BlkOk X.N X.env.scope scope own) (hT : decide (∀ i ∈ slotsT T, i ∈ own.map (·.2)) = true) (hi : SI X W tg it ei)
    (hg : ∀ (s : Shared) (H : Hp) (C : Addr) (cl : List (Str × Addr)) (fp : List Addr), SG (X.blk s H scope (compEnvC scope cl C X.env) fp) tg T) (ht : ∀ (s : Shared) (H : Hp) (C : Addr) (cl : List (Str × Addr)) (fp : List Addr), STs (X.blk s H scope (compEnvC scope cl C X.env) fp) W0 ifs tst)
    (he : ∀ (s : Shared) (H : Hp) (C : Addr) (cl : List (Str × Addr)) (fp : List Addr), SE (X.blk s H scope (compEnvC scope cl C X.env) fp) W0 el elt) (hs : ∀ x, foldedSetIterable it X.env x = pure x := by intro _; rfl) :
    SL X W (.ListComp el [⟨tg, it, ifs, 0⟩] scope pos) (eLcD (own.map (·.2)) T ei tst elt) :=
  pe_imp (pe_lc hc hN hi ok hg ht he hs) fun σ H Q h => lc_coreD (of_decide_eq_true hT) h
theorem sf_of_l {e : Expr} {ea : EvA} (h : SL X W e ea) : SF X W e (asF ea) := pe_imp h fun σ H Q h => asF_core h
theorem se_of_l {e : Expr} {ea : EvA} (h : SL X W e ea) : SE X W e (eOwnL ea) := pe_imp h fun σ H Q h => ownL_core h
/-- name = [..] -/
theorem ss_setLc (n : Nat) {y : Str} {ea : EvE} (hc : X.calm = true) (hN : X.N.Nodup) (ok : BlkOk X.N X.env.scope scope own) (hT : decide (∀ i ∈ slotsT T, i ∈ own.map (·.2)) = true) (hi : SI X W tg it ei)
    (hg : ∀ (s : Shared) (H : Hp) (C : Addr) (cl : List (Str × Addr)) (fp : List Addr), SG (X.blk s H scope (compEnvC scope cl C X.env) fp) tg T) (ht : ∀ (s : Shared) (H : Hp) (C : Addr) (cl : List (Str × Addr)) (fp : List Addr), STs (X.blk s H scope (compEnvC scope cl C X.env) fp) W0 ifs tst)
    (he : ∀ (s : Shared) (H : Hp) (C : Addr) (cl : List (Str × Addr)) (fp : List Addr), SE (X.blk s H scope (compEnvC scope cl C X.env) fp) W0 el elt)
    (k : ∀ σ H Q, tD X.K W ea σ H Q → tDL X.K W (eLcD (own.map (·.2)) T ei tst elt) σ H Q) (hsw : swapsWith (.ListComp el [⟨tg, it, ifs, 0⟩] scope pos) (some (.Name y py)) spos.line X.env = pure true)
    (hy : X.N[n]? = some y := by rfl) (hyl : X.env.scope.names.lookup y = some .local := by rfl) (hs : ∀ x, foldedSetIterable it X.env x = pure x := by intro _; rfl) :
    SS X W (.Assign [.Name y py] (.ListComp el [⟨tg, it, ifs, 0⟩] scope pos) spos) (sSet (.nm n) ea) :=
  ps_imp (ps_setLc hc hN hy hyl hsw hi ok hg ht he hs) fun D σ H h => lc_coreD (of_decide_eq_true hT) (k _ _ _ (set_core h))
end
section
variable {K : PySem.W.Frag} {W : Wish} {ea : EvA}
theorem k_frz : ∀ σ H Q, tD K W (eFrz (asF ea)) σ H Q → tDL K W ea σ H Q := fun σ H Q h => asF_core (frz_core h)
theorem k_own : ∀ σ H Q, tD K W (eOwn (asF ea)) σ H Q → tDL K W ea σ H Q := fun σ H Q h => asF_core (own_core h)
theorem k_lls : ∀ σ H Q, tD K W (eOwnL ea) σ H Q → tDL K W ea σ H Q := fun σ H Q h => ownL_core h
end
end Zd

set_option Elab.async false
set_option linter.all false
set_option maxRecDepth 100000
set_option maxHeartbeats 4000000
/-! Calls of defs, read by value; the text of a value. -/
namespace Zd
open PySem PySem.Spec PyProof.Rows L2

/-! ### a def's promise where nothing is being shown -/
structure Rm (k : Nat) (A : Around) : Prop where
  rm : Room k A
  gd : A.guards = some []
theorem Rm.mono {j k : Nat} {A : Around} (r : Rm k A) (h : j ≤ k) : Rm j A := ⟨r.rm.mono h, r.gd⟩
theorem Rm.deep {k : Nat} {A : Around} (r : Rm (k + 1) A) (env : PySem.Env) : Rm k (A.deeper env) := ⟨r.rm.deeper env, r.gd⟩
abbrev Sq := List V → Hp → VK → Prop
structure FK (P : Program) (w : World) (K : PySem.W.Frag) (mg : Str → Option Value) (base : Heap) (k : Nat) (f : Addr) (fd : FuncData) (ps : List Str) (sp : Sq) : Prop where
  len : ∀ vs H Q, sp vs H Q → vs.length = ps.length
  run : ∀ (A : Around) (outer : List PySem.Env) (s : Shared) (H : Hp) (args : Args) (us : List Value) (vs : List V) (Q : VK), Rm k A → Env0 P w K mg base A outer s H → BindsTo s fd args (ps.zip us) → Vals vs us → sp vs H Q →
    codeAny (model P w) A (.call (.ref f) args) (CR CX0 outer P w H s Q E0) s
section
variable {P : Program} {w : World} {K : PySem.W.Frag} {mg : Str → Option Value} {base : Heap}
theorem FK.mono {j k : Nat} {f : Addr} {fd : FuncData} {ps : List Str} {sp : Sq} (F : FK P w K mg base j f fd ps sp) (h : j ≤ k) : FK P w K mg base k f fd ps sp :=
  ⟨F.len, fun A outer s H args us vs Q r => F.run A outer s H args us vs Q (r.mono h)⟩
/-- a def by its body -/
theorem fk_of {x qual : Str} {st : Stmt} {f : Addr} {fd : FuncData} {N ps : List Str} {k : Nat} {sp : Sq} (F : Fun K x qual st f fd) (S : FnScope N ps (defScope st)) (len : ∀ vs H Q, sp vs H Q → vs.length = ps.length)
    (hb : ∀ (cdv : Value) (A : Around) (outer : List PySem.Env) (s : Shared) (H : Hp) (vs : List V) (Q : VK), Rm k (A.deeper (envOfC qual (defScope st) s.heap.objs.size f cdv)) → sp vs H Q →
      ∃ t, PSs (cxOf CX0 P w K mg base N qual (defScope st) f cdv A outer s H E0) (defBody st) t ∧ t { nx := fun _ H' => Q .non H', rt := Q } (start N vs) H) : FK P w K mg base (k + 1) f fd ps sp := by
  obtain ⟨c1, c2, c3, c4, c5, c6, cdv, c8, c9, rfl, lk, hcd⟩ := F.ex
  refine ⟨len, fun A outer s H args us vs Q rr e0 bd rv hs => ?_⟩
  have nvs := len _ _ _ hs
  have keep : ∀ b o, base.get? b = some o → s.heap.get? b = some o := fun b o e => (e0.bs b o e).1
  have kin : K.In s.heap := e0.mod.kin.keeps keep
  have nol : s.heap.NoLimit := e0.mod.nolimit.keeps keep
  have kinds : ∀ y ∈ ps.zip us, (defScope st).names.lookup y.1 = some .local ∨ ((defScope st).names.lookup y.1 = some .cell ∧ ((cellsFrom (s.heap.objs.size + 1) (defScope st).names []).lookup y.1).isSome = true) := by
    rintro ⟨n, v⟩ hy
    cases S.par n (List.of_mem_zip hy).1 with
    | inl q => exact .inl q
    | inr q => exact .inr ⟨q, PySem.W.cellsFrom_some _ _ _ (.inl q)⟩
  apply codeAny_call_function rr.rm.depth (kin _ _ lk) rfl S.co S.gen rfl (PySem.W.codeRec_of kin hcd)
  apply bd
  apply wpAny_newFunctionEnv_cells S.kind kinds
  intro env henv s1 ic
  subst henv
  refine ⟨nol.keeps ic.toInCall.keep, codeAny_func ?_⟩
  obtain ⟨t, ht, hq⟩ := hb cdv A outer s H vs Q (rr.deep _) hs
  have I0 := inv_start (CX := CX0) (E := E0) (P := P) (w := w) (f := f) (cd := cdv) (qual := qual) S rr.rm.hd e0 nvs rv ic
  refine wpAny_mono (ht.run [] s1 (start N vs) H _ I0 hq) (fun fl s2 h2 => ?_) (fun e s2 h2 => h2)
  cases fl with
  | next =>
    obtain ⟨τ, H', J, q⟩ := h2
    exact ⟨.non, H', J.os, J.bare, J.base, J.hok, rfl, q⟩
  | ret u =>
    obtain ⟨v, τ, H', J, rv', q⟩ := h2
    exact ⟨v, H', J.os, J.bare, J.base, J.hok, rv', q⟩
  | brk => exact h2.elim fun _ h => h.elim fun _ h => h.2.elim
  | cont => exact h2.elim fun _ h => h.elim fun _ h => h.2.elim
end
/-- a def that may be called by its name -/
structure CalK (P : Program) (w : World) (K : PySem.W.Frag) (mg : Str → Option Value) (base : Heap) (k : Nat) (x : Str) (sp : Sq) : Prop where
  ex : ∃ (f : Addr) (fd : FuncData) (ps : List Str), FK P w K mg base k f fd ps sp ∧ mg x = some (.ref f) ∧ PySem.W.keepIn K (.ref f) = true ∧ Binds K fd ps []
def tCallK (sp : Sq) (t : TA) : TE := fun σ H Q => t σ H fun vs H1 => sp vs H1 Q
section
variable {X : Cx} {k : Nat} {x : Str} {sp : Sq} {p pos : Pos} {e : Expr} {es : List Expr} {t : TA}
theorem run_fk {pins : List (Addr × Obj)} {σ : L2.St} {H : Hp} {s : Shared} {Q : VK} {us : List Value} {vs : List V} {f : Addr} {fd : FuncData} {ps : List Str} (F : FK X.prog X.w X.K X.mg X.base k f fd ps sp) (hr : Rm k X.A) (hb : Binds X.K fd ps [])
    (I : Inv X pins σ H s) (r : Vals vs us) (h : sp vs H Q) : wpAny (model X.prog X.w) X.A (call (.ref f) us) (EP X pins σ Q) X.xe s := by
  have nus : (us ++ []).length = ps.length := by rw [List.append_nil, ← r.length]; exact F.len _ _ _ h
  have bd := hb s us I.kIn nus
  rw [List.append_nil] at bd
  refine wpAny_call (codeAny_mono (F.run X.A X.stack s H ⟨us, []⟩ us vs Q hr I.env0 bd r h) fun rs s2 h2 => ?_)
  match rs, h2 with
  | .ok (.ret u), h2 => exact I.after h2
theorem pe_callK (c : CalK X.prog X.w X.K X.mg X.base k x sp) (hr : Rm k X.A) (hg : Gl X x) (ha : PA X (e :: es) t) (hd : (x == ("__debug__" : Str)) = false := by decide)
    (he : starEach (e :: es) X.env = (false, eval e X.env) :: starEach es X.env := by rfl) (hpl : (backTo pos (starEach es X.env)).any (·.1) = false := by rfl) : PE X (.Call (.Name x p) (e :: es) [] pos) (tCallK sp t) := by
  obtain ⟨f, fd, ps, F, hm, hk, hb⟩ := c.ex
  refine ⟨fun pins s σ H Q I h => wpAny_Call_Name_kw (ld_glob I hg hm ?_ hd)⟩
  exact PySem.W.callWith_K (h₀ := X.base) I.ok.mod.kin hk (thn (ha.run pos pins s σ H _ I h) fun us s1 ⟨vs, H1, I1, r, q⟩ => ⟨I1.kIn, run_fk F hr hb I1 r q⟩) he hpl
theorem pe_callK0 (c : CalK X.prog X.w X.K X.mg X.base k x sp) (hr : Rm k X.A) (hg : Gl X x) (hd : (x == ("__debug__" : Str)) = false := by decide) : PE X (.Call (.Name x p) [] [] pos) (tCallK sp tNil) := by
  obtain ⟨f, fd, ps, F, hm, hk, hb⟩ := c.ex
  refine ⟨fun pins s σ H Q I h => wpAny_Call_Name_kw (ld_glob I hg hm ?_ hd)⟩
  exact PySem.W.callWith_K0 I.kIn hk (run_fk (us := []) F hr hb I .nil h)
end

/-! ### what a def computes -/
/-- from data alone -/
abbrev FnP := List PyData → Out PyData
/-- with the store -/
abbrev FnS := List D → Store → Out (D × Store)
def frzs (μ : Store) : List Nat → Option (List PyData)
  | [] => some []
  | l :: r => match μ[l]? with
    | some (.lst ds) => (frzs μ r).map (.list ds :: ·)
    | _ => none
def frz (μ : Store) : D → Option PyData
  | .pd d => some d
  | .ref l => match μ[l]? with
    | some (.lst ds) => some (.list ds)
    | some (.lls ls) => (frzs μ ls).map .list
    | _ => none
  | .scr _ => none
def startE (m : Nat) (ds : List D) : Env := ds.map some ++ List.replicate (m - ds.length) none
/-- m slots, n parameters -/
def fnP (n m : Nat) (ev : EvS) : FnP := fun ps => if ps.length = n then
  match ev (startE m (ps.map .pd)) [] with
  | .ok ((.rt d, _), μ) => match frz μ d with
    | some r => .ok r
    | none => .stuck
  | .ok ((.nx, _), _) => .ok .none
  | _ => .stuck
  else .stuck
/-- places made within stay -/
def fnL (n m : Nat) (ev : EvS) : FnS := fun ds μ => if ds.length = n then
  match ev (startE m ds) μ with
  | .ok ((.rt d, _), μ') => .ok (d, μ')
  | .ok ((.nx, _), μ') => .ok (.pd .none, μ')
  | _ => .stuck
  else .stuck
def cloC (n : Nat) : Cell → Bool
  | .lls ls => ls.all fun l => decide (l < n)
  | _ => true
def frzO (n : Nat) (μ : Store) : D → Option D
  | .ref l => if l < n then some (.ref l) else match μ[l]? with
    | some (.lst ds) => some (.pd (.list ds))
    | _ => none
  | .pd d => some (.pd d)
  | .scr _ => none
/-- places made within are dropped -/
def fnS (n m : Nat) (ev : EvS) : FnS := fun ds μ => (fnL n m ev ds μ).bind fun p => match frzO μ.length p.2 p.1 with
  | some d => if (p.2.take μ.length).all (cloC μ.length) = true then .ok (d, p.2.take μ.length) else .stuck
  | none => .stuck
def spP (K : PySem.W.Frag) (n : Nat) (F : FnP) : Sq := fun vs H Q => ∃ xs ps r, vs.length = n ∧ xs.Nodup ∧ (∀ a, a ∈ xs → ∃ o, H a = some o) ∧ LyAll K (Im H [] xs) vs ps ∧ F ps = .ok r ∧
  ∀ H' v, Same (Im H [] xs) (Im H' [] xs) → (∀ a, a ∈ xs → H' a = H a) → Ly K (Im H' [] xs) v r → Q v H'
def spS (K : PySem.W.Frag) (n : Nat) (G : FnS) : Sq := fun vs H Q => ∃ ad xs μ ds, vs.length = n ∧ WOk K H ad xs μ ∧ RepAll K H ad xs ds vs ∧
  Post K xs W0 H ad (G ds μ) fun d H' ad' _ => ∀ v, Rep K H' ad' xs d v → Q v H'
section
variable {K : PySem.W.Frag} {H H' : Hp} {ad ad' xs : List Addr} {μ μ' : Store}
theorem Im_nil_le {ad xs : List Addr} : Same (Im H ad xs) (Im H [] xs) := fun a o h => by
  obtain ⟨h1, h2, h3⟩ := Im_some h
  exact Im_of (by simp) h2 h3
theorem Im_pre_le {ad nw xs : List Addr} : Same (Im H (ad ++ nw) xs) (Im H ad xs) := fun a o h => by
  obtain ⟨h1, h2, h3⟩ := Im_some h
  exact Im_of (fun z => h1 (List.mem_append_left _ z)) h2 h3
theorem frzs_ly (w : WOk K H ad xs μ) : ∀ {ls : List Nat} {as : List Addr} {rs : List PyData}, frzs μ ls = some rs → as.map some = ls.map (fun l => ad[l]?) → ∀ {zs : List Addr}, (∀ a o, H a = some o → a ∉ xs → zs = zs) → LyAll K (Im H [] xs) (as.map V.ref) rs
  | [], [], _, e, _, _, _ => by cases e; exact .nil
  | [], _ :: _, _, _, e, _, _ => by simp at e
  | _ :: _, [], _, _, e, _, _ => by simp at e
  | l :: ls, a :: as, rs, e, g, zs, hz => by
    simp only [List.map_cons, List.cons.injEq] at g
    unfold frzs at e
    cases hc : μ[l]? with
    | none => rw [hc] at e; cases e
    | some c =>
      cases c with
      | lst ds =>
        rw [hc] at e
        simp only [Option.map_eq_some_iff] at e
        obtain ⟨qs, e1, rfl⟩ := e
        obtain ⟨vs, k1, k2⟩ := w.cell l a _ g.1.symm hc
        have nx : a ∉ xs := fun z => (List.nodup_append.mp w.nd).2.2 a (List.mem_of_getElem? g.1.symm) a z rfl
        exact .cons (.lst (Im_of (by simp) nx k1) (LyAll.grow Im_nil_le k2)) (frzs_ly w e1 g.2 hz)
      | _ => rw [hc] at e; cases e
theorem frz_ly (w : WOk K H ad xs μ) {d : D} {r : PyData} {v : V} (e : frz μ d = some r) (q : Rep K H ad xs d v) : Ly K (Im H [] xs) v r := by
  cases d with
  | pd d => cases e; exact Ly.grow Im_nil_le q
  | ref l =>
    obtain ⟨a, g, rfl⟩ := q
    have nx : a ∉ xs := fun z => (List.nodup_append.mp w.nd).2.2 a (List.mem_of_getElem? g) a z rfl
    unfold frz at e
    cases hc : μ[l]? with
    | none => simp [hc] at e
    | some c =>
      cases c with
      | lst ds =>
        simp [hc] at e
        subst e
        obtain ⟨vs, k1, k2⟩ := w.cell l a _ g hc
        exact .lst (Im_of (by simp) nx k1) (LyAll.grow Im_nil_le k2)
      | lls ls =>
        simp [hc] at e
        obtain ⟨rs, e1, rfl⟩ := e
        obtain ⟨as, k1, k2⟩ := w.cell l a _ g hc
        exact .lst (Im_of (by simp) nx k1) (frzs_ly w e1 k2 (zs := []) fun _ _ _ _ => rfl)
      | _ => simp [hc] at e
  | scr ns => cases e
/-- places are dropped -/
theorem WOk.cut {n : Nat} (e : Ext H ad xs H' ad') (w : WOk K H' ad' xs μ') (hn : n = ad.length) (hc : (μ'.take n).all (cloC n) = true) : WOk K H' ad xs (μ'.take n) ∧ Ext H ad xs H' ad := by
  subst hn
  obtain ⟨nw, rfl⟩ := e.pre
  have hl : ad.length ≤ μ'.length := by rw [← w.len]; simp
  refine ⟨⟨by simp; omega, ?_, fun a ha => w.there a ?_, fun l a c g1 g2 => ?_⟩, ⟨fun a o h => Im_pre_le _ _ (e.same a o h), ⟨[], by simp⟩, e.keepx⟩⟩
  · have nd := w.nd
    rw [List.append_assoc, List.nodup_append] at nd
    rw [List.nodup_append]
    refine ⟨nd.1, (List.nodup_append.mp nd.2.1).2.1, fun a ha b hb => nd.2.2 a ha b (List.mem_append_right _ hb)⟩
  · exact ha.elim (fun z => .inl (List.mem_append_left _ z)) .inr
  · have ll : l < ad.length := (List.getElem?_eq_some_iff.mp g1).1
    rw [List.getElem?_take_of_lt ll] at g2
    have g3 : (ad ++ nw)[l]? = some a := by rw [List.getElem?_append_left ll]; exact g1
    have k := w.cell l a c g3 g2
    cases c with
    | lst ds =>
      obtain ⟨vs, k1, k2⟩ := k
      exact ⟨vs, k1, LyAll.grow Im_pre_le k2⟩
    | lls ls =>
      obtain ⟨as, k1, k2⟩ := k
      refine ⟨as, k1, k2.trans ?_⟩
      have hm : Cell.lls ls ∈ μ'.take ad.length := List.mem_of_getElem? (i := l) (by rw [List.getElem?_take_of_lt ll]; exact g2)
      have hcl := List.all_eq_true.mp hc _ hm
      exact List.map_congr_left fun i hi => List.getElem?_append_left (of_decide_eq_true (List.all_eq_true.mp hcl i hi))
    | dic kvs =>
      obtain ⟨ws, k1, k2, k3⟩ := k
      exact ⟨ws, k1, k2, LyAll.grow Im_pre_le k3⟩
    | dit kvs =>
      obtain ⟨ws, k1, k2, k3⟩ := k
      exact ⟨ws, k1, k2, LyAll.grow Im_pre_le k3⟩
    | dead => trivial
theorem srep_start {N : List Str} {ds : List D} {vs : List V} (h : RepAll K H ad xs ds vs) (hl : vs.length ≤ N.length) : SRep K H ad xs (L2.start N vs) (startE N.length ds) := by
  have el := RepAll.length h
  refine ⟨by unfold L2.start startE; simp; omega, fun i d e => ?_⟩
  unfold startE at e
  by_cases hi : i < ds.length
  · rw [List.getElem?_append_left (by simpa using hi), List.getElem?_map] at e
    cases hd : ds[i]? with
    | none => rw [hd] at e; cases e
    | some d' =>
      rw [hd] at e
      cases e
      obtain ⟨v, h1, h2⟩ := RepAll.get h hd
      refine ⟨v, ?_, h2⟩
      unfold L2.start
      rw [List.getElem?_append_left (by simp; omega), List.getElem?_map, h1]
      rfl
  · rw [List.getElem?_append_right (by simpa using hi), List.getElem?_replicate] at e
    split at e <;> cases e
end
section
variable {P : Program} {w : World} {K : PySem.W.Frag} {mg : Str → Option Value} {base : Heap}
theorem scope_le {N ps : List Str} {sc : Scope} (S : FnScope N ps sc) : ps.length ≤ N.length := by
  have := congrArg List.length S.pre
  rw [List.length_take] at this
  omega
/-- a def from data alone -/
theorem fk_P {x qual : Str} {st : Stmt} {f : Addr} {fd : FuncData} {N ps : List Str} {k : Nat} {ev : EvS} (F : Fun K x qual st f fd) (S : FnScope N ps (defScope st))
    (hb : ∀ (cdv : Value) (A : Around) (outer : List PySem.Env) (s : Shared) (H : Hp), Rm k (A.deeper (envOfC qual (defScope st) s.heap.objs.size f cdv)) → SSs (cxOf CX0 P w K mg base N qual (defScope st) f cdv A outer s H E0).nox W0 (defBody st) ev) :
    FK P w K mg base (k + 1) f fd ps (spP K ps.length (fnP ps.length N.length ev)) := by
  refine fk_of F S (fun vs H Q h => ?_) fun cdv A outer s H vs Q hr h => ⟨_, PSs.nox (hb cdv A outer s H hr), ?_⟩
  · obtain ⟨_, _, _, e, _⟩ := h
    exact e
  · obtain ⟨xs, qs, r, hl, nd, th, ly, hF, q⟩ := h
    have wk : WOk K H [] xs [] := ⟨rfl, by simpa using nd, fun a ha => th a (by simpa using ha), fun l a c e => by simp at e⟩
    refine ⟨[], xs, startE N.length (qs.map .pd), [], srep_start (repAll_pd ly) (by rw [hl]; exact scope_le S), wk, ?_⟩
    unfold fnP at hF
    split at hF
    · revert hF
      cases ev (startE N.length (qs.map .pd)) [] with
      | ok p =>
        obtain ⟨⟨fl, env⟩, μ'⟩ := p
        intro hF H' ad' e w' σ' sr'
        have sm : Same (Im H [] xs) (Im H' [] xs) := fun a o z => Im_nil_le _ _ (e.same a o z)
        cases fl with
        | nx =>
          cases hF
          exact q H' _ sm e.keepx .non
        | rt d =>
          intro v rv
          dsimp only at hF
          cases hf : frz μ' d with
          | none => rw [hf] at hF; cases hF
          | some r' =>
            rw [hf] at hF
            cases hF
            exact q H' v sm e.keepx (frz_ly w' hf rv)
        | bk => cases hF
        | ct => cases hF
      | exc c fs μ' => intro hF; cases hF
      | stuck => intro hF; cases hF
    · cases hF
theorem fnL_post {xs ad : List Addr} {H : Hp} {n m : Nat} {ev : EvS} {ds : List D} {μ : Store} {Q : VK} (h : Post K xs W0 H ad (fnL n m ev ds μ) fun d H' ad' _ => ∀ v, Rep K H' ad' xs d v → Q v H') :
    Post K xs W0 H ad (ev (startE m ds) μ) fun q H' ad' _ => AtEnd K xs { nx := fun _ H' => Q .non H', rt := Q } q H' ad' := by
  unfold fnL at h
  split at h
  · revert h
    cases ev (startE m ds) μ with
    | ok p =>
      obtain ⟨⟨fl, env⟩, μ'⟩ := p
      intro h H' ad' e w' σ' sr'
      cases fl with
      | nx => exact h H' ad' e w' _ .non
      | rt d => exact h H' ad' e w'
      | bk => exact h.elim
      | ct => exact h.elim
    | exc c fs μ' => exact fun h => h.elim
    | stuck => exact fun h => h.elim
  · exact h.elim
theorem fk_L {x qual : Str} {st : Stmt} {f : Addr} {fd : FuncData} {N ps : List Str} {k : Nat} {ev : EvS} (F : Fun K x qual st f fd) (S : FnScope N ps (defScope st))
    (hb : ∀ (cdv : Value) (A : Around) (outer : List PySem.Env) (s : Shared) (H : Hp), Rm k (A.deeper (envOfC qual (defScope st) s.heap.objs.size f cdv)) → SSs (cxOf CX0 P w K mg base N qual (defScope st) f cdv A outer s H E0).nox W0 (defBody st) ev) :
    FK P w K mg base (k + 1) f fd ps (spS K ps.length (fnL ps.length N.length ev)) := by
  refine fk_of F S (fun vs H Q h => ?_) fun cdv A outer s H vs Q hr h => ⟨_, PSs.nox (hb cdv A outer s H hr), ?_⟩
  · obtain ⟨_, _, _, _, e, _⟩ := h
    exact e
  · obtain ⟨ad, xs, μ, ds, hl, wk, ra, hp⟩ := h
    exact ⟨ad, xs, startE N.length ds, μ, srep_start ra (by rw [hl]; exact scope_le S), wk, fnL_post hp⟩
theorem rep_cut {H H' : Hp} {ad ad' xs : List Addr} {μ' : Store} {n : Nat} {d d' : D} {v : V} (e : Ext H ad xs H' ad') (w : WOk K H' ad' xs μ') (hn : n = ad.length) (hf : frzO n μ' d = some d') (rv : Rep K H' ad' xs d v) : Rep K H' ad xs d' v := by
  obtain ⟨nw, rfl⟩ := e.pre
  cases d with
  | pd d =>
    simp only [frzO, Option.some.injEq] at hf
    subst hf
    exact Ly.grow Im_pre_le rv
  | scr ns => simp [frzO] at hf
  | ref l =>
    obtain ⟨a, g, rfl⟩ := rv
    by_cases hlt : l < n
    · simp only [frzO, hlt, if_true, Option.some.injEq] at hf
      subst hf
      rw [List.getElem?_append_left (by omega)] at g
      exact ⟨a, g, rfl⟩
    · simp only [frzO, hlt, if_false] at hf
      have nd := w.nd
      have na : a ∉ ad := fun z => by
        have nd1 := (List.nodup_append.mp nd).1
        rw [List.getElem?_append_right (by omega)] at g
        exact (List.nodup_append.mp nd1).2.2 a z a (List.mem_of_getElem? g) rfl
      have nx : a ∉ xs := fun z => (List.nodup_append.mp nd).2.2 a (List.mem_of_getElem? g) a z rfl
      cases hcell : μ'[l]? with
      | none => simp [hcell] at hf
      | some c =>
        cases c with
        | lst es =>
          simp only [hcell, Option.some.injEq] at hf
          subst hf
          obtain ⟨vs, k1, k2⟩ := w.cell l a _ g hcell
          exact .lst (Im_of na nx k1) (LyAll.grow Im_pre_le k2)
        | _ => simp [hcell] at hf
theorem fnS_post {xs ad : List Addr} {H : Hp} {n m : Nat} {ev : EvS} {ds : List D} {μ : Store} {Q : VK} (hl : ad.length = μ.length) (h : Post K xs W0 H ad (fnS n m ev ds μ) fun d H' ad' _ => ∀ v, Rep K H' ad' xs d v → Q v H') :
    Post K xs W0 H ad (fnL n m ev ds μ) fun d H' ad' _ => ∀ v, Rep K H' ad' xs d v → Q v H' := by
  unfold fnS at h
  revert h
  cases fnL n m ev ds μ with
  | ok p =>
    intro h H' ad' e w' v rv
    obtain ⟨d, μ'⟩ := p
    simp only [Out.ok_bind] at h
    cases hf : frzO μ.length μ' d with
    | none => rw [hf] at h; exact h.elim
    | some d' =>
      rw [hf] at h
      dsimp only at h
      by_cases hc : (μ'.take μ.length).all (cloC μ.length) = true
      · rw [if_pos hc] at h
        obtain ⟨w2, e2⟩ := WOk.cut e w' hl.symm hc
        exact h H' ad e2 w2 v (rep_cut e w' hl.symm hf rv)
      · rw [if_neg hc] at h
        exact h.elim
  | exc c fs μ' => exact fun h => h
  | stuck => exact fun h => h
theorem fk_S {x qual : Str} {st : Stmt} {f : Addr} {fd : FuncData} {N ps : List Str} {k : Nat} {ev : EvS} (F : Fun K x qual st f fd) (S : FnScope N ps (defScope st))
    (hb : ∀ (cdv : Value) (A : Around) (outer : List PySem.Env) (s : Shared) (H : Hp), Rm k (A.deeper (envOfC qual (defScope st) s.heap.objs.size f cdv)) → SSs (cxOf CX0 P w K mg base N qual (defScope st) f cdv A outer s H E0).nox W0 (defBody st) ev) :
    FK P w K mg base (k + 1) f fd ps (spS K ps.length (fnS ps.length N.length ev)) := by
  refine ⟨fun vs H Q h => ?_, fun A outer s H args us vs Q hr e0 hb2 rv h => ?_⟩
  · obtain ⟨_, _, _, _, e, _⟩ := h
    exact e
  · obtain ⟨ad, xs, μ, ds, hl, wk, ra, hp⟩ := h
    exact (fk_L F S hb).run A outer s H args us vs Q hr e0 hb2 rv ⟨ad, xs, μ, ds, hl, wk, ra, fnS_post wk.len hp⟩
end

/-! ### the calls -/
def isVal : D → Bool
  | .ref _ => false
  | _ => true
mutual
/-- no list within -/
def noL : PyData → Bool
  | .list _ => false
  | .tuple ds => noLs ds
  | .dict _ => false
  | _ => true
def noLs : List PyData → Bool
  | [] => true
  | d :: ds => noL d && noLs ds
end
def eCallP (F : FnP) (ea : EvA) : EvE := fun env μ => (ea env μ).bind fun p => match derefs p.2 p.1 with
  | some ps => match F ps with
    | .ok r => if p.1.all isVal || noL r then .ok (.pd r, p.2) else .stuck
    | _ => .stuck
  | none => .stuck
def eCallS (G : FnS) (ea : EvA) : EvE := fun env μ => (ea env μ).bind fun p => G p.1 p.2
section
variable {K : PySem.W.Frag} {H H' : Hp} {ad ad' xs : List Addr} {μ μ' : Store}
mutual
theorem Ly.noL {I I' : Hp} (k : ∀ a o, I a = some o → (∀ vs, o ≠ .lst vs) → I' a = some o) : ∀ {v : V} {d : PyData}, Ly K I v d → Zd.noL d = true → Ly K I' v d
  | _, _, .non, _ => .non
  | _, _, .bl b, _ => .bl b
  | _, _, .int i, _ => .int i
  | _, _, .str x, _ => .str x
  | _, _, .lst _ _, e => by simp [Zd.noL] at e
  | _, _, .tup h q, e => .tup (by
      rcases h with (h | ⟨o, h⟩) | h
      · exact .inl (.inl (k _ _ h (by simp)))
      · exact .inl (.inr ⟨o, k _ _ h (by simp)⟩)
      · exact .inr h) (LyAll.noL k q (by simpa [Zd.noL] using e))
theorem LyAll.noL {I I' : Hp} (k : ∀ a o, I a = some o → (∀ vs, o ≠ .lst vs) → I' a = some o) : ∀ {vs : List V} {ds : List PyData}, LyAll K I vs ds → Zd.noLs ds = true → LyAll K I' vs ds
  | _, _, .nil, _ => .nil
  | _, _, .cons h q, e => by
    simp only [Zd.noLs, Bool.and_eq_true] at e
    exact .cons (Ly.noL k h e.1) (LyAll.noL k q e.2)
end
/-- where the lists that may change lie, of these -/
def refsOf (ad : List Addr) (ds : List D) : List Addr := ds.filterMap fun d => match d with
  | .ref l => ad[l]?
  | _ => none
theorem refsOf_lst (w : WOk K H ad xs μ) {a : Addr} : ∀ {ds : List D} {ps : List PyData}, derefs μ ds = some ps → a ∈ refsOf ad ds → (∃ ws, H a = some (.lst ws)) ∧ ds.all isVal = false
  | [], _, _, hv => by simp [refsOf] at hv
  | d :: ds, ps, e, hv => by
    unfold derefs at e
    cases hd : deref μ d with
    | none => rw [hd] at e; cases e
    | some p0 =>
      rw [hd] at e
      simp only [Option.map_eq_some_iff] at e
      obtain ⟨qs, e1, _⟩ := e
      have tl : a ∈ refsOf ad ds → (∃ ws, H a = some (.lst ws)) ∧ (d :: ds).all isVal = false := fun z => by
        obtain ⟨y1, y2⟩ := refsOf_lst w e1 z
        exact ⟨y1, by simp [y2]⟩
      cases d with
      | pd d => exact tl (by simpa [refsOf] using hv)
      | scr ns => exact tl (by simpa [refsOf] using hv)
      | ref l =>
        cases g : ad[l]? with
        | none => exact tl (by simpa [refsOf, g] using hv)
        | some b =>
          have hv2 : a = b ∨ a ∈ refsOf ad ds := by simpa [refsOf, g] using hv
          rcases hv2 with rfl | z
          · refine ⟨?_, by simp [isVal]⟩
            cases hcell : μ[l]? with
            | none => simp [deref, hcell] at hd
            | some c =>
              cases c with
              | lst es =>
                obtain ⟨ws, k1, _⟩ := w.cell l a _ g hcell
                exact ⟨ws, k1⟩
              | _ => simp [deref, hcell] at hd
          · exact tl z
theorem args_ly {ys : List Addr} (w : WOk K H ad xs μ) (im : Same (Im H ad xs) (Im H [] ys)) : ∀ {ds : List D} {ps : List PyData} {vs : List V}, derefs μ ds = some ps → RepAll K H ad xs ds vs → (∀ a, a ∈ refsOf ad ds → a ∉ ys) → LyAll K (Im H [] ys) vs ps
  | [], _, _, e, .nil, _ => by cases e; exact .nil
  | d :: ds, ps, _, e, .cons h t, hy => by
    unfold derefs at e
    cases hd : deref μ d with
    | none => rw [hd] at e; cases e
    | some p0 =>
      rw [hd] at e
      simp only [Option.map_eq_some_iff] at e
      obtain ⟨qs, e1, rfl⟩ := e
      refine .cons ?_ (args_ly w im e1 t fun a ha => hy a (by
        unfold refsOf at ha ⊢
        rw [List.filterMap_cons]
        split <;> simp_all))
      cases d with
      | pd d => cases hd; exact Ly.grow im h
      | scr ns => simp [deref] at hd
      | ref l =>
        obtain ⟨a, g, rfl⟩ := h
        have na : a ∉ ys := hy a (by simp [refsOf, g])
        cases hcell : μ[l]? with
        | none => simp [deref, hcell] at hd
        | some c =>
          cases c with
          | lst es =>
            simp [deref, hcell] at hd
            subst hd
            obtain ⟨ws, k1, k2⟩ := w.cell l a _ g hcell
            exact .lst (Im_of (by simp) na k1) (LyAll.grow im k2)
          | _ => simp [deref, hcell] at hd
theorem callP_core {σ : L2.St} {F : FnP} {er : EvA} {n : Nat} {Q : VK} {W : Wish} (hn : ∀ ps r, F ps = .ok r → ps.length = n) (h : tD K W (eCallP F er) σ H Q) : tCallK (spP K n F) (tDA K W er) σ H Q := by
  obtain ⟨ad, xs, env, μ, sr, w, p⟩ := h
  refine ⟨ad, xs, env, μ, sr, w, p.bind.mono fun ds H1 ad1 μ1 e1 w1 q vs r => ?_⟩
  dsimp only at q
  cases hp : derefs μ1 ds with
  | none => rw [hp] at q; exact q.elim
  | some ps =>
    rw [hp] at q
    dsimp only at q
    cases hF : F ps with
    | exc c fs μ2 => rw [hF] at q; exact q.elim
    | stuck => rw [hF] at q; exact q.elim
    | ok d =>
      rw [hF] at q
      dsimp only at q
      by_cases hc : (ds.all isVal || noL d) = true
      · rw [if_pos hc] at q
        have nd := List.nodup_append.mp w1.nd
        obtain ⟨ys, hys⟩ : ∃ ys, ys = ad1.filter (fun a => decide (a ∉ refsOf ad1 ds)) ++ xs := ⟨_, rfl⟩
        have yin : ∀ a, a ∈ ys ↔ (a ∈ ad1 ∧ a ∉ refsOf ad1 ds) ∨ a ∈ xs := fun a => by rw [hys]; simp
        have im1 : Same (Im H1 ad1 xs) (Im H1 [] ys) := fun a o z => by
          obtain ⟨z1, z2, z3⟩ := Im_some z
          exact Im_of (by simp) (fun y => ((yin a).mp y).elim (fun u => z1 u.1) z2) z3
        have rin : ∀ a, a ∈ refsOf ad1 ds → a ∈ ad1 := fun a z => by
          unfold refsOf at z
          obtain ⟨d0, _, g⟩ := List.mem_filterMap.mp z
          split at g
          · exact List.mem_of_getElem? g
          · cases g
        have rny : ∀ a, a ∈ refsOf ad1 ds → a ∉ ys := fun a z y => by
          rcases (yin a).mp y with u | u
          · exact u.2 z
          · exact nd.2.2 a (rin a z) a u rfl
        have ly := args_ly w1 im1 hp r rny
        refine ⟨ys, ps, d, by rw [LyAll.length ly]; exact hn _ _ hF, ?_, fun a ha => w1.there a (((yin a).mp ha).elim (fun u => .inl u.1) .inr), ly, hF, fun H' v sm kx lv => ?_⟩
        · rw [hys, List.nodup_append]
          exact ⟨nd.1.sublist List.filter_sublist, nd.2.1, fun a ha b hb => nd.2.2 a (List.mem_filter.mp ha).1 b hb⟩
        · have sm2 : Same (Im H1 ad1 xs) (Im H' ad1 xs) := fun a o z => by
            obtain ⟨z1, z2, z3⟩ := Im_some z
            exact Im_of z1 z2 (Im_some (sm a o (im1 a o z))).2.2
          have at_ : ∀ a, a ∈ ad1 → H' a = H1 a := fun a ha => by
            by_cases hr : a ∈ refsOf ad1 ds
            · obtain ⟨o, ho⟩ := w1.there a (.inl ha)
              have := sm a o (Im_of (by simp) (rny a hr) ho)
              rw [ho, (Im_some this).2.2]
            · exact kx a ((yin a).mpr (.inl ⟨ha, hr⟩))
          have ex : Ext H1 ad1 xs H' ad1 := ⟨sm2, ⟨[], by simp⟩, fun a ha => kx a ((yin a).mpr (.inr ha))⟩
          have wk : WOk K H' ad1 xs μ1 := ⟨w1.len, w1.nd, fun a ha => by
              rcases ha with ha | ha
              · rw [at_ a ha]; exact w1.there a (.inl ha)
              · rw [kx a ((yin a).mpr (.inr ha))]; exact w1.there a (.inr ha), fun l a c g1 g2 => (w1.cell l a c g1 g2).grow sm2 ⟨[], by simp⟩ (at_ a (List.mem_of_getElem? g1))⟩
          refine q.ok_at ex wk v ?_
          show Ly K (Im H' ad1 xs) v d
          by_cases hv : ds.all isVal = true
          · have : Same (Im H' [] ys) (Im H' ad1 xs) := fun a o z => by
              obtain ⟨_, z2, z3⟩ := Im_some z
              refine Im_of (fun y => ?_) (fun y => z2 ((yin a).mpr (.inr y))) z3
              by_cases hr : a ∈ refsOf ad1 ds
              · rw [(refsOf_lst w1 hp hr).2] at hv; cases hv
              · exact z2 ((yin a).mpr (.inl ⟨y, hr⟩))
            exact Ly.grow this lv
          · refine Ly.noL (fun a o z no => ?_) lv (by simpa [hv] using hc)
            obtain ⟨_, z2, z3⟩ := Im_some z
            refine Im_of (fun y => ?_) (fun y => z2 ((yin a).mpr (.inr y))) z3
            by_cases hr : a ∈ refsOf ad1 ds
            · obtain ⟨⟨ws, k⟩, _⟩ := refsOf_lst w1 hp hr
              rw [at_ a y, k] at z3
              cases z3
              exact no ws rfl
            · exact z2 ((yin a).mpr (.inl ⟨y, hr⟩))
      · rw [if_neg hc] at q
        exact q.elim
theorem callS_core {σ : L2.St} {G : FnS} {er : EvA} {n : Nat} {Q : VK} (hn : ∀ ds μ, ds.length ≠ n → G ds μ = .stuck) (h : tD K W0 (eCallS G er) σ H Q) : tCallK (spS K n G) (tDA K W0 er) σ H Q := by
  obtain ⟨ad, xs, env, μ, sr, w, p⟩ := h
  refine ⟨ad, xs, env, μ, sr, w, p.bind.mono fun ds H1 ad1 μ1 e1 w1 q vs r => ?_⟩
  refine ⟨ad1, xs, μ1, ds, ?_, w1, r, q⟩
  rw [← RepAll.length r]
  apply Classical.byContradiction
  intro hne
  dsimp only at q
  rw [hn _ _ hne] at q
  exact q
theorem fnP_len {n m : Nat} {ev : EvS} (ps : List PyData) (r : PyData) (h : fnP n m ev ps = .ok r) : ps.length = n := by
  unfold fnP at h
  split at h
  · assumption
  · cases h
theorem fnL_len {n m : Nat} {ev : EvS} (ds : List D) (μ : Store) (h : ds.length ≠ n) : fnL n m ev ds μ = .stuck := by
  unfold fnL
  rw [if_neg h]
theorem fnS_len {n m : Nat} {ev : EvS} (ds : List D) (μ : Store) (h : ds.length ≠ n) : fnS n m ev ds μ = .stuck := by
  unfold fnS
  rw [fnL_len ds μ h]
  rfl
end

/-- a def by value, under its name -/
structure DefP (P : Program) (w : World) (K : PySem.W.Frag) (mg : Str → Option Value) (base : Heap) (k : Nat) (x : Str) (F : FnP) : Prop where
  ex : ∃ n, CalK P w K mg base k x (spP K n F) ∧ ∀ ps r, F ps = .ok r → ps.length = n
structure DefS (P : Program) (w : World) (K : PySem.W.Frag) (mg : Str → Option Value) (base : Heap) (k : Nat) (x : Str) (G : FnS) : Prop where
  ex : ∃ n, CalK P w K mg base k x (spS K n G) ∧ ∀ ds μ, ds.length ≠ n → G ds μ = .stuck
section
variable {P : Program} {w : World} {K : PySem.W.Frag} {mg : Str → Option Value} {base : Heap} {x : Str} {st : Stmt} {f : Addr} {fd : FuncData} {N ps : List Str} {k : Nat} {ev : EvS}
theorem defP (F : Fun K x x st f fd) (hm : mg x = some (.ref f)) (b : Binds K fd ps []) (S : FnScope N ps (defScope st))
    (hb : ∀ (cdv : Value) (A : Around) (outer : List PySem.Env) (s : Shared) (H : Hp), Rm k (A.deeper (envOfC x (defScope st) s.heap.objs.size f cdv)) → SSs (cxOf CX0 P w K mg base N x (defScope st) f cdv A outer s H E0).nox W0 (defBody st) ev) :
    DefP P w K mg base (k + 1) x (fnP ps.length N.length ev) := ⟨_, ⟨f, fd, ps, fk_P F S hb, hm, F.kp, b⟩, fnP_len⟩
theorem defS (F : Fun K x x st f fd) (hm : mg x = some (.ref f)) (b : Binds K fd ps []) (S : FnScope N ps (defScope st))
    (hb : ∀ (cdv : Value) (A : Around) (outer : List PySem.Env) (s : Shared) (H : Hp), Rm k (A.deeper (envOfC x (defScope st) s.heap.objs.size f cdv)) → SSs (cxOf CX0 P w K mg base N x (defScope st) f cdv A outer s H E0).nox W0 (defBody st) ev) :
    DefS P w K mg base (k + 1) x (fnS ps.length N.length ev) := ⟨_, ⟨f, fd, ps, fk_S F S hb, hm, F.kp, b⟩, fnS_len⟩
theorem defL (F : Fun K x x st f fd) (hm : mg x = some (.ref f)) (b : Binds K fd ps []) (S : FnScope N ps (defScope st))
    (hb : ∀ (cdv : Value) (A : Around) (outer : List PySem.Env) (s : Shared) (H : Hp), Rm k (A.deeper (envOfC x (defScope st) s.heap.objs.size f cdv)) → SSs (cxOf CX0 P w K mg base N x (defScope st) f cdv A outer s H E0).nox W0 (defBody st) ev) :
    DefS P w K mg base (k + 1) x (fnL ps.length N.length ev) := ⟨_, ⟨f, fd, ps, fk_L F S hb, hm, F.kp, b⟩, fnL_len⟩
theorem CalK.mono {sp : Sq} {j : Nat} (c : CalK P w K mg base j x sp) (h : j ≤ k) : CalK P w K mg base k x sp := by
  obtain ⟨f, fd, ps, F, r⟩ := c.ex
  exact ⟨f, fd, ps, F.mono h, r⟩
end
section
variable {X : Cx} {W : Wish} {j k : Nat} {x : Str} {F : FnP} {G : FnS} {p pos : Pos} {e : Expr} {es : List Expr} {er : EvA}
theorem se_callP (c : DefP X.prog X.w X.K X.mg X.base j x F) (hr : Rm k X.A) (ha : SA X W (e :: es) er) (hj : j ≤ k := by decide) (hg : Gl X x := by rfl) (hd : (x == ("__debug__" : Str)) = false := by decide)
    (he : starEach (e :: es) X.env = (false, eval e X.env) :: starEach es X.env := by rfl) (hpl : (backTo pos (starEach es X.env)).any (·.1) = false := by rfl) : SE X W (.Call (.Name x p) (e :: es) [] pos) (eCallP F er) := by
  obtain ⟨n, c, hn⟩ := c.ex
  exact pe_imp (pe_callK (c.mono hj) hr hg ha hd he hpl) fun _ _ _ h => callP_core hn h
theorem se_callS (c : DefS X.prog X.w X.K X.mg X.base j x G) (hr : Rm k X.A) (ha : SA X W0 (e :: es) er) (hj : j ≤ k := by decide) (hg : Gl X x := by rfl) (hd : (x == ("__debug__" : Str)) = false := by decide)
    (he : starEach (e :: es) X.env = (false, eval e X.env) :: starEach es X.env := by rfl) (hpl : (backTo pos (starEach es X.env)).any (·.1) = false := by rfl) : SE X W0 (.Call (.Name x p) (e :: es) [] pos) (eCallS G er) := by
  obtain ⟨n, c, hn⟩ := c.ex
  exact pe_imp (pe_callK (c.mono hj) hr hg ha hd he hpl) fun _ _ _ h => callS_core hn h
end

/-! ### the text of a value -/
def fRepr : FN
  | [d] => if d.showable = true ∧ d.hasDict = false ∧ d.shown.length ≤ sizeLine ∧ d.depth ≤ 60 then some (.str d.shown) else none
  | _ => none
def rShown (K : PySem.W.Frag) : RN := fun vs H Q => ∃ v d, vs = [v] ∧ Dp K H v d ∧ d.showable = true ∧ d.hasDict = false ∧ d.shown.length ≤ sizeLine ∧ d.depth ≤ 60 ∧ Q (.str d.shown) H
theorem rn_repr {K : PySem.W.Frag} : RnOk K (rShown K) fRepr := fun H ad xs μ vs ps c Q w m e q => by
  unfold fRepr at e
  split at e
  · split at e
    · rename_i h
      cases e
      obtain ⟨v, rfl, m1⟩ := m.one
      exact ⟨v, _, rfl, m1.dp, h.1, h.2.1, h.2.2.1, h.2.2.2, q.same w (.str _)⟩
    · cases e
  · cases e
theorem call_repr {X : Cx} {k : Nat} (hr : Rm k X.A) : CallR X (.builtin "repr") (rShown X.K) := by
  intro pins s σ H xs us Q I r h
  obtain ⟨v, d, rfl, dp, h1, h2, h3, h4, q⟩ := h
  obtain ⟨u, rfl, ru⟩ := vals1 r
  have hu := hr.rm.units
  have fin : ∀ (t : Tok), L2.RelV (V.str d.shown) (Value.str d.shown t) := fun t => ⟨t, rfl⟩
  have big : ∀ a, u = .ref a → wpAny (model X.prog X.w) X.A (call (.builtin "repr") [u]) (EP X pins σ Q) X.xe s := by
    rintro a rfl
    obtain ⟨as, rd⟩ := Dp.reads I d v _ dp ru
    exact repr_of_reads' rd h1 (PyData.noDict_hsm h2) hr.gd (by omega) (fun _ _ e => e) (fun h' t tk hk => ⟨_, H, I.kept hk, fin t, q⟩) h3
  cases d with
  | none =>
    cases dp
    cases (show u = Value.none from ru)
    exact PySem.P.repr_of_none ⟨_, H, I.tok _, fin _, q⟩
  | bool b =>
    cases dp
    cases (show u = Value.bool b from ru)
    refine PySem.P.repr_of_bool ⟨_, H, I.tok _, ?_, q⟩
    cases b <;> exact fin _
  | int i =>
    cases dp
    obtain ⟨t, rfl⟩ := ru
    exact PySem.P.repr_of_int (by simpa [PyData.showable] using h1) ⟨_, H, I.tok _, fin _, q⟩
  | str z =>
    cases dp
    obtain ⟨t, rfl⟩ := ru
    exact PySem.P.repr_of_str ⟨_, H, I.tok _, fin _, q⟩ (by simpa [PyData.shown] using h3)
  | list ds =>
    cases dp with
    | lst _ _ => exact big _ ru
  | tuple ds =>
    cases dp with
    | tup _ _ => exact big _ ru
  | dict kvs => simp [PyData.hasDict] at h2
end Zd

set_option Elab.async false
set_option linter.all false
set_option maxRecDepth 100000
set_option maxHeartbeats 4000000
/-! enumerate and zip over lists and tuples, range with a step, dicts: read by value. -/
namespace Zd
open PySem PySem.Spec PyProof.Rows L2

/-! ### a list or a tuple that is walked -/
def SqB (K : PySem.W.Frag) (b : Bool) (H : Hp) (a : Addr) (xs : List V) : Prop := match b with
  | true => SqL K H a xs
  | false => SqT K H a xs
def IsB (b : Bool) (h : Heap) (a : Addr) (its : Array Value) : Prop := match b with
  | true => h.IsList a its
  | false => h.IsTuple a its
def ItB (b : Bool) (h : Heap) (it a : Addr) (i : Nat) : Prop := match b with
  | true => h.IsListIter it a i
  | false => h.IsTupleIter it a i
def itO (b : Bool) (a : Addr) : Obj := match b with
  | true => { cls := .type "list_iterator", data := .fields #[.ref a, .int 0 0] }
  | false => { cls := .type "tuple_iterator", data := .fields #[.ref a, .int 0 0] }
theorem beginsB (b : Bool) (a : Addr) (its : Array Value) : Begins (.ref a) (itO b a) (fun h => IsB b h a its) := by
  cases b
  · exact begins_tuple a its
  · exact begins_list a its
theorem drawsB {prog : Program} {w : World} {A : Around} (hh : A.handled = none) (b : Bool) (it t : Addr) (hne : t ≠ it) (its : Array Value) : Draws prog w A it [it, t] its.size (fun i v => its[i]? = some v) (fun i h => ItB b h it t i ∧ IsB b h t its) := by
  cases b
  · exact Draws.tuple hh it t hne its
  · exact Draws.list hh it t hne its
theorem ItB.at {b : Bool} {h h' : Heap} {it a : Addr} {i : Nat} (p : ItB b h it a i) (k : ∀ o, h.get? it = some o → h'.get? it = some o) : ItB b h' it a i := by
  cases b
  · exact Heap.IsTupleIter.at p k
  · exact Heap.IsListIter.at p k
theorem IsB.at {b : Bool} {h h' : Heap} {a : Addr} {its : Array Value} (p : IsB b h a its) (k : ∀ o, h.get? a = some o → h'.get? a = some o) : IsB b h' a its := by
  cases b
  · exact Heap.IsTuple.at p k
  · exact Heap.IsList.at p k
theorem ItB.obj {b : Bool} {h : Heap} {it a : Addr} {i : Nat} (p : ItB b h it a i) : ∃ o, h.get? it = some o ∧ ∀ v, o.data ≠ .cell v := by
  cases b
  · obtain ⟨o, e, _, d⟩ := p
    exact ⟨o, e, fun v q => by rw [d] at q; cases q⟩
  · obtain ⟨o, e, _, d⟩ := p
    exact ⟨o, e, fun v q => by rw [d] at q; cases q⟩
theorem ItB.new {b : Bool} {h : Heap} {it a : Addr} (e : h.get? it = some (itO b a)) : ItB b h it a 0 := by
  cases b
  · exact ⟨_, e, rfl, rfl⟩
  · exact ⟨_, e, rfl, rfl⟩
section
variable {X : Cx} {pins : List (Addr × Obj)} {σ : L2.St} {H : Hp} {s : Shared} {a : Addr} {xs ys : List V} {b : Bool}
theorem inv_sqB (I : Inv X pins σ H s) (h : SqB X.K b H a xs) : ∃ its : List Value, Vals xs its ∧ IsB b s.heap a its.toArray := by
  cases b
  · obtain ⟨its, rv, p, _⟩ := I.tuple h
    exact ⟨its, rv, p⟩
  · obtain ⟨its, rv, p, _⟩ := I.list h
    exact ⟨its, rv, p.isList⟩
theorem sqB_inj (I : Inv X pins σ H s) (h : SqB X.K b H a xs) (h2 : SqB X.K b H a ys) : xs = ys := by
  cases b
  · exact I.tuple_inj h h2
  · exact I.list_inj h h2
theorem IsB.lt {h : Heap} {its : Array Value} (p : IsB b h a its) : a < h.objs.size := by
  cases b
  · obtain ⟨o, e, _⟩ := p
    exact Heap.lt_size e
  · obtain ⟨o, e, _⟩ := p
    exact Heap.lt_size e
end
/-! ### enumerate -/

set_option maxHeartbeats 1000000 in
theorem enum_meets1 {v : Value} {ob : Obj} {St : Heap → Prop} (B : Begins v ob St) : Meets (Builtin.«enumerate.__new__» ⟨[.type "enumerate", v], []⟩) (fun _ R s => St s.heap ∧
    R (.ok (.ret (.ref (s.heap.push ob).objs.size))) { s with heap := (s.heap.push ob).push { cls := .type "enumerate", data := .fields #[.none, .bool false, .ref s.heap.objs.size, rawInt 0, .none, .none] } }) := by
  apply Meets.of_wp
  rintro P w A R ⟨hp, gs, dr, tk, os⟩ ⟨st, fin⟩
  have sub1 := sub_enumerate
  have it1 : ∀ {A' : Around} {E : Value → Shared → Prop} {Q : Value → Shared → Prop}, Q (.ref hp.objs.size) ⟨hp.push ob, gs, dr, tk, os⟩ → wpAny (model P w) A' (pyIter v) Q E ⟨hp, gs, dr, tk, os⟩ := fun q => B.iter P w _ _ _ _ st q
  wp_walk using it1
  refine wpAny_stack_any fun stk => wpAny_pure ?_
  split
  · rename_i c _ _ _ _ _
    cases (c == Value.type "enumerate") <;> (wp_walk using it1; exact ⟨_, rfl, fin⟩)
  · wp_walk using it1
    exact ⟨_, rfl, fin⟩
theorem enum_one {P : Program} {w : World} {A : Around} {E : Value → Shared → Prop} {s : Shared} {v : Value} {ob : Obj} {St : Heap → Prop} {Q : Value → Shared → Prop} (B : Begins v ob St) (h1 : St s.heap)
    (h : ∀ h', IsEnum h' (s.heap.objs.size + 1) s.heap.objs.size 0 .none → h'.get? s.heap.objs.size = some ob → h'.objs.size = s.heap.objs.size + 2 → (∀ c o, s.heap.get? c = some o → h'.get? c = some o) → Q (.ref (s.heap.objs.size + 1)) { s with heap := h' }) :
    wpAny (model P w) A (call (.type "enumerate") [v]) Q E s := by
  refine callType_new F.called_enumerate (by decide) (F.typeCall_enumerate_1 _) (F.newCall_enumerate_1 _) (fun obj => F.args_object_init_2 obj _) F.entry_enumerate_new (enum_meets1 B) ⟨h1, ?_⟩
  have sz : (s.heap.push ob).objs.size = s.heap.objs.size + 1 := Heap.size_push ..
  have gE := Heap.get?_push_size (s.heap.push ob) (o := { cls := .type "enumerate", data := .fields #[.none, .bool false, .ref s.heap.objs.size, rawInt 0, .none, .none] }) rfl
  show _ ∧ _
  rw [sz] at gE ⊢
  exact ⟨⟨_, gE, rfl⟩, h _ gE (Heap.get?_push_of_some _ (Heap.get?_push_size _ B.free)) (by rw [Heap.size_push, sz]) fun c o e => Heap.get?_push_of_some _ (Heap.get?_push_of_some _ e)⟩
def ItE (K : PySem.W.Frag) (b : Bool) (a : Addr) : It :=
  ⟨fun i H => ∃ (xs : List V) (x : V), SqB K b H a xs ∧ xs[i]? = some x,
   fun i H v H' => ∃ T x, v = .ref T ∧ H T = none ∧ H' = upd H T (.tup [.int (i : Nat), x]) ∧ ∀ xs, SqB K b H a xs → xs[i]? = some x,
   fun i H => ∃ xs : List V, SqB K b H a xs ∧ xs.length = i⟩
theorem turn_E {P : Program} {w : World} {K : PySem.W.Frag} {elts : List Expr} {kk : Nat} {tpos : Pos} (b : Bool) (a e it : Addr) :
    Turn P w K (.Tuple elts kk tpos) (ItE K b a) [e, it] e (fun i h => (∃ old, IsEnum h e it ((i : Nat) : Int) old) ∧ ItB b h it a i ∧ e ≠ it ∧ a ≠ it ∧ e ≠ a) where
  mem := by simp
  obj := by
    rintro i h ⟨⟨old, he⟩, hi, _⟩ c hc
    rcases List.mem_cons.mp hc with rfl | hc
    · exact ⟨_, he, fun v q => nomatch q⟩
    · rw [List.mem_singleton.mp hc]
      exact hi.obj
  keep := by
    rintro i h h' ⟨⟨old, he⟩, hi, r⟩ k
    exact ⟨⟨old, k e (by simp) _ he⟩, hi.at fun o q => k it (by simp) o q, r⟩
  item := by
    intro X hP hw hK hc i pins s σ H E I hf st hg
    subst hP hw hK
    obtain ⟨⟨old, he⟩, hit, hne, hai, hea⟩ := st
    obtain ⟨xs, x, hq, hx⟩ := hg
    obtain ⟨its, rv, p⟩ := inv_sqB I hq
    obtain ⟨u, hu, ru⟩ := rv.get hx
    have hil : i < its.toArray.size := by
      have := (List.getElem?_eq_some_iff.mp hu).1
      simpa using this
    have lte : e < s.heap.objs.size := Heap.lt_size he
    have lti : it < s.heap.objs.size := by
      obtain ⟨o, q, _⟩ := hit.obj
      exact Heap.lt_size q
    have D := drawsB (prog := X.prog) (w := X.w) (A := X.A.in1) (I.ok.hd hc) b it a hai its.toArray
    refine wpAny_pyNext_enum_itemC D he ⟨hit, p⟩ hil hne (by simp [hne, hea]) fun y h' tk hy ho st' hT hsz hk => ?_
    have hyu : y = u := by
      have h2 : its[i]? = some y := by simpa using hy
      rw [hu] at h2
      exact (Option.some.inj h2).symm
    subst hyu
    refine ⟨_, rfl, wpAny_letOwnedTupleGo_enum (s := { s with heap := h', toks := tk + 1 }) ho fun h2 he2 sb => ?_⟩
    have hT2 : h2.get? s.heap.objs.size = some { cls := .type "tuple", data := .seq #[.int i tk, y] } := (sb.2 _ (Nat.ne_of_gt lte)).trans hT
    have ok : ObjOk X.prog X.w (upd H s.heap.objs.size (.tup [.int (i : Nat), x])) h2 s.heap.objs.size (.tup [.int (i : Nat), x]) :=
      ⟨(by decide : (2 : Nat) ≤ sizeLine), [.int i tk, y], .cons ⟨tk, rfl⟩ (.cons ru .nil), _, hT2, rfl, _, rfl⟩
    have I1 : Inv X pins σ (upd H s.heap.objs.size (.tup [.int (i : Nat), x])) { s with heap := h2, toks := tk + 1 } := by
      refine I.turnedNew (ch := [e, it]) (fun c ob hc q => ?_) hf (Nat.le_refl _) ok
      have c1 : c ≠ e := fun z => hc (by simp [z])
      have c2 : c ≠ it := fun z => hc (by simp [z])
      exact (sb.2 c c1).trans (hk c ob c1 c2 q)
    refine ⟨.ref s.heap.objs.size, _, I1, rfl, ⟨_, x, rfl, I.hok.fresh (Nat.le_refl _), rfl, fun zs hz => by rw [sqB_inj I hz hq]; exact hx⟩, ⟨⟨y, ?_⟩, st'.1.at fun o q => (sb.2 it (Ne.symm hne)).trans q, hne, hai, hea⟩, fun c hc => ?_⟩
    · have : ((i + 1 : Nat) : Int) = (i : Int) + 1 := by omega
      rw [this]
      exact he2
    · have lt : c < s.heap.objs.size := by
        rcases List.mem_cons.mp hc with rfl | hc
        · exact lte
        · rw [List.mem_singleton.mp hc]
          exact lti
      rw [upd_ne (Nat.ne_of_lt lt)]
      exact (hf c hc).1
  done := by
    intro X hP hw hK hc i pins s σ H E I hf st hg
    subst hP hw hK
    obtain ⟨⟨old, he⟩, hit, hne, hai, hea⟩ := st
    obtain ⟨xs, hq, hx⟩ := hg
    obtain ⟨its, rv, p⟩ := inv_sqB I hq
    have D := drawsB (prog := X.prog) (w := X.w) (A := X.A.in1) (I.ok.hd hc) b it a hai its.toArray
    have hl : i = its.toArray.size := by
      have := rv.length
      simp
      omega
    subst hl
    obtain ⟨f0, f1, f2, f3, f4, f5⟩ := hf it (by simp)
    exact wpAny_pyNext_enum_endD D he ⟨hit, p⟩ fun h' eb => ⟨rfl, I.turned (t' := s.toks) (fun c o hb q => eb c o hb q) f0 f1 f3 f4 f5⟩
  self := by
    rintro A i s Q E ⟨⟨_, he⟩, _⟩ h
    exact wpAny_pyIter_enum he h
def tEn (K : PySem.W.Frag) (ta : TA) : TI := fun σ H R => ta σ H fun vs H1 => ∃ b a xs, vs = [.ref a] ∧ SqB K b H1 a xs ∧ R (ItE K b a) H1
theorem pi_E {X : Cx} {e : Expr} {ta : TA} {p pos tpos : Pos} {elts : List Expr} {kk : Nat} (hg : Gl X "enumerate") (hm : X.mg "enumerate" = none) (ha : PA X [e] ta) (hs : starEach [e] X.env = [(false, eval e X.env)] := by rfl) :
    PI X (.Tuple elts kk tpos) (.Call (.Name "enumerate" p) [e] [] pos) (tEn X.K ta) := by
  refine ⟨fun pins s σ H R I h => ?_⟩
  refine Call_ (ld_blt I hg hm boot_enumerate (PyProof.Rows.callWith_type1 (thn (ha.run pos pins s σ H _ I h) fun us s1 ⟨vs, H1, I1, r1, q1⟩ => ?_) hs rfl))
  obtain ⟨b, a, xs, rfl, hq, q⟩ := q1
  obtain ⟨u, rfl, ru⟩ := vals1 r1
  cases ru
  obtain ⟨its, rv, p'⟩ := inv_sqB I1 hq
  have la := p'.lt
  refine enum_one (beginsB b a its.toArray) p' fun h' he hit hsz hk => wpAny_pyIter_enum he ?_
  have I2 : Inv X pins σ H1 { s1 with heap := h' } := I1.kept (t' := s1.toks) hk
  refine ⟨s1.heap.objs.size + 1, [s1.heap.objs.size + 1, s1.heap.objs.size], _, _, H1, rfl, I2, turn_E b a (s1.heap.objs.size + 1) s1.heap.objs.size, ⟨⟨.none, he⟩, ItB.new hit, Nat.succ_ne_self _, Nat.ne_of_lt la, Nat.ne_of_gt (Nat.lt_succ_of_lt la)⟩, fun c hc => ?_, q⟩
  have le : s1.heap.objs.size ≤ c := by
    rcases List.mem_cons.mp hc with rfl | hc
    · exact Nat.le_succ _
    · rw [List.mem_singleton.mp hc]
      exact Nat.le_refl _
  exact I1.fpOk le (I1.hok.fresh le)

/-! ### zip of two -/
def ItZ (K : PySem.W.Frag) (b c : Bool) (a d : Addr) : It :=
  ⟨fun i H => ∃ (xs ys : List V) (x y : V), SqB K b H a xs ∧ SqB K c H d ys ∧ xs[i]? = some x ∧ ys[i]? = some y,
   fun i H v H' => ∃ T x y, v = .ref T ∧ H T = none ∧ H' = upd H T (.tup [x, y]) ∧ (∀ xs, SqB K b H a xs → xs[i]? = some x) ∧ ∀ ys, SqB K c H d ys → ys[i]? = some y,
   fun i H => ∃ xs ys : List V, SqB K b H a xs ∧ SqB K c H d ys ∧ i = min xs.length ys.length⟩
theorem turn_Z {P : Program} {w : World} {K : PySem.W.Frag} {elts : List Expr} {kk : Nat} {tpos : Pos} (b c : Bool) (a d z TI TO i1 i2 : Addr) (S : ZipSep2 z TI TO i1 i2 [i1, a] [i2, d]) (a1 : a ≠ i1) (a2 : d ≠ i2) :
    Turn P w K (.Tuple elts kk tpos) (ItZ K b c a d) [z, TI, TO, i1, i2] z (fun i h => IsZip h z TI TO .none ∧ IsTupOf2 h TI (.ref i1) (.ref i2) ∧ (∃ x y, IsTupOf2 h TO x y) ∧ ItB b h i1 a i ∧ ItB c h i2 d i) where
  mem := by simp
  obj := by
    rintro i h ⟨hz, hTI, ⟨x, y, hTO⟩, h1, h2⟩ q hq
    simp only [List.mem_cons, List.not_mem_nil, or_false] at hq
    rcases hq with rfl | rfl | rfl | rfl | rfl
    · exact ⟨_, hz, fun v q => nomatch q⟩
    · exact ⟨_, hTI, fun v q => nomatch q⟩
    · exact ⟨_, hTO, fun v q => nomatch q⟩
    · exact h1.obj
    · exact h2.obj
  keep := by
    rintro i h h' ⟨hz, hTI, ⟨x, y, hTO⟩, h1, h2⟩ k
    exact ⟨k z (by simp) _ hz, k TI (by simp) _ hTI, ⟨x, y, k TO (by simp) _ hTO⟩, h1.at fun o q => k i1 (by simp) o q, h2.at fun o q => k i2 (by simp) o q⟩
  item := by
    intro X hP hw hK hc i pins s σ H E I hf st hg
    subst hP hw hK
    obtain ⟨hz, hTI, ⟨x0, y0, hTO⟩, h1, h2⟩ := st
    obtain ⟨xs, ys, x, y, hqx, hqy, hx, hy⟩ := hg
    obtain ⟨its, rv, p⟩ := inv_sqB I hqx
    obtain ⟨jts, rv2, p2⟩ := inv_sqB I hqy
    obtain ⟨u, hu, ru⟩ := rv.get hx
    obtain ⟨u2, hu2, ru2⟩ := rv2.get hy
    have l1 : i < its.toArray.size := by simpa using (List.getElem?_eq_some_iff.mp hu).1
    have l2 : i < jts.toArray.size := by simpa using (List.getElem?_eq_some_iff.mp hu2).1
    have D1 := drawsB (prog := X.prog) (w := X.w) (A := X.A.in1) (I.ok.hd hc) b i1 a a1 its.toArray
    have D2 := drawsB (prog := X.prog) (w := X.w) (A := X.A.in1) (I.ok.hd hc) c i2 d a2 jts.toArray
    have zl : z < s.heap.objs.size := Heap.lt_size hz
    refine wpAny_pyNext_zipD2_item S D1 D2 hz hTI hTO ⟨h1, p⟩ ⟨h2, p2⟩ l1 l2 fun v1 v2 h' tk g1 g2 z' TO' st1 st2 hT hsz hk => ?_
    have e1 : v1 = u := by
      have q : its[i]? = some v1 := by simpa using g1
      rw [hu] at q
      exact (Option.some.inj q).symm
    have e2 : v2 = u2 := by
      have q : jts[i]? = some v2 := by simpa using g2
      rw [hu2] at q
      exact (Option.some.inj q).symm
    subst e1 e2
    refine ⟨_, rfl, wpAny_letOwnedTupleGo_zip (s := { s with heap := h', toks := tk }) z' fun h3 z3 sb => ?_⟩
    have hT3 : h3.get? s.heap.objs.size = some { cls := .type "tuple", data := .seq #[v1, v2] } := (sb.2 _ (Nat.ne_of_gt zl)).trans hT
    have ok : ObjOk X.prog X.w (upd H s.heap.objs.size (.tup [x, y])) h3 s.heap.objs.size (.tup [x, y]) := ⟨(by decide : (2 : Nat) ≤ sizeLine), [v1, v2], .cons ru (.cons ru2 .nil), _, hT3, rfl, _, rfl⟩
    have I1 : Inv X pins σ (upd H s.heap.objs.size (.tup [x, y])) { s with heap := h3, toks := tk } := by
      refine I.turnedNew (ch := [z, TI, TO, i1, i2]) (fun q o hq g => ?_) hf (Nat.le_refl _) ok
      simp only [List.mem_cons, List.not_mem_nil, or_false, not_or] at hq
      exact (sb.2 q hq.1).trans (hk q o hq.1 hq.2.2.1 hq.2.2.2.1 hq.2.2.2.2 g)
    refine ⟨.ref s.heap.objs.size, _, I1, rfl, ⟨_, x, y, rfl, I.hok.fresh (Nat.le_refl _), rfl, fun zs hzs => by rw [sqB_inj I hzs hqx]; exact hx, fun zs hzs => by rw [sqB_inj I hzs hqy]; exact hy⟩, ⟨z3, ?_, ⟨v1, v2, ?_⟩, ?_, ?_⟩, fun q hq => ?_⟩
    · exact (sb.2 _ S.TIz).trans (hk _ _ S.TIz S.TITO S.TIi1 S.TIi2 hTI)
    · exact (sb.2 _ S.TOz).trans TO'
    · exact st1.1.at fun o g => (sb.2 _ (Ne.symm S.zi1)).trans g
    · exact st2.1.at fun o g => (sb.2 _ (Ne.symm S.zi2)).trans g
    · have lt : q < s.heap.objs.size := by
        simp only [List.mem_cons, List.not_mem_nil, or_false] at hq
        rcases hq with rfl | rfl | rfl | rfl | rfl
        · exact zl
        · exact Heap.lt_size hTI
        · exact Heap.lt_size hTO
        · obtain ⟨_, e, _⟩ := h1.obj
          exact Heap.lt_size e
        · obtain ⟨_, e, _⟩ := h2.obj
          exact Heap.lt_size e
      rw [upd_ne (Nat.ne_of_lt lt)]
      exact (hf q hq).1
  done := by
    intro X hP hw hK hc i pins s σ H E I hf st hg
    subst hP hw hK
    obtain ⟨hz, hTI, ⟨x0, y0, hTO⟩, h1, h2⟩ := st
    obtain ⟨xs, ys, hqx, hqy, he⟩ := hg
    obtain ⟨its, rv, p⟩ := inv_sqB I hqx
    obtain ⟨jts, rv2, p2⟩ := inv_sqB I hqy
    have n1 := rv.length
    have n2 := rv2.length
    have D1 := drawsB (prog := X.prog) (w := X.w) (A := X.A.in1) (I.ok.hd hc) b i1 a a1 its.toArray
    have D2 := drawsB (prog := X.prog) (w := X.w) (A := X.A.in1) (I.ok.hd hc) c i2 d a2 jts.toArray
    refine wpAny_pyNext_zipD2_end S D1 D2 hz hTI hTO ⟨h1, p⟩ ⟨h2, p2⟩ (by simp; omega) (by simp; omega) (by simp; omega) fun h' tk hk => ⟨rfl, I.turnedL (t' := tk) (ch := [z, TI, TO, i1, i2]) (fun q o hq g => ?_) hf⟩
    simp only [List.mem_cons, List.not_mem_nil, or_false, not_or] at hq
    exact hk q o hq.1 hq.2.2.1 hq.2.2.2.1 hq.2.2.2.2 g
  self := by
    rintro A i s Q E ⟨hz, _⟩ h
    exact wpAny_pyIter_zip hz h
def tZp (K : PySem.W.Frag) (ta : TA) : TI := fun σ H R => ta σ H fun vs H1 => ∃ b c a d xs ys, vs = [.ref a, .ref d] ∧ SqB K b H1 a xs ∧ SqB K c H1 d ys ∧ R (ItZ K b c a d) H1
theorem pi_Z {X : Cx} {e e2 : Expr} {ta : TA} {p pos tpos : Pos} {elts : List Expr} {kk : Nat} (hg : Gl X "zip") (hm : X.mg "zip" = none) (ha : PA X [e, e2] ta)
    (hs : starEach [e, e2] X.env = (false, eval e X.env) :: starEach [e2] X.env := by rfl) (hpl : (backTo pos (starEach [e2] X.env)).any (·.1) = false := by rfl) :
    PI X (.Tuple elts kk tpos) (.Call (.Name "zip" p) [e, e2] [] pos) (tZp X.K ta) := by
  refine ⟨fun pins s σ H R I h => ?_⟩
  refine Call_ (ld_blt I hg hm PyProof.Rows.boot_zip (PyProof.Rows.callWith_type1 (thn (ha.run pos pins s σ H _ I h) fun us s1 ⟨vs, H1, I1, r1, q1⟩ => ?_) hs hpl))
  obtain ⟨b, c, a, d, xs, ys, rfl, hqx, hqy, q⟩ := q1
  obtain ⟨u, u2, rfl, ru, ru2⟩ := vals2 r1
  cases ru
  cases ru2
  obtain ⟨its, rv, p1⟩ := inv_sqB I1 hqx
  obtain ⟨jts, rv2, p2⟩ := inv_sqB I1 hqy
  have S := zip_sep2 (N := s1.heap.objs.size) (fp1 := [a]) (fp2 := [d]) (by simpa using p1.lt) (by simpa using p2.lt)
  refine zip_begins2 (beginsB b a its.toArray) (beginsB c d jts.toArray) p1 p2 fun h' hz hTI hTO g1 g2 hsz hk => wpAny_pyIter_zip hz ?_
  have I2 : Inv X pins σ H1 { s1 with heap := h' } := I1.kept (t' := s1.toks) hk
  refine ⟨s1.heap.objs.size + 4, [s1.heap.objs.size + 4, s1.heap.objs.size + 2, s1.heap.objs.size + 3, s1.heap.objs.size, s1.heap.objs.size + 1], _, _, H1, rfl, I2, turn_Z b c a d _ _ _ _ _ S (Nat.ne_of_lt p1.lt) (Nat.ne_of_lt (Nat.lt_succ_of_lt p2.lt)), ⟨hz, hTI, ⟨_, _, hTO⟩, ItB.new g1, ItB.new g2⟩, fun k hk => ?_, q⟩
  have le : s1.heap.objs.size ≤ k := by
    simp only [List.mem_cons, List.not_mem_nil, or_false] at hk
    rcases hk with rfl | rfl | rfl | rfl | rfl <;> first | exact Nat.le_refl _ | exact Nat.le_add_right _ _
  exact I1.fpOk le (I1.hok.fresh le)

/-! ### by value -/
def srcA (μ : Store) : D → Option Src
  | .pd (.tuple ds) => some (ds.map .pd, [])
  | d => srcL μ d
def iEn (ea : EvE) : EvI := fun env μ => (ea env μ).bind fun p => match srcA p.2 p.1 with
  | some s => match pdAll s.1 with
    | some ps => .ok ((ps.mapIdx fun i d => .pd (.tuple [.int (i : Nat), d]), s.2), p.2)
    | none => .stuck
  | none => .stuck
def iZp (ea eb : EvE) : EvI := fun env μ => (ea env μ).bind fun p => (eb env p.2).bind fun q => match srcA q.2 p.1, srcA q.2 q.1 with
  | some s, some t => match pdAll s.1, pdAll t.1 with
    | some ps, some qs => .ok ((List.zipWith (fun d e => .pd (.tuple [d, e])) ps qs, s.2 ++ t.2), q.2)
    | _, _ => .stuck
  | _, _ => .stuck
def AsSeq (K : PySem.W.Frag) (I0 : Hp) (ad0 : List Addr) (b : Bool) (a : Addr) (p : Src) : Prop := ∀ (H : Hp) (ad xs : List Addr) (μ : Store), Same I0 (Im H ad xs) → (∃ nw, ad = ad0 ++ nw) → WOk K H ad xs μ → Held p.2 μ → ∃ vs, SqB K b H a vs ∧ RepAll K H ad xs p.1 vs
theorem srcA_as {K : PySem.W.Frag} {H : Hp} {ad xs : List Addr} {μ : Store} {d : D} {v : V} {p : Src} (w : WOk K H ad xs μ) (r : Rep K H ad xs d v) (e : srcA μ d = some p) : ∃ b a, v = .ref a ∧ AsSeq K (Im H ad xs) ad b a p ∧ Held p.2 μ := by
  have other : srcL μ d = some p → ∃ b a, v = .ref a ∧ AsSeq K (Im H ad xs) ad b a p ∧ Held p.2 μ := fun e => by
    obtain ⟨a, h1, h2, h3⟩ := srcL_as w r e
    exact ⟨true, a, h1, fun H' ad' xs' μ' s n w' hh => by
      obtain ⟨vs, k1, k2⟩ := h2 H' ad' xs' μ' s n w' hh
      exact ⟨vs, SqL.of k1, k2⟩, h3⟩
  cases d with
  | pd d =>
    cases d with
    | tuple ds =>
      cases e
      cases r with
      | tup h l =>
        rename_i a vs
        exact ⟨false, a, rfl, fun H' ad' xs' μ' s _ w' _ => ⟨vs, SqT.grow Im_le (SqT.grow s h), repAll_pd (LyAll.grow s l)⟩, fun q hq => by simp at hq⟩
    | _ => exact other e
  | _ => exact other e
theorem srcA_later {K : PySem.W.Frag} {I0 I1 : Hp} {ad0 ad1 : List Addr} {b : Bool} {a : Addr} {p : Src} (h : AsSeq K I0 ad0 b a p) (s : Same I0 I1) (n : ∃ nw, ad1 = ad0 ++ nw) : AsSeq K I1 ad1 b a p := fun H ad xs μ s' n' w hh =>
  h H ad xs μ (fun c o e => s' c o (s c o e)) (by
    obtain ⟨n1, rfl⟩ := n
    obtain ⟨n2, rfl⟩ := n'
    exact ⟨n1 ++ n2, by rw [List.append_assoc]⟩) w hh
theorem held_app {g g' : List (Nat × Cell)} {μ : Store} : Held (g ++ g') μ ↔ Held g μ ∧ Held g' μ :=
  ⟨fun h => ⟨fun q hq => h q (List.mem_append_left _ hq), fun q hq => h q (List.mem_append_right _ hq)⟩, fun h q hq => (List.mem_append.mp hq).elim (h.1 q) (h.2 q)⟩
theorem pdAll_map : ∀ {ds : List D} {ps : List PyData}, pdAll ds = some ps → ds = ps.map .pd
  | [], _, e => by cases e; rfl
  | .pd d :: r, ps, e => by
    simp only [pdAll_cons, Option.map_eq_some_iff] at e
    obtain ⟨qs, e1, rfl⟩ := e
    rw [pdAll_map e1]
    rfl
  | .ref _ :: _, _, e => by cases e
  | .scr _ :: _, _, e => by cases e
theorem ly_of_repAll {K : PySem.W.Frag} {H : Hp} {ad xs : List Addr} : ∀ {ps : List PyData} {vs : List V}, RepAll K H ad xs (ps.map .pd) vs → LyAll K (Im H ad xs) vs ps
  | [], _, .nil => .nil
  | _ :: _, _, .cons h t => .cons h (ly_of_repAll t)
theorem walk_E {K : PySem.W.Frag} {I0 : Hp} {ad0 : List Addr} {b : Bool} {a : Addr} {ps : List PyData} {g : List (Nat × Cell)} (h : AsSeq K I0 ad0 b a (ps.map .pd, g)) : Walk K I0 ad0 (ItE K b a) (ps.mapIdx fun i d => .pd (.tuple [.int (i : Nat), d]), g) := fun i H ad xs μ s n w hh => by
  obtain ⟨vs, k1, k2⟩ := h H ad xs μ s n w hh
  have l := ly_of_repAll k2
  have hl := LyAll.length l
  refine ⟨fun hi => ⟨vs, k1, by simp at hi; omega⟩, fun d hd => ?_⟩
  rw [List.getElem?_mapIdx, Option.map_eq_some_iff] at hd
  obtain ⟨d0, hd0, rfl⟩ := hd
  obtain ⟨v, e1, e2⟩ := LyAll.get l hd0
  refine ⟨⟨vs, v, k1, e1⟩, fun x H' y => ?_⟩
  obtain ⟨T, x0, rfl, hT, rfl, hx⟩ := y
  have ex := hx vs k1
  rw [e1] at ex
  cases ex
  obtain ⟨w2, e2', i2⟩ := w.new (o := .tup [.int (i : Nat), v]) hT
  exact ⟨e2', w2, .tup (SqT.of i2) (LyAll.grow e2'.same (.cons (.int _) (.cons e2 .nil)))⟩
theorem walk_Z {K : PySem.W.Frag} {I0 : Hp} {ad0 : List Addr} {b c : Bool} {a d : Addr} {ps qs : List PyData} {g g' : List (Nat × Cell)} (h : AsSeq K I0 ad0 b a (ps.map .pd, g)) (h' : AsSeq K I0 ad0 c d (qs.map .pd, g')) :
    Walk K I0 ad0 (ItZ K b c a d) (List.zipWith (fun d e => .pd (.tuple [d, e])) ps qs, g ++ g') := fun i H ad xs μ s n w hh => by
  obtain ⟨hh1, hh2⟩ := held_app.mp hh
  obtain ⟨vs, k1, k2⟩ := h H ad xs μ s n w hh1
  obtain ⟨us, m1, m2⟩ := h' H ad xs μ s n w hh2
  have l := ly_of_repAll k2
  have l2 := ly_of_repAll m2
  have n1 := LyAll.length l
  have n2 := LyAll.length l2
  refine ⟨fun hi => ⟨vs, us, k1, m1, by simp at hi; omega⟩, fun q hd => ?_⟩
  rw [List.getElem?_zipWith] at hd
  split at hd
  · rename_i p0 q0 hp0 hq0
    cases hd
    obtain ⟨v, e1, e2⟩ := LyAll.get l hp0
    obtain ⟨u, f1, f2⟩ := LyAll.get l2 hq0
    refine ⟨⟨vs, us, v, u, k1, m1, e1, f1⟩, fun x H' y => ?_⟩
    obtain ⟨T, x0, y0, rfl, hT, rfl, hx, hy⟩ := y
    have ex := hx vs k1
    have ey := hy us m1
    rw [e1] at ex
    rw [f1] at ey
    cases ex
    cases ey
    obtain ⟨w2, e2', i2⟩ := w.new (o := .tup [v, u]) hT
    exact ⟨e2', w2, .tup (SqT.of i2) (LyAll.grow e2'.same (.cons e2 (.cons f2 .nil)))⟩
  · cases hd
section
variable {X : Cx} {W : Wish} {a b : Expr} {ea eb : EvE} {p pos tpos : Pos} {elts : List Expr} {kk : Nat}
theorem si_en (hg : Gl X "enumerate") (hm : X.mg "enumerate" = none) (ha : SE X W a ea) (hs : starEach [a] X.env = [(false, eval a X.env)] := by rfl) : SI X W (.Tuple elts kk tpos) (.Call (.Name "enumerate" p) [a] [] pos) (iEn ea) :=
  pi_imp (pi_E hg hm (pa_cons ha pa_nil hs) hs) fun σ H R h => by
    obtain ⟨ad, xs, env, μ, sr, w, p⟩ := h
    refine ⟨ad, xs, env, μ, sr, w, p.bind.mono fun d H1 ad1 μ1 e1 w1 q v r => ?_⟩
    dsimp only at q
    cases hs : srcA μ1 d with
    | none => rw [hs] at q; exact q.elim
    | some s =>
      rw [hs] at q
      obtain ⟨items, g⟩ := s
      dsimp only at q
      cases hp : pdAll items with
      | none => rw [hp] at q; exact q.elim
      | some ps =>
        rw [hp] at q
        obtain ⟨b, a, rfl, h1, h2⟩ := srcA_as w1 r hs
        have ei := pdAll_map hp
        subst ei
        obtain ⟨vs, k1, k2⟩ := h1 H1 ad1 xs μ1 (fun _ _ h => h) ⟨[], by simp⟩ w1 h2
        exact ⟨b, a, vs, rfl, k1, q.ok w1 _ (walk_E h1)⟩
theorem si_zp (hg : Gl X "zip") (hm : X.mg "zip" = none) (ha : SE X W a ea) (hb : SE X W b eb) (hs : starEach [a, b] X.env = (false, eval a X.env) :: starEach [b] X.env := by rfl) (hs2 : starEach [b] X.env = [(false, eval b X.env)] := by rfl) (hpl : (backTo pos (starEach [b] X.env)).any (·.1) = false := by rfl) :
    SI X W (.Tuple elts kk tpos) (.Call (.Name "zip" p) [a, b] [] pos) (iZp ea eb) :=
  pi_imp (pi_Z hg hm (pa_cons ha (pa_cons hb pa_nil hs2) hs) hs hpl) fun σ H R h => by
    obtain ⟨ad, xs, env, μ, sr, w, p⟩ := h
    refine ⟨ad, xs, env, μ, sr, w, p.bind.mono fun d H1 ad1 μ1 e1 w1 q v r => ?_⟩
    refine ⟨ad1, xs, env, μ1, sr.ext e1, w1, q.bind.mono fun d2 H2 ad2 μ2 e2 w2 q2 v2 r2 => ?_⟩
    dsimp only at q2
    cases hs : srcA μ2 d with
    | none => rw [hs] at q2; exact q2.elim
    | some s =>
      cases ht : srcA μ2 d2 with
      | none => rw [hs, ht] at q2; exact q2.elim
      | some t =>
        rw [hs, ht] at q2
        obtain ⟨items, g⟩ := s
        obtain ⟨items2, g2⟩ := t
        dsimp only at q2
        cases hp : pdAll items with
        | none => rw [hp] at q2; exact q2.elim
        | some ps =>
          cases hp2 : pdAll items2 with
          | none => rw [hp, hp2] at q2; exact q2.elim
          | some qs =>
            rw [hp, hp2] at q2
            obtain ⟨b, a, rfl, h1, h2⟩ := srcA_as w2 (r.ext e2) hs
            obtain ⟨c, a', rfl, h3, h4⟩ := srcA_as w2 r2 ht
            have ei := pdAll_map hp
            have ei2 := pdAll_map hp2
            subst ei ei2
            obtain ⟨vs, k1, k2⟩ := h1 H2 ad2 xs μ2 (fun _ _ h => h) ⟨[], by simp⟩ w2 h2
            obtain ⟨us, m1, m2⟩ := h3 H2 ad2 xs μ2 (fun _ _ h => h) ⟨[], by simp⟩ w2 h4
            exact ⟨b, c, a, a', vs, us, rfl, k1, m1, q2.ok w2 _ (walk_Z h1 h3)⟩
end
end Zd

set_option Elab.async false
set_option linter.all false
set_option maxRecDepth 100000
set_option maxHeartbeats 4000000
/-! range with step -1, dicts, lists of lists: read by value. -/
namespace Zd
open PySem PySem.Spec PyProof.Rows L2

/-! ### range(i, j, -1) -/
def iRgD (ea eb : EvE) : EvI := fun env μ => (ea env μ).bind fun p => (eb env p.2).bind fun q => match asI p.1, asI q.1 with
  | some m, some n => if -(2 ^ 62) ≤ m ∧ m < 2 ^ 62 ∧ -(2 ^ 62) ≤ n ∧ n < 2 ^ 62 then .ok (((List.range (m - n).toNat).map fun (k : Nat) => .pd (.int (m - (k : Int))), []), q.2) else .stuck
  | _, _ => .stuck
theorem walk_rgD {K : PySem.W.Frag} {I0 : Hp} {ad0 : List Addr} {m : Int} {n : Nat} : Walk K I0 ad0 (Itc m (-1) n) ((List.range n).map fun (k : Nat) => .pd (.int (m - (k : Int))), []) := fun i H ad xs μ s nn w hh => by
  refine ⟨fun hi => by have h2 : n = i := (by simpa using hi); simp [Itc]; omega, fun d hd => ?_⟩
  simp only [List.getElem?_map, Option.map_eq_some_iff] at hd
  obtain ⟨k, hk, rfl⟩ := hd
  obtain ⟨hk1, hk2⟩ := List.getElem?_eq_some_iff.mp hk
  simp at hk1 hk2
  subst hk2
  refine ⟨hk1, fun x H' y => ?_⟩
  obtain ⟨rfl, rfl⟩ := y
  refine ⟨Ext.refl, w, ?_⟩
  have e : m + (i : Int) * (-1) = m - (i : Int) := by omega
  rw [e]
  exact Ly.int _
section
variable {X : Cx} {W : Wish} {a b c : Expr} {ea eb : EvE} {p pos pc pu : Pos} {tg : Expr} {j : Nat}
theorem si_rgD (hg : Gl X "range") (hm : X.mg "range" = none) (ha : SE X W a ea) (hb : SE X W b eb) (hs : starEach [a, b, .UnaryOp .USub (.Constant (.int 1) j pc) pu] X.env = (false, eval a X.env) :: starEach [b, .UnaryOp .USub (.Constant (.int 1) j pc) pu] X.env := by rfl)
    (hs2 : starEach [b, .UnaryOp .USub (.Constant (.int 1) j pc) pu] X.env = (false, eval b X.env) :: starEach [.UnaryOp .USub (.Constant (.int 1) j pc) pu] X.env := by rfl) (hpl : (backTo pos (starEach [b, .UnaryOp .USub (.Constant (.int 1) j pc) pu] X.env)).any (·.1) = false := by rfl) :
    SI X W tg (.Call (.Name "range" p) [a, b, .UnaryOp .USub (.Constant (.int 1) j pc) pu] [] pos) (iRgD ea eb) :=
  pi_imp (pi_range3 hg hm (pa_cons ha (pa_cons hb (pa_cons (pe_un un_neg pe_int) pa_nil rfl) hs2) hs) hs hpl) fun σ H R h => by
    obtain ⟨ad, xs, env, μ, sr, w, p⟩ := h
    refine ⟨ad, xs, env, μ, sr, w, p.bind.mono fun d H1 ad1 μ1 e1 w1 q v r => ?_⟩
    refine ⟨ad1, xs, env, μ1, sr.ext e1, w1, q.bind.mono fun d2 H2 ad2 μ2 e2 w2 q2 v2 r2 => ?_⟩
    dsimp only at q2
    cases hi : asI d with
    | none => rw [hi] at q2; exact q2.elim
    | some m =>
      cases hj : asI d2 with
      | none => rw [hi, hj] at q2; exact q2.elim
      | some n =>
        rw [hi, hj] at q2
        dsimp only at q2
        by_cases hz : -(2 ^ 62) ≤ m ∧ m < 2 ^ 62 ∧ -(2 ^ 62) ≤ n ∧ n < 2 ^ 62
        · rw [if_pos hz] at q2
          refine ⟨1, rfl, m, n, -1, (m - n).toNat, ?_, RgC.neg hz.1 hz.2.1 hz.2.2.1 hz.2.2.2, q2.ok w2 _ walk_rgD⟩
          rw [asI_rep hi r, asI_rep hj r2]
        · rw [if_neg hz] at q2
          exact q2.elim
end

/-! ### tables -/
section
variable {κ : Type} [DecidableEq κ] {K : PySem.W.Frag} {H : Hp}
def lk (kvs : List (κ × PyData)) (k : κ) : Option PyData := match kvs with
  | [] => none
  | p :: r => if p.1 = k then some p.2 else lk r k
def ptR (kvs : List (κ × PyData)) (k : κ) (d : PyData) : List (κ × PyData) := kvs.map fun p => if p.1 = k then (p.1, d) else p
def pt (kvs : List (κ × PyData)) (k : κ) (d : PyData) : List (κ × PyData) := if (lk kvs k).isSome = true then ptR kvs k d else kvs ++ [(k, d)]
theorem lk_ly (k : κ) : ∀ {ws : List (κ × V)} {kvs : List (κ × PyData)}, ws.map (·.1) = kvs.map (·.1) → LyAll K H (ws.map (·.2)) (kvs.map (·.2)) → (lk kvs k = none ∧ valV ws k = none) ∨ ∃ d v, lk kvs k = some d ∧ valV ws k = some v ∧ Ly K H v d
  | [], [], _, _ => .inl ⟨rfl, rfl⟩
  | [], _ :: _, e, _ => by simp at e
  | _ :: _, [], e, _ => by simp at e
  | w :: ws, p :: kvs, e, l => by
    simp only [List.map_cons, List.cons.injEq] at e l
    cases l with
    | cons l1 l2 =>
      by_cases h : p.1 = k
      · refine .inr ⟨p.2, w.2, by simp [lk, h], valV_pos (e.1.trans h), l1⟩
      · have := lk_ly k e.2 l2
        rw [show lk (p :: kvs) k = lk kvs k by simp [lk, h], valV_neg (show ¬ w.1 = k by rw [e.1]; exact h)]
        exact this
theorem pt_ly {k : κ} {v : V} {d : PyData} (lv : Ly K H v d) {ws : List (κ × V)} {kvs : List (κ × PyData)} (e : ws.map (·.1) = kvs.map (·.1)) (l : LyAll K H (ws.map (·.2)) (kvs.map (·.2))) :
    (putK ws k v).map (·.1) = (pt kvs k d).map (·.1) ∧ LyAll K H ((putK ws k v).map (·.2)) ((pt kvs k d).map (·.2)) := by
  have hs : (ws.any fun kv => decide (kv.1 = k)) = (lk kvs k).isSome := by
    rw [valV_any]
    rcases lk_ly k e l with ⟨h1, h2⟩ | ⟨d', v', h1, h2, _⟩
    · rw [h1, h2]; rfl
    · rw [h1, h2]; rfl
  unfold putK pt
  rw [hs]
  split
  · clear hs
    rename_i hh
    clear hh
    induction ws generalizing kvs with
    | nil =>
      cases kvs with
      | nil => exact ⟨rfl, .nil⟩
      | cons _ _ => simp at e
    | cons w ws ih =>
      cases kvs with
      | nil => simp at e
      | cons p kvs =>
        simp only [List.map_cons, List.cons.injEq] at e l
        cases l with
        | cons l1 l2 =>
          obtain ⟨i1, i2⟩ := ih e.2 l2
          unfold ptR at i1 i2 ⊢
          simp only [List.map_cons, List.cons.injEq]
          by_cases h : p.1 = k
          · have h' : w.1 = k := e.1.trans h
            simp only [h, h', if_true]
            exact ⟨⟨trivial, i1⟩, .cons lv i2⟩
          · have h' : ¬ w.1 = k := by rw [e.1]; exact h
            simp only [h, h', if_false]
            exact ⟨⟨e.1, i1⟩, .cons l1 i2⟩
  · rw [List.map_append, List.map_append, List.map_append, List.map_append, e]
    exact ⟨rfl, LyAll.append l (.cons lv .nil)⟩
theorem keys_len {ws : List (κ × V)} {kvs : List (κ × PyData)} (e : ws.map (·.1) = kvs.map (·.1)) : ws.length = kvs.length := by
  have := congrArg List.length e
  simpa using this
end
/-- an int or a text as a key -/
def asK : D → Option Key
  | .pd (.int i) => some (.inl i)
  | .pd (.str x) => some (.inr x)
  | _ => none
theorem asK_rep {K : PySem.W.Frag} {H : Hp} {ad xs : List Addr} {d : D} {v : V} {k : Key} (e : asK d = some k) (r : Rep K H ad xs d v) : v = kV k := by
  unfold asK at e
  split at e
  · cases e; cases r; rfl
  · cases e; cases r; rfl
  · cases e
def asKs : List D → Option (List Key)
  | [] => some []
  | d :: r => match asK d with
    | some k => (asKs r).map (k :: ·)
    | none => none
theorem asKs_rep {K : PySem.W.Frag} {H : Hp} {ad xs : List Addr} : ∀ {ds : List D} {vs : List V} {ks : List Key}, asKs ds = some ks → RepAll K H ad xs ds vs → vs = ks.map kV
  | [], _, _, e, .nil => by cases e; rfl
  | d :: r, _, ks, e, .cons h t => by
    unfold asKs at e
    cases hk : asK d with
    | none => rw [hk] at e; cases e
    | some k =>
      rw [hk] at e
      simp only [Option.map_eq_some_iff] at e
      obtain ⟨js, e1, rfl⟩ := e
      rw [asK_rep hk h, asKs_rep e1 t]
      rfl

/-! ### dicts by ints or texts -/
def eDicK : EvE := fun _ μ => .ok (.ref μ.length, μ ++ [.dic []])
def eDicT : EvE := fun _ μ => .ok (.ref μ.length, μ ++ [.dit []])
def dicAt (μ : Store) : D → Option (Nat × List (Key × PyData))
  | .ref l => match μ[l]? with
    | some (.dic kvs) => some (l, kvs)
    | _ => none
  | _ => none
def asPd : D → Option PyData
  | .pd d => some d
  | _ => none
/-- what stands at the key: found, or not -/
def dFind (μ : Store) (d k : D) : Option (Option PyData) := match dicAt μ d, asK k with
  | some p, some k => some (lk p.2 k)
  | _, _ => none
def isDic (μ : Store) (d : D) : Bool := (dicAt μ d).isSome
def dPut (μ : Store) (d k x : D) : Option Store := match dicAt μ d, asK k, asPd x with
  | some p, some k, some x => if p.2.length < sizeLine then some (μ.set p.1 (.dic (pt p.2 k x))) else none
  | _, _, _ => none
def eDGet (ed ek : EvE) : EvE := fun env μ => (ed env μ).bind fun p => (ek env p.2).bind fun q => match dFind q.2 p.1 q.1 with
  | some (some d) => .ok (.pd d, q.2)
  | _ => .stuck
def eDIn (ek ed : EvE) : EvE := fun env μ => (ek env μ).bind fun q => (ed env q.2).bind fun p => match dFind p.2 p.1 q.1 with
  | some o => .ok (.pd (.bool o.isSome), p.2)
  | _ => .stuck
def eDNotIn (ek ed : EvE) : EvE := fun env μ => (ek env μ).bind fun q => (ed env q.2).bind fun p => match dFind p.2 p.1 q.1 with
  | some o => .ok (.pd (.bool (!o.isSome)), p.2)
  | _ => .stuck
def eDGet2 (ed ek ex : EvE) : EvE := fun env μ => (ed env μ).bind fun p => if isDic p.2 p.1 = true then (ek env p.2).bind fun q => (ex env q.2).bind fun r => match dFind r.2 p.1 q.1 with
  | some (some d) => .ok (.pd d, r.2)
  | some none => .ok (r.1, r.2)
  | _ => .stuck
  else .stuck
def eDGet1 (ed ek : EvE) : EvE := fun env μ => (ed env μ).bind fun p => if isDic p.2 p.1 = true then (ek env p.2).bind fun q => match dFind q.2 p.1 q.1 with
  | some o => .ok (.pd (o.getD .none), q.2)
  | _ => .stuck
  else .stuck
def eSetd (ed ek ex : EvE) : EvE := fun env μ => (ed env μ).bind fun p => if isDic p.2 p.1 = true then (ek env p.2).bind fun q => (ex env q.2).bind fun r => match dFind r.2 p.1 q.1, dPut r.2 p.1 q.1 r.1 with
  | some (some d), some _ => .ok (.pd d, r.2)
  | some none, some μ' => .ok (r.1, μ')
  | _, _ => .stuck
  else .stuck
def sDPutE (ed ek ev : EvE) : EvS := fun env μ => (ev env μ).bind fun p => (ed env p.2).bind fun q => (ek env q.2).bind fun r => match dPut r.2 q.1 r.1 p.1 with
  | some μ' => .ok ((.nx, env), μ')
  | none => .stuck
section
variable {K : PySem.W.Frag} {H : Hp} {ad xs : List Addr} {μ μ' : Store}
theorem dicAt_rep (w : WOk K H ad xs μ) {d : D} {v : V} {p : Nat × List (Key × PyData)} (rd : Rep K H ad xs d v) (e : dicAt μ d = some p) :
    ∃ a ws, v = .ref a ∧ ad[p.1]? = some a ∧ H a = some (.dK ws) ∧ ws.map (·.1) = p.2.map (·.1) ∧ LyAll K (Im H ad xs) (ws.map (·.2)) (p.2.map (·.2)) := by
  cases d with
  | ref l =>
    obtain ⟨a, g, rfl⟩ := rd
    cases hc : μ[l]? with
    | none => simp [dicAt, hc] at e
    | some c =>
      cases c with
      | dic kvs =>
        simp [dicAt, hc] at e
        subst e
        obtain ⟨ws, k1, k2, k3⟩ := w.cell l a _ g hc
        exact ⟨a, ws, rfl, g, k1, k2, k3⟩
      | _ => simp [dicAt, hc] at e
  | _ => simp [dicAt] at e
theorem dFind_rep (w : WOk K H ad xs μ) {d k : D} {v y : V} {o : Option PyData} (rd : Rep K H ad xs d v) (rk : Rep K H ad xs k y) (e : dFind μ d k = some o) :
    ∃ a, v = .ref a ∧ ((o = none ∧ DGet H a y none) ∨ ∃ p u, o = some p ∧ DGet H a y (some u) ∧ Ly K (Im H ad xs) u p) := by
  unfold dFind at e
  cases hd : dicAt μ d with
  | none => simp [hd] at e
  | some p =>
    cases hk : asK k with
    | none => simp [hd, hk] at e
    | some k' =>
      simp [hd, hk] at e
      subst e
      obtain ⟨a, ws, rfl, g, k1, k2, k3⟩ := dicAt_rep w rd hd
      have ey := asK_rep hk rk
      subst ey
      refine ⟨a, rfl, ?_⟩
      have dg := DGet.k (k := k') k1
      rcases lk_ly k' k2 k3 with ⟨h1, h2⟩ | ⟨d', v', h1, h2, h3⟩
      · rw [h2] at dg
        exact .inl ⟨h1, dg⟩
      · rw [h2] at dg
        exact .inr ⟨d', v', h1, dg, h3⟩
theorem isDic_rep (w : WOk K H ad xs μ) {d : D} {v : V} (rd : Rep K H ad xs d v) (e : isDic μ d = true) : ∃ a, v = .ref a ∧ IsD H a := by
  unfold isDic at e
  obtain ⟨p, hp⟩ := Option.isSome_iff_exists.mp e
  obtain ⟨a, ws, rfl, g, k1, k2, k3⟩ := dicAt_rep w rd hp
  exact ⟨a, rfl, .inl ⟨ws, .inl k1⟩⟩
theorem dPut_rep (w : WOk K H ad xs μ) {d k x : D} {v y z : V} (rd : Rep K H ad xs d v) (rk : Rep K H ad xs k y) (rx : Rep K H ad xs x z) (e : dPut μ d k x = some μ') :
    ∃ a kvs k', v = .ref a ∧ H a = some (.dK kvs) ∧ y = kV k' ∧ kvs.length < sizeLine ∧ WOk K (upd H a (.dK (putK kvs k' z))) ad xs μ' ∧ Ext H ad xs (upd H a (.dK (putK kvs k' z))) ad := by
  unfold dPut at e
  cases hd : dicAt μ d with
  | none => simp [hd] at e
  | some p =>
    cases hk : asK k with
    | none => simp [hd, hk] at e
    | some k' =>
      cases x with
      | pd x =>
        simp only [hd, hk, asPd] at e
        by_cases hl : p.2.length < sizeLine
        · simp only [hl, if_true, Option.some.injEq] at e
          subst e
          obtain ⟨a, ws, rfl, g, k1, k2, k3⟩ := dicAt_rep w rd hd
          have em : Im (upd H a (.dK (putK ws k' z))) ad xs = Im H ad xs := by
            funext b
            unfold Im upd
            by_cases eb : b = a
            · subst eb; simp [List.mem_of_getElem? g]
            · simp [eb]
          obtain ⟨p1, p2⟩ := pt_ly (k := k') rx k2 k3
          obtain ⟨w2, e2⟩ := w.write (o := .dK (putK ws k' z)) (c := .dic (pt p.2 k' x)) g ⟨_, upd_same, p1, by rw [em]; exact p2⟩
          exact ⟨a, ws, k', rfl, k1, asK_rep hk rk, by rw [keys_len k2]; exact hl, w2, e2⟩
        · simp [hl] at e
      | _ => simp [hd, hk, asPd] at e
end
theorem dget_fun {H : Hp} {a : Addr} {kvs : List (Key × V)} {k : Key} {o : Option V} (g : H a = some (.dK kvs)) (h : DGet H a (kV k) o) : valV kvs k = o := by
  rcases h with ⟨kvs', k', h1, h2, h3⟩ | ⟨kvs', k', b, h1, h2, _, _⟩
  · have := kV_inj h2
    subst this
    rcases h1 with h1 | ⟨ob, h1⟩
    · rw [g] at h1
      cases h1
      exact h3.symm
    · rw [g] at h1
      cases h1
  · cases k <;> cases h2
section
variable {X : Cx} {W : Wish} {j : Nat} {o i e f : Expr} {ed ek ex ev : EvE} {pos p2 apos cpos : Pos}
theorem se_dicK : SE X W (.Dict [] [] pos) eDicK := pe_imp pe_dnewK fun σ H Q h => by
  obtain ⟨ad, xs, env, μ, sr, w, p⟩ := h
  intro q hq
  obtain ⟨w2, e2⟩ := w.alloc (o := .dK []) (c := .dic []) hq ⟨[], upd_same, rfl, .nil⟩
  exact Post.ok_at p e2 w2 _ ⟨q, by rw [← w.len]; simp, rfl⟩
theorem se_dicT : SE X W (.Dict [] [] pos) eDicT := pe_imp pe_dnewT fun σ H Q h => by
  obtain ⟨ad, xs, env, μ, sr, w, p⟩ := h
  intro q hq
  obtain ⟨w2, e2⟩ := w.alloc (o := .dT []) (c := .dit []) hq ⟨[], upd_same, rfl, .nil⟩
  exact Post.ok_at p e2 w2 _ ⟨q, by rw [← w.len]; simp, rfl⟩
theorem hu1 {k : Nat} (hr : Rm k X.A) : X.A.units + 1 < cLine := by have := hr.rm.units; omega
theorem se_dget (hr : Rm j X.A) (ho : SE X W o ed) (hi : SE X W i ek) (hs : NoSl i := by exact fun _ _ => rfl) : SE X W (.Subscript o i pos) (eDGet ed ek) := pe_imp (pe_dget (hu1 hr) ho hi hs) fun σ H Q h => by
  obtain ⟨ad, xs, env, μ, sr, w, p⟩ := h
  refine ⟨ad, xs, env, μ, sr, w, p.bind.mono fun d H1 ad1 μ1 e1 w1 q v r => ⟨ad1, xs, env, μ1, sr.ext e1, w1, q.bind.mono fun k H2 ad2 μ2 e2 w2 q2 y rk => ?_⟩⟩
  dsimp only at q2
  cases hf : dFind μ2 d k with
  | none => rw [hf] at q2; exact q2.elim
  | some o =>
    rw [hf] at q2
    obtain ⟨a, rfl, ⟨h1, _⟩ | ⟨p0, u, h1, h2, h3⟩⟩ := dFind_rep w2 (r.ext e2) rk hf
    · subst h1; exact q2.elim
    · subst h1
      exact ⟨a, u, rfl, h2, q2.ok w2 u h3⟩
theorem din_core {σ : L2.St} {H : Hp} {Q : VK} (h : tD X.K W (eDIn ek ed) σ H Q) : tDIn (tD X.K W ek) (tD X.K W ed) σ H Q := by
  obtain ⟨ad, xs, env, μ, sr, w, p⟩ := h
  refine ⟨ad, xs, env, μ, sr, w, p.bind.mono fun k H1 ad1 μ1 e1 w1 q y rk => ⟨ad1, xs, env, μ1, sr.ext e1, w1, q.bind.mono fun d H2 ad2 μ2 e2 w2 q2 v r => ?_⟩⟩
  dsimp only at q2
  cases hf : dFind μ2 d k with
  | none => rw [hf] at q2; exact q2.elim
  | some o =>
    rw [hf] at q2
    obtain ⟨a, rfl, ⟨h1, h2⟩ | ⟨p0, u, h1, h2, h3⟩⟩ := dFind_rep w2 r (rk.ext e2) hf
    · subst h1
      exact ⟨a, none, rfl, h2, q2.ok w2 _ (.bl _)⟩
    · subst h1
      exact ⟨a, some u, rfl, h2, q2.ok w2 _ (.bl _)⟩
theorem dnotin_core {σ : L2.St} {H : Hp} {Q : VK} (h : tD X.K W (eDNotIn ek ed) σ H Q) : tDNotIn (tD X.K W ek) (tD X.K W ed) σ H Q := by
  obtain ⟨ad, xs, env, μ, sr, w, p⟩ := h
  refine ⟨ad, xs, env, μ, sr, w, p.bind.mono fun k H1 ad1 μ1 e1 w1 q y rk => ⟨ad1, xs, env, μ1, sr.ext e1, w1, q.bind.mono fun d H2 ad2 μ2 e2 w2 q2 v r => ?_⟩⟩
  dsimp only at q2
  cases hf : dFind μ2 d k with
  | none => rw [hf] at q2; exact q2.elim
  | some o =>
    rw [hf] at q2
    obtain ⟨a, rfl, ⟨h1, h2⟩ | ⟨p0, u, h1, h2, h3⟩⟩ := dFind_rep w2 r (rk.ext e2) hf
    · subst h1
      exact ⟨a, none, rfl, h2, q2.ok w2 _ (.bl _)⟩
    · subst h1
      exact ⟨a, some u, rfl, h2, q2.ok w2 _ (.bl _)⟩
theorem se_din (hr : Rm j X.A) (hi : SE X W i ek) (ho : SE X W o ed) (hm : behindInMarks .In o = false := by rfl) : SE X W (.Compare i [.In] [o] pos) (eDIn ek ed) := pe_imp (pe_cmp (pc_din (hu1 hr) hi ho) hm) fun _ _ _ h => din_core h
theorem st_din (hr : Rm j X.A) (hi : SE X W i ek) (ho : SE X W o ed) (hm : behindInMarks .In o = false := by rfl) : ST X W (.Compare i [.In] [o] pos) (eTst (eDIn ek ed)) := pt_imp (pt_cmp (pc_din (hu1 hr) hi ho) hm) fun _ _ _ h => din_core (tst_core h)
theorem se_dnotin (hr : Rm j X.A) (hi : SE X W i ek) (ho : SE X W o ed) (hm : behindInMarks .NotIn o = false := by rfl) : SE X W (.Compare i [.NotIn] [o] pos) (eDNotIn ek ed) := pe_imp (pe_cmp (pc_dnotin (hu1 hr) hi ho) hm) fun _ _ _ h => dnotin_core h
theorem st_dnotin (hr : Rm j X.A) (hi : SE X W i ek) (ho : SE X W o ed) (hm : behindInMarks .NotIn o = false := by rfl) : ST X W (.Compare i [.NotIn] [o] pos) (eTst (eDNotIn ek ed)) := pt_imp (pt_cmp (pc_dnotin (hu1 hr) hi ho) hm) fun _ _ _ h => dnotin_core (tst_core h)
theorem se_dget2 (hr : Rm j X.A) (ho : SE X W o ed) (he : SE X W e ek) (hf : SE X W f ex) (m : M2 X o "get" apos e f cpos := by exact ⟨rfl, rfl, rfl, rfl⟩) : SE X W (.Call (.Attribute o "get" apos) [e, f] [] cpos) (eDGet2 ed ek ex) :=
  pe_imp (pe_dget2 (hu1 hr) ho he hf m) fun σ H Q h => by
    obtain ⟨ad, xs, env, μ, sr, w, p⟩ := h
    refine ⟨ad, xs, env, μ, sr, w, p.bind.mono fun d H1 ad1 μ1 e1 w1 q v r => ?_⟩
    dsimp only at q
    by_cases hd : isDic μ1 d = true
    · rw [if_pos hd] at q
      obtain ⟨a, rfl, isd⟩ := isDic_rep w1 r hd
      refine ⟨a, rfl, isd, ad1, xs, env, μ1, sr.ext e1, w1, q.bind.mono fun k H2 ad2 μ2 e2 w2 q2 y rk => ⟨ad2, xs, env, μ2, (sr.ext e1).ext e2, w2, q2.bind.mono fun x H3 ad3 μ3 e3 w3 q3 z rx => ?_⟩⟩
      dsimp only at q3
      cases hf : dFind μ3 d k with
      | none => rw [hf] at q3; exact q3.elim
      | some o =>
        rw [hf] at q3
        obtain ⟨a', ea', ⟨h1, h2⟩ | ⟨p0, u, h1, h2, h3⟩⟩ := dFind_rep w3 ((r.ext e2).ext e3) (rk.ext e3) hf
        · cases ea'
          subst h1
          exact ⟨none, h2, q3.ok w3 _ rx⟩
        · cases ea'
          subst h1
          exact ⟨some u, h2, q3.ok w3 _ h3⟩
    · rw [if_neg hd] at q
      exact q.elim
theorem se_dget1 (hr : Rm j X.A) (ho : SE X W o ed) (he : SE X W e ek) (m : M1 X o "get" apos e cpos := by exact ⟨rfl, rfl, rfl, rfl⟩) : SE X W (.Call (.Attribute o "get" apos) [e] [] cpos) (eDGet1 ed ek) :=
  pe_imp (pe_dget1 (hu1 hr) ho he m) fun σ H Q h => by
    obtain ⟨ad, xs, env, μ, sr, w, p⟩ := h
    refine ⟨ad, xs, env, μ, sr, w, p.bind.mono fun d H1 ad1 μ1 e1 w1 q v r => ?_⟩
    dsimp only at q
    by_cases hd : isDic μ1 d = true
    · rw [if_pos hd] at q
      obtain ⟨a, rfl, isd⟩ := isDic_rep w1 r hd
      refine ⟨a, rfl, isd, ad1, xs, env, μ1, sr.ext e1, w1, q.bind.mono fun k H2 ad2 μ2 e2 w2 q2 y rk => ?_⟩
      dsimp only at q2
      cases hf : dFind μ2 d k with
      | none => rw [hf] at q2; exact q2.elim
      | some o =>
        rw [hf] at q2
        obtain ⟨a', ea', ⟨h1, h2⟩ | ⟨p0, u, h1, h2, h3⟩⟩ := dFind_rep w2 (r.ext e2) rk hf
        · cases ea'
          subst h1
          exact ⟨none, h2, q2.ok w2 _ .non⟩
        · cases ea'
          subst h1
          exact ⟨some u, h2, q2.ok w2 _ h3⟩
    · rw [if_neg hd] at q
      exact q.elim
theorem se_setd (ho : SE X W o ed) (he : SE X W e ek) (hf : SE X W f ex) (m : M2 X o "setdefault" apos e f cpos := by exact ⟨rfl, rfl, rfl, rfl⟩) : SE X W (.Call (.Attribute o "setdefault" apos) [e, f] [] cpos) (eSetd ed ek ex) :=
  pe_imp (pe_dsetd ho he hf m) fun σ H Q h => by
    obtain ⟨ad, xs, env, μ, sr, w, p⟩ := h
    refine ⟨ad, xs, env, μ, sr, w, p.bind.mono fun d H1 ad1 μ1 e1 w1 q v r => ?_⟩
    dsimp only at q
    by_cases hd : isDic μ1 d = true
    · rw [if_pos hd] at q
      obtain ⟨a, rfl, isd⟩ := isDic_rep w1 r hd
      refine ⟨a, rfl, isd, ad1, xs, env, μ1, sr.ext e1, w1, q.bind.mono fun k H2 ad2 μ2 e2 w2 q2 y rk => ⟨ad2, xs, env, μ2, (sr.ext e1).ext e2, w2, q2.bind.mono fun x H3 ad3 μ3 e3 w3 q3 z rx => ?_⟩⟩
      dsimp only at q3
      cases hf : dFind μ3 d k with
      | none => rw [hf] at q3; exact q3.elim
      | some o =>
        cases hp : dPut μ3 d k x with
        | none => rw [hf, hp] at q3; cases o <;> exact q3.elim
        | some μ' =>
          rw [hf, hp] at q3
          have rd := (r.ext e2).ext e3
          obtain ⟨a1, kvs, k', ea1, g1, ey, hl, w4, e4⟩ := dPut_rep w3 rd (rk.ext e3) rx hp
          cases ea1
          subst ey
          refine ⟨kvs, k', g1, rfl, hl, fun u hu => ?_, fun hn => ?_⟩
          · obtain ⟨a', ea', ⟨h1, h2⟩ | ⟨p0, u0, h1, h2, h3⟩⟩ := dFind_rep w3 rd (rk.ext e3) hf
            · cases ea'
              have := dget_fun g1 h2
              rw [hu] at this; cases this
            · cases ea'
              subst h1
              have := dget_fun g1 h2
              rw [hu] at this
              cases this
              exact q3.ok w3 _ h3
          · obtain ⟨a', ea', ⟨h1, h2⟩ | ⟨p0, u0, h1, h2, h3⟩⟩ := dFind_rep w3 rd (rk.ext e3) hf
            · cases ea'
              subst h1
              exact Post.ok_at q3 e4 w4 _ (rx.ext e4)
            · cases ea'
              have := dget_fun g1 h2
              rw [hn] at this; cases this
    · rw [if_neg hd] at q
      exact q.elim
theorem ss_dput (hr : Rm j X.A) (ho : SE X W o ed) (hi : SE X W i ek) (hv : SE X W e ev) (hs : swapsWith e (some (.Subscript o i p2)) pos.line X.env = pure false := by rfl) : SS X W (.Assign [.Subscript o i p2] e pos) (sDPutE ed ek ev) :=
  ps_imp (ps_dput (hu1 hr) ho hi hv hs) fun D σ H h => by
    obtain ⟨ad, xs, env, μ, sr, w, p⟩ := h
    refine ⟨ad, xs, env, μ, sr, w, p.bind.mono fun x H1 ad1 μ1 e1 w1 q z rx => ⟨ad1, xs, env, μ1, sr.ext e1, w1, q.bind.mono fun d H2 ad2 μ2 e2 w2 q2 v r => ⟨ad2, xs, env, μ2, (sr.ext e1).ext e2, w2, q2.bind.mono fun k H3 ad3 μ3 e3 w3 q3 y rk => ?_⟩⟩⟩
    dsimp only at q3
    cases hp : dPut μ3 d k x with
    | none => rw [hp] at q3; exact q3.elim
    | some μ' =>
      rw [hp] at q3
      obtain ⟨a, kvs, k', rfl, g1, rfl, hl, w4, e4⟩ := dPut_rep w3 (r.ext e3) rk ((rx.ext e2).ext e3) hp
      exact ⟨a, _, rfl, DPut.k g1 hl, (Post.ok_at q3 e4 w4) σ ((((sr.ext e1).ext e2).ext e3).ext e4)⟩
end

/-! ### dicts by tuples that are written as keys -/
def ditAt (μ : Store) : D → Option (Nat × List (List Key × PyData))
  | .ref l => match μ[l]? with
    | some (.dit kvs) => some (l, kvs)
    | _ => none
  | _ => none
def eTGet (ed : EvE) (ea : EvA) : EvE := fun env μ => (ed env μ).bind fun p => (ea env p.2).bind fun q => match ditAt q.2 p.1, asKs q.1 with
  | some r, some ks => match lk r.2 ks with
    | some d => if q.1.length ≤ sizeLine then .ok (.pd d, q.2) else .stuck
    | none => .stuck
  | _, _ => .stuck
def sTPut (ed : EvE) (ea : EvA) (ev : EvE) : EvS := fun env μ => (ev env μ).bind fun p => (ed env p.2).bind fun q => (ea env q.2).bind fun r => match ditAt r.2 q.1, asKs r.1, asPd p.1 with
  | some s, some ks, some d => if s.2.length < sizeLine ∧ r.1.length ≤ sizeLine then .ok ((.nx, env), r.2.set s.1 (.dit (pt s.2 ks d))) else .stuck
  | _, _, _ => .stuck
theorem ditAt_rep {K : PySem.W.Frag} {H : Hp} {ad xs : List Addr} {μ : Store} (w : WOk K H ad xs μ) {d : D} {v : V} {p : Nat × List (List Key × PyData)} (rd : Rep K H ad xs d v) (e : ditAt μ d = some p) :
    ∃ a ws, v = .ref a ∧ ad[p.1]? = some a ∧ H a = some (.dT ws) ∧ ws.map (·.1) = p.2.map (·.1) ∧ LyAll K (Im H ad xs) (ws.map (·.2)) (p.2.map (·.2)) ∧ μ[p.1]? = some (.dit p.2) := by
  cases d with
  | ref l =>
    obtain ⟨a, g, rfl⟩ := rd
    cases hc : μ[l]? with
    | none => simp [ditAt, hc] at e
    | some c =>
      cases c with
      | dit kvs =>
        simp [ditAt, hc] at e
        subst e
        obtain ⟨ws, k1, k2, k3⟩ := w.cell l a _ g hc
        exact ⟨a, ws, rfl, g, k1, k2, k3, hc⟩
      | _ => simp [ditAt, hc] at e
  | _ => simp [ditAt] at e
section
variable {X : Cx} {W : Wish} {j k : Nat} {o e : Expr} {es : List Expr} {ed ev : EvE} {ea : EvA} {pos p2 pt' : Pos}
theorem se_tget (hr : Rm j X.A) (ho : SE X W o ed) (ha : SA X W es ea) (hs : NoSl (.Tuple es k pt') := by exact fun _ _ => rfl) : SE X W (.Subscript o (.Tuple es k pt') pos) (eTGet ed ea) := pe_imp (pe_dget (hu1 hr) ho (pe_tup ha) hs) fun σ H Q h => by
  obtain ⟨ad, xs, env, μ, sr, w, p⟩ := h
  refine ⟨ad, xs, env, μ, sr, w, p.bind.mono fun d H1 ad1 μ1 e1 w1 q v r => ⟨ad1, xs, env, μ1, sr.ext e1, w1, q.bind.mono fun ds H2 ad2 μ2 e2 w2 q2 vs rs => ?_⟩⟩
  dsimp only at q2
  cases hd : ditAt μ2 d with
  | none => rw [hd] at q2; exact q2.elim
  | some p0 =>
    cases hk : asKs ds with
    | none => rw [hd, hk] at q2; exact q2.elim
    | some ks =>
      rw [hd, hk] at q2
      dsimp only at q2
      cases hl : lk p0.2 ks with
      | none => rw [hl] at q2; exact q2.elim
      | some c =>
        rw [hl] at q2
        dsimp only at q2
        by_cases hz : ds.length ≤ sizeLine
        · rw [if_pos hz] at q2
          refine ⟨by rw [← RepAll.length rs]; exact hz, fun t ht => ?_⟩
          obtain ⟨w3, e3, i3⟩ := w2.new (o := .tup vs) ht
          obtain ⟨a, ws, rfl, g, k1, k2, k3, _⟩ := ditAt_rep w2 (r.ext e2) hd
          have ev := asKs_rep hk rs
          subst ev
          have ka : upd H2 t (.tup (ks.map kV)) a = some (.dT ws) := (upd_ne (ne_of_none k1 ht)).trans k1
          have dg := DGet.t (k := ks) ka (Im_le _ _ i3)
          rcases lk_ly ks k2 k3 with ⟨h1, h2⟩ | ⟨d', v', h1, h2, h3⟩
          · rw [hl] at h1; cases h1
          · rw [hl] at h1
            cases h1
            rw [h2] at dg
            exact ⟨a, v', rfl, dg, Post.ok_at q2 e3 w3 _ (Ly.grow e3.same h3)⟩
        · rw [if_neg hz] at q2
          exact q2.elim
theorem ss_tput (hr : Rm j X.A) (ho : SE X W o ed) (ha : SA X W es ea) (hv : SE X W e ev) (hs : swapsWith e (some (.Subscript o (.Tuple es k pt') p2)) pos.line X.env = pure false := by rfl) : SS X W (.Assign [.Subscript o (.Tuple es k pt') p2] e pos) (sTPut ed ea ev) :=
  ps_imp (ps_dput (hu1 hr) ho (pe_tup ha) hv hs) fun D σ H h => by
    obtain ⟨ad, xs, env, μ, sr, w, p⟩ := h
    refine ⟨ad, xs, env, μ, sr, w, p.bind.mono fun x H1 ad1 μ1 e1 w1 q z rx => ⟨ad1, xs, env, μ1, sr.ext e1, w1, q.bind.mono fun d H2 ad2 μ2 e2 w2 q2 v r => ⟨ad2, xs, env, μ2, (sr.ext e1).ext e2, w2, q2.bind.mono fun ds H3 ad3 μ3 e3 w3 q3 vs rs => ?_⟩⟩⟩
    dsimp only at q3
    cases hd : ditAt μ3 d with
    | none => rw [hd] at q3; exact q3.elim
    | some p0 =>
      cases hk : asKs ds with
      | none => rw [hd, hk] at q3; exact q3.elim
      | some ks =>
        cases x with
        | pd c =>
          rw [hd, hk] at q3
          simp only [asPd] at q3
          by_cases hz : p0.2.length < sizeLine ∧ ds.length ≤ sizeLine
          · rw [if_pos hz] at q3
            refine ⟨by rw [← RepAll.length rs]; exact hz.2, fun t ht => ?_⟩
            obtain ⟨w4, e4, i4⟩ := w3.new (o := .tup vs) ht
            obtain ⟨a, ws, ea1, g, k1, k2, k3, hc⟩ := ditAt_rep w4 ((r.ext e3).ext e4) hd
            subst ea1
            have evs := asKs_rep hk rs
            subst evs
            have lv : Ly X.K (Im (upd H3 t (.tup (ks.map kV))) ad3 xs) z c := ((rx.ext e2).ext e3).ext e4
            have em : ∀ o', Im (upd (upd H3 t (.tup (ks.map kV))) a o') ad3 xs = Im (upd H3 t (.tup (ks.map kV))) ad3 xs := fun o' => by
              funext b
              unfold Im upd
              by_cases eb : b = a
              · subst eb; simp [List.mem_of_getElem? g]
              · simp [eb]
            obtain ⟨p1, p2⟩ := pt_ly (k := ks) lv k2 k3
            obtain ⟨w5, e5⟩ := w4.write (o := .dT (putK ws ks z)) (c := .dit (pt p0.2 ks c)) g ⟨_, upd_same, p1, by rw [em]; exact p2⟩
            exact ⟨a, _, rfl, DPut.t k1 (Im_le _ _ i4) (by rw [keys_len k2]; exact hz.1), (Post.ok_at q3 (e4.trans e5) w5) σ (((((sr.ext e1).ext e2).ext e3).ext e4).ext e5)⟩
          · rw [if_neg hz] at q3
            exact q3.elim
        | _ => rw [hd, hk] at q3; simp only [asPd] at q3; exact q3.elim
end

/-! ### lists of lists -/
/-- the places in a list of lists; an empty list is one -/
def llsAt (μ : Store) (l : Nat) : Option (List Nat) := match μ[l]? with
  | some (.lls ls) => some ls
  | some (.lst []) => some []
  | _ => none
/-- o.append(x), x a list that may change -/
def eAppL (eo : EvE) (ea : EvE) : EvE := fun env μ => (eo env μ).bind fun p => match p.1 with
  | .ref l => match llsAt p.2 l with
    | some _ => (ea env p.2).bind fun q => match q.1, llsAt q.2 l with
      | .ref l', some ls => if ls.length < sizeLine then .ok (.pd .none, q.2.set l (.lls (ls ++ [l']))) else .stuck
      | _, _ => .stuck
    | none => .stuck
  | _ => .stuck
/-- o[i] = x, x a list that may change -/
def sSetIxL (eo ei ev : EvE) : EvS := fun env μ => (ev env μ).bind fun p => (eo env p.2).bind fun q => (ei env q.2).bind fun r =>
  match p.1, q.1, asI r.1 with
  | .ref l', .ref l, some i => match llsAt r.2 l with
    | some ls => match ixN ls.length i with
      | some j => .ok ((.nx, env), r.2.set l (.lls (ls.set j l')))
      | none => .stuck
    | _ => .stuck
  | _, _, _ => .stuck
theorem llsAt_rep {K : PySem.W.Frag} {H : Hp} {ad xs : List Addr} {μ : Store} (w : WOk K H ad xs μ) {l : Nat} {a : Addr} {ls : List Nat} (g : ad[l]? = some a) (e : llsAt μ l = some ls) : ∃ as : List Addr, H a = some (.lst (as.map V.ref)) ∧ as.map some = ls.map (fun l => ad[l]?) := by
  unfold llsAt at e
  cases hc : μ[l]? with
  | none => rw [hc] at e; cases e
  | some c =>
    cases c with
    | lls ls' =>
      rw [hc] at e
      cases e
      exact w.cell l a _ g hc
    | lst ds =>
      cases ds with
      | nil =>
        rw [hc] at e
        cases e
        obtain ⟨vs, k1, k2⟩ := w.cell l a _ g hc
        cases k2
        exact ⟨[], k1, rfl⟩
      | cons _ _ => rw [hc] at e; cases e
    | _ => rw [hc] at e; cases e
section
variable {X : Cx} {W : Wish} {o a i e : Expr} {eo ea ei ev : EvE} {apos cpos pos p2 : Pos}
theorem appL_core {σ : L2.St} {H : Hp} {Q : VK} (h : tD X.K W (eAppL eo ea) σ H Q) : tBM X.K "list" rAppend (tD X.K W eo) (tCons (tD X.K W ea) tNil) σ H Q := by
  obtain ⟨ad, xs, env, μ, sr, w, p⟩ := h
  refine ⟨ad, xs, env, μ, sr, w, p.bind.mono fun d H1 ad1 μ1 e1 w1 q v r => ?_⟩
  dsimp only at q
  cases d with
  | ref l =>
    dsimp only at q
    obtain ⟨a, g, rfl⟩ := r
    cases hl : llsAt μ1 l with
    | none => rw [hl] at q; exact q.elim
    | some ls0 =>
      rw [hl] at q
      dsimp only at q
      obtain ⟨as0, k1, _⟩ := llsAt_rep w1 g hl
      refine ⟨.inl ⟨rfl, _, SqL.of k1⟩, ad1, xs, env, μ1, sr.ext e1, w1, q.bind.mono fun d2 H2 ad2 μ2 e2 w2 q2 v2 r2 => ?_⟩
      dsimp only at q2
      cases d2 with
      | ref l' =>
        cases hl2 : llsAt μ2 l with
        | none => rw [hl2] at q2; exact q2.elim
        | some ls =>
          rw [hl2] at q2
          dsimp only at q2
          by_cases hz : ls.length < sizeLine
          · rw [if_pos hz] at q2
            have g2 := e2.get g
            obtain ⟨as, m1, m2⟩ := llsAt_rep w2 g2 hl2
            obtain ⟨a', g', rfl⟩ := r2
            have ln : as.length = ls.length := by simpa using congrArg List.length m2
            obtain ⟨w3, e3⟩ := w2.write (o := .lst ((as ++ [a']).map V.ref)) (c := .lls (ls ++ [l'])) g2 ⟨as ++ [a'], upd_same, by simp [m2, g']⟩
            refine ⟨a, as.map V.ref, .ref a', rfl, rfl, m1, by simp; omega, ?_⟩
            have := Post.ok_at q2 e3 w3 _ .non
            simpa using this
          · rw [if_neg hz] at q2
            exact q2.elim
      | _ => exact q2.elim
  | _ => exact q.elim
theorem se_appL (ho : SE X W o eo) (ha : SE X W a ea) (hbase : attributeBase o "append" X.env (eval o X.env) = eval o X.env := by rfl)
    (hfew : ((backTo cpos (starEach [a] X.env)).all (fun x => !x.1) && (backToKw cpos (keywordEach [] X.env)).all (fun x => x.1.isSome) && decide (([a] : List Expr).length + ([] : List Keyword).length + (if ([] : List Keyword).isEmpty then 0 else 1) < 30)) = true := by rfl)
    (hline : (apos.endLine == cpos.line) = true := by rfl) (hs : starEach [a] X.env = (false, eval a X.env) :: starEach [] X.env := by rfl) (hp : (backTo cpos (starEach [] X.env)).any (·.1) = false := by rfl) :
    SE X W (.Call (.Attribute o "append" apos) [a] [] cpos) (eAppL eo ea) := pe_imp (pe_bm PySem.F.plainAttrs_list PySem.F.slot_list_append PySem.F.type_list_append mt_append ho (pa_cons ha pa_nil hs) hbase hfew hline hs hp) fun _ _ _ h => appL_core h
theorem ss_setIxL (ho : SE X W o eo) (hi : SE X W i ei) (he : SE X W e ev)
    (ha : ∀ v, assign (.Subscript o i p2) X.env v = (do
      let ov ← holding [v] (eval o X.env)
      let iv ← holding [v, ov] (eval i X.env)
      standAt p2
      holding [v, ov, iv] (setItem ov iv v)
      release [v, ov, iv] []) := by intro _; rfl)
    (hs : swapsWithSole [.Subscript o i p2] e pos.line X.env = pure false := by rfl) (hw : swappedStores [.Subscript o i p2] e X.env = pure none := by rfl)
    (h1 : (assignEach [.Subscript o i p2] X.env).map (·.2) = [assign (.Subscript o i p2) X.env] := by rfl) : SS X W (.Assign [.Subscript o i p2] e pos) (sSetIxL eo ei ev) := ps_imp (ps_asg he (pg_sub ho hi set_list ha) hs hw h1) fun D σ H h => by
  obtain ⟨ad, xs, env, μ, sr, w, p⟩ := h
  refine ⟨ad, xs, env, μ, sr, w, p.bind.mono fun d1 H1 ad1 μ1 e1 w1 p1 v1 r1 => ?_⟩
  refine ⟨ad1, xs, env, μ1, sr.ext e1, w1, p1.bind.mono fun d2 H2 ad2 μ2 e2 w2 p2 v2 r2 => ?_⟩
  refine ⟨ad2, xs, env, μ2, (sr.ext e1).ext e2, w2, p2.bind.mono fun d3 H3 ad3 μ3 e3 w3 p3 v3 r3 => ?_⟩
  dsimp only at p3
  cases hi : asI d3 with
  | none => rw [hi] at p3; cases d1 <;> cases d2 <;> exact p3.elim
  | some i =>
    rw [hi] at p3
    cases d1 with
    | ref l' =>
      cases d2 with
      | ref l =>
        dsimp only at p3
        obtain ⟨a, g, rfl⟩ := r2.ext e3
        obtain ⟨a', g', rfl⟩ := (r1.ext e2).ext e3
        cases hc : llsAt μ3 l with
        | none => rw [hc] at p3; exact p3.elim
        | some ls =>
          rw [hc] at p3
          dsimp only at p3
          cases hj : ixN ls.length i with
          | none => rw [hj] at p3; exact p3.elim
          | some j =>
            rw [hj] at p3
            dsimp only at p3
            obtain ⟨as, m1, m2⟩ := llsAt_rep w3 g hc
            have ln : as.length = ls.length := by simpa using congrArg List.length m2
            obtain ⟨w4, e4⟩ := w3.write (o := .lst ((as.set j a').map V.ref)) (c := .lls (ls.set j l')) g ⟨as.set j a', upd_same, by rw [List.map_set, m2, List.map_set, g']⟩
            refine ⟨a, as.map V.ref, i, j, rfl, asI_rep hi r3, m1, by rw [List.length_map, ln]; exact hj, ?_⟩
            have := (Post.ok_at p3 e4 w4) σ ((((sr.ext e1).ext e2).ext e3).ext e4)
            simpa [List.map_set] using this
      | _ => exact p3.elim
    | _ => exact p3.elim
end
end Zd

set_option Elab.async false
set_option linter.all false
set_option maxRecDepth 100000
set_option maxHeartbeats 4000000
/-! Constants of the module; the end of a law. -/
namespace Zd
open PySem PySem.Spec PyProof.Rows L2

/-- a constant of the module, by value -/
structure CK (K : PySem.W.Frag) (mg : Str → Option Value) (x : Str) (d : PyData) : Prop where
  ex : ∃ v u, mg x = some u ∧ L2.RelV v u ∧ ∀ H, Ly K H v d
theorem se_const {X : Cx} {W : Wish} {x : Str} {d : PyData} {pos : Pos} (c : CK X.K X.mg x d) (hg : Gl X x := by rfl) (hd : (x == ("__debug__" : Str)) = false := by decide) : SE X W (.Name x pos) (eC d) := by
  obtain ⟨v, u, h1, h2, h3⟩ := c.ex
  exact se_glob hg h1 h2 h3 hd

/-! ### len of a list of lists -/
def lenD (μ : Store) : D → Option Nat
  | .ref l => match μ[l]? with
    | some (.lst ds) => some ds.length
    | some (.lls ls) => some ls.length
    | _ => none
  | _ => none
def eLenL (ea : EvE) : EvE := fun env μ => (ea env μ).bind fun p => match lenD p.2 p.1 with
  | some n => .ok (.pd (.int (n : Int)), p.2)
  | none => .stuck
theorem lenD_rep {K : PySem.W.Frag} {H : Hp} {ad xs : List Addr} {μ : Store} (w : WOk K H ad xs μ) {d : D} {v : V} {n : Nat} (r : Rep K H ad xs d v) (e : lenD μ d = some n) : ∃ a vs, v = .ref a ∧ SqL K H a vs ∧ vs.length = n := by
  cases d with
  | ref l =>
    obtain ⟨a, g, rfl⟩ := r
    cases hc : μ[l]? with
    | none => simp [lenD, hc] at e
    | some c =>
      cases c with
      | lst ds =>
        simp [lenD, hc] at e
        obtain ⟨vs, k1, k2⟩ := w.cell l a _ g hc
        exact ⟨a, vs, rfl, SqL.of k1, by rw [LyAll.length k2]; exact e⟩
      | lls ls =>
        simp [lenD, hc] at e
        obtain ⟨as, k1, k2⟩ := w.cell l a _ g hc
        have := congrArg List.length k2
        exact ⟨a, _, rfl, SqL.of k1, by simp at this ⊢; omega⟩
      | _ => simp [lenD, hc] at e
  | _ => simp [lenD] at e
theorem se_lenL {X : Cx} {W : Wish} {a : Expr} {ea : EvE} {p pos : Pos} (hg : Gl X "len") (hm : X.mg "len" = none) (ha : SE X W a ea)
    (he : starEach [a] X.env = (false, eval a X.env) :: starEach [] X.env := by rfl) (hpl : (backTo pos (starEach [] X.env)).any (·.1) = false := by rfl) : SE X W (.Call (.Name "len" p) [a] [] pos) (eLenL ea) :=
  pe_imp (pe_callB call_len_seq hg hm PySem.boot_len (pa_cons ha pa_nil he) (by decide) (by decide) he hpl) fun σ H Q h => by
    obtain ⟨ad, xs, env, μ, sr, w, p⟩ := h
    refine ⟨ad, xs, env, μ, sr, w, p.bind.mono fun d H1 ad1 μ1 e1 w1 q v r => ?_⟩
    dsimp only at q
    cases hl : lenD μ1 d with
    | none => rw [hl] at q; exact q.elim
    | some n =>
      rw [hl] at q
      obtain ⟨a, vs, rfl, h1, h2⟩ := lenD_rep w1 r hl
      exact ⟨a, vs, rfl, .inl h1, by rw [h2]; exact q.ok w1 _ (.int _)⟩

/-- a tuple of ints, as an object -/
def isTupI (o : Obj) (is : List Int) : Bool := (o.cls == .type "tuple") && match o.data with
  | .seq its _ => match its.toList, is with
    | [.int a _, .int b _], [c, d] => a == c && b == d
    | _, _ => false
  | _ => false
theorem ck_tupI {K : PySem.W.Frag} {mg : Str → Option Value} {x : Str} {g : Addr} {o : Obj} {a b : Int} (hm : mg x = some (.ref g)) (hl : K.lookup g = some o) (hi : isTupI o [a, b] = true) : CK K mg x (.tuple [.int a, .int b]) := by
  unfold isTupI at hi
  rw [Bool.and_eq_true] at hi
  obtain ⟨h1, h2⟩ := hi
  cases hd : o.data with
  | seq its n =>
    rw [hd] at h2
    dsimp only at h2
    split at h2
    · rename_i a' t b' t' c d e1 e2
      cases e2
      simp only [Bool.and_eq_true, beq_iff_eq] at h2
      obtain ⟨rfl, rfl⟩ := h2
      refine ⟨.ref g, _, hm, rfl, fun H => .tup (.inr ⟨o, its, n, hl, by simpa using h1, hd, ?_, ?_⟩) (.cons (.int a') (.cons (.int b') .nil))⟩
      · have : its.size = 2 := by rw [← Array.length_toList, e1]; rfl
        rw [this]
        decide
      · rw [e1]
        exact .cons ⟨t, rfl⟩ (.cons ⟨t', rfl⟩ .nil)
    · cases h2
  | _ => rw [hd] at h2; cases h2

/-! ### the end of a law -/
/-- the law's def, called at the script: the heap H tells the script alone -/
theorem call_at {P : Program} {w : World} {K : PySem.W.Frag} {mg mb : Str → Option Value} {k : Nat} {fa a : Addr} {fd : FuncData} {x : Str} {sp : Sq} {s1 : Shared} {us : List Value} {H : Hp}
    (kin : K.In s1.heap) (hg : s1.heap.Ns mainGlobals mg) (hb : s1.heap.Ns builtinsNs mb) (hbb : ∀ y : Str, y ≠ "__name__" → mb y = bootBuiltins y) (hlim : s1.heap.NoLimit) (hgen : s1.gens = #[])
    (ha : s1.heap.get? a = some { cls := .type "list", data := .seq us.toArray }) (hr : Rm k callerA) (F : ∀ base : Heap, K.In base → base.Ns mainGlobals mg → FK P w K mg base k fa fd [x] sp)
    (bd : ∀ (s : Shared) (u : Value), BindsTo s fd ⟨[u], []⟩ [(x, u)]) (hsp : sp [.ref a] H fun v _ => v = .bl true)
    (ok : HOk P w H s1.heap) (only : Only H) (alone : ∀ b, H b ≠ none → b = a) (apart : H a ≠ none → K.lookup a = none) :
    codeAny (model P w) callerA (.call (.ref fa) ⟨[.ref a], []⟩) (fun r s' => r = .ok (.ret (.bool true)) ∧ OldK s1.heap s'.heap ∧ s'.os = s1.os ∧ AllBare s'.gens) s1 := by
  have plain : ∀ {b : Addr}, b ≠ a → H b = none := fun {b} hne => Classical.byContradiction fun z => hne (alone b z)
  have notDict : ∀ {b : Addr} {o : Obj} {es : Array DictEntry} {ep : Nat}, s1.heap.get? b = some o → o.data = .dict es ep → H b = none := by
    intro b o es ep e d
    by_cases z : b = a
    · rw [z, ha] at e
      cases e
      cases (show Data.seq us.toArray _ = Data.dict es ep from d)
    · exact plain z
  have ns2 : ∀ {b : Addr} {m : Str → Option Value}, s1.heap.Ns b m → (hidT s1.heap H).Ns b m := by
    rintro b m ⟨o, es, ep, e, d, r⟩
    exact ⟨o, es, ep, hidT_get e (notDict e d), d, r⟩
  have kin2 : K.In (hidT s1.heap H) := by
    intro b o e
    refine hidT_get (kin b o e) ?_
    by_cases z : b = a
    · refine Classical.byContradiction fun q => ?_
      subst z
      rw [apart q] at e
      cases e
    · exact plain z
  obtain ⟨mc, l1, l2⟩ := hlim
  have md : Mod K mg (hidT s1.heap H) := ⟨kin2, ns2 hg, ⟨mb, ns2 hb, hbb⟩, ⟨mc, ns2 l1, l2⟩⟩
  have e0 : Env0 P w K mg (hidT s1.heap H) callerA [] s1 H := by
    refine ⟨rfl, md, fun b o e => of_hidT e, Nat.le_of_eq (hidT_size _ _), trivial, fun b z => ?_, ok, .of_eq hgen⟩
    exact absurd (show b ∈ ([] : List Addr) from z) (by simp)
  refine codeAny_mono ((F _ kin2 (ns2 hg)).run callerA [] s1 H ⟨[.ref a], []⟩ [.ref a] [.ref a] _ hr e0 (bd s1 (.ref a)) (.cons rfl .nil) hsp) fun r s' h => ?_
  match r, h with
  | .ok (.ret u), ⟨v, H', os, bare, un, ok', rv, qv⟩ =>
    cases (show v = V.bl true from qv)
    cases (show u = Value.bool true from rv)
    refine ⟨rfl, OldK.of_keep fun b o e => ?_, os, bare⟩
    cases z : H b with
    | none => exact un.keep b o e z (fun y => absurd (show b ∈ ([] : List Addr) from y) (by simp)) (by simp)
    | some t =>
      rcases only b with y | ⟨ob, xs, y⟩
      · rw [z] at y
        cases y
      · obtain ⟨g1, _⟩ := ok b _ y
        obtain ⟨g2, _⟩ := ok' b _ (un.frzs b ob _ y)
        rw [e] at g1
        cases g1
        exact g2
/-- a law's def by value: what is left when the head is done -/
theorem walk_val {l : PySem.W.OpenLaw} {n k : Nat} {q : Program} {loose : List Str} {XP : (Str → Option Value) → Heap → Prop} {YP : World → Heap → Prop} {d : DefRec} {Kf : Params → PySem.W.Frag} {G : FnS} {x : Str}
    (hn : l.most = some n) (hn2 : n ≤ sizeLine) (hdf : d.params.defaults = []) (hr : Rm k callerA) (hY : ∀ (w : World) (h : Heap), YP w h → (Kf w.params).In h)
    (F : ∀ (w : World) (mg : Str → Option Value) (fa : Addr) (h : Heap), (Kf w.params).In h → h.Ns mainGlobals mg → mg d.name = some (.ref fa) →
      ∃ fd : FuncData, (∀ (s : Shared) (u : Value), BindsTo s fd ⟨[u], []⟩ [(x, u)]) ∧ ∀ base : Heap, (Kf w.params).In base → base.Ns mainGlobals mg → FK l.prog w (Kf w.params) mg base k fa fd [x] (spS (Kf w.params) 1 G))
    (hG : ∀ ns : List Int, ns.length ≤ n → (∀ z ∈ ns, Builtin.Int.intBits z ≤ 1048576) → ∃ μ, G [.scr ns] [] = .ok (.pd (.bool true), μ)) :
    PySem.W.WalkO q loose XP YP l.row.toRowW d [] (fun f vs => PySem.call f vs) := by
  refine Att.attach_callB hn hdf fun w s0 s1 mg mb fa o pm cd doc a us ns Gr Y ho hd hcd hmg hobj hints hlen hbits hg => ?_
  have kin := hY w _ Y
  obtain ⟨fd, hb, hF⟩ := F w mg fa _ kin Gr.T.g hmg
  obtain ⟨μf, hval⟩ := hG ns hlen hbits
  have vs := vals_ints hints
  have lv := hints.length
  have wish : ∀ H : Hp, SqL (Kf w.params) H a (ns.map V.int) → spS (Kf w.params) 1 G [.ref a] H fun v _ => v = .bl true := by
    intro H hS
    have eI : Im H [] [] = H := by
      funext b
      simp [Im]
    refine ⟨[], [], [], [.scr ns], rfl, ⟨rfl, by simp, fun b hb => by simp at hb, fun l b c e => by simp at e⟩, .cons ⟨a, rfl, by rw [eI]; exact hS⟩ .nil, ?_⟩
    rw [hval]
    intro H' ad' _ _ v rv
    cases rv
    rfl
  by_cases z : (Kf w.params).lookup a = none
  · have hH : ∀ b u, (if b = a then some (HO.frz { cls := .type "list", data := .seq us.toArray } (.lst (ns.map V.int))) else none) = some u → b = a ∧ u = HO.frz { cls := .type "list", data := .seq us.toArray } (.lst (ns.map V.int)) := by
      intro b u e
      split at e
      · cases e
        exact ⟨by assumption, rfl⟩
      · cases e
    refine call_at kin Gr.T.g Gr.T.b Gr.T.builtins Gr.T.nolimit hg hobj hr hF hb (H := fun b => if b = a then some (HO.frz { cls := .type "list", data := .seq us.toArray } (.lst (ns.map V.int))) else none)
      (wish _ (.inl (.inr ⟨_, if_pos rfl⟩))) (fun b u e => ?_) (fun b => ?_) (fun b e => ?_) fun _ => z
    · obtain ⟨rfl, rfl⟩ := hH b u e
      exact ⟨hobj, by rw [List.length_map]; exact Nat.le_trans hlen hn2, us, _, vs, hobj⟩
    · by_cases y : b = a
      · exact .inr ⟨_, _, if_pos y⟩
      · exact .inl (if_neg y)
    · by_cases y : b = a
      · exact y
      · exact absurd (if_neg y) e
  · obtain ⟨ob, hob⟩ := Option.ne_none_iff_exists'.mp z
    have e := kin a ob hob
    rw [hobj] at e
    cases e
    have eN : ∀ b u, (fun _ => none : Hp) b = some u → False := fun b u e => by cases e
    exact call_at kin Gr.T.g Gr.T.b Gr.T.builtins Gr.T.nolimit hg hobj hr hF hb (H := fun _ => none) (wish _ (.inr ⟨_, us.toArray, _, hob, rfl, rfl, rfl, by rw [List.size_toArray, lv]; exact Nat.le_trans hlen hn2, by simpa using vs⟩))
      (fun b u e => (eN b u e).elim) (fun _ => .inl rfl) (fun b e => absurd rfl e) fun e => absurd rfl e
end Zd

set_option Elab.async false
set_option linter.all false
set_option maxRecDepth 100000
set_option maxHeartbeats 4000000
/-! What the readings by value evaluate to: rules for simp. -/
namespace Zd
open PySem PySem.Spec PyProof.Rows L2
section
variable {env : Env} {μ : Store} {a b c : EvE} {s t : EvS} {ta tb : EvT} {ea : EvA}
@[simp] theorem v_var (i : Nat) {d : D} (h : env[i]? = some (some d)) : eVar i env μ = .ok (d, μ) := by simp [eVar, h]
@[simp] theorem v_C (d : PyData) : eC d env μ = .ok (.pd d, μ) := rfl
@[simp] theorem v_op2 (f : F2) : eOp2 f a b env μ = (a env μ).bind fun p => (b env p.2).bind fun q => match deref q.2 p.1, deref q.2 q.1 with
  | some x, some y => match f x y with
    | some z => .ok (.pd z, q.2)
    | none => .stuck
  | _, _ => .stuck := rfl
@[simp] theorem v_new2 (f : G2) : eNew2 f a b env μ = (a env μ).bind fun p => (b env p.2).bind fun q => match deref q.2 p.1, deref q.2 q.1 with
  | some x, some y => match f x y with
    | some z => .ok (z, q.2)
    | none => .stuck
  | _, _ => .stuck := rfl
@[simp] theorem v_tst : eTst a env μ = (a env μ).bind fun p => match p.1 with
  | .pd (.bool k) => .ok (k, p.2)
  | _ => .stuck := rfl
@[simp] theorem v_frz (f : EvF) : eFrz f env μ = (f env μ).bind fun p => .ok (.pd (.list p.1), p.2) := rfl
@[simp] theorem v_own (f : EvF) : eOwn f env μ = (f env μ).bind fun p => .ok (.ref p.2.length, p.2 ++ [.lst p.1]) := rfl
@[simp] theorem v_isN : eIsN a env μ = (a env μ).bind fun p => match p.1 with
  | .pd d => .ok (.pd (.bool (isNoneB d)), p.2)
  | _ => .ok (.pd (.bool false), p.2) := rfl
@[simp] theorem v_notN : eNotN a env μ = (a env μ).bind fun p => match p.1 with
  | .pd d => .ok (.pd (.bool (!isNoneB d)), p.2)
  | _ => .ok (.pd (.bool true), p.2) := rfl
@[simp] theorem v_andT : eAndT ta tb env μ = (ta env μ).bind fun p => if p.1 = true then tb env p.2 else .ok (false, p.2) := rfl
@[simp] theorem v_orT : eOrT ta tb env μ = (ta env μ).bind fun p => if p.1 = true then .ok (true, p.2) else tb env p.2 := rfl
@[simp] theorem v_notT : eNotT ta env μ = (ta env μ).bind fun p => .ok (!p.1, p.2) := rfl
@[simp] theorem v_ofT : eOfT ta env μ = (ta env μ).bind fun p => .ok (.pd (.bool p.1), p.2) := rfl
@[simp] theorem v_if : eIf ta a b env μ = (ta env μ).bind fun p => if p.1 = true then a env p.2 else b env p.2 := rfl
@[simp] theorem v_andV : eAndV a b env μ = (a env μ).bind fun p => match p.1 with
  | .pd (.bool k) => if k = true then b env p.2 else .ok (.pd (.bool false), p.2)
  | _ => .stuck := rfl
@[simp] theorem v_orV : eOrV a b env μ = (a env μ).bind fun p => match p.1 with
  | .pd (.bool k) => if k = true then .ok (.pd (.bool true), p.2) else b env p.2
  | _ => .stuck := rfl
@[simp] theorem v_notV : eNotV a env μ = (a env μ).bind fun p => match p.1 with
  | .pd (.bool k) => .ok (.pd (.bool (!k)), p.2)
  | _ => .stuck := rfl
@[simp] theorem v_neg : eNeg a env μ = (a env μ).bind fun p => match p.1 with
  | .pd (.int i) => .ok (.pd (.int (-i)), p.2)
  | _ => .stuck := rfl
@[simp] theorem v_anil : aNil env μ = .ok ([], μ) := rfl
@[simp] theorem v_acons : aCons a ea env μ = (a env μ).bind fun p => (ea env p.2).bind fun q => .ok (p.1 :: q.1, q.2) := rfl
@[simp] theorem v_tup : eTup ea env μ = (ea env μ).bind fun p => match pdAll p.1 with
  | some ps => if ps.length ≤ sizeLine then .ok (.pd (.tuple ps), p.2) else .stuck
  | none => .stuck := rfl
@[simp] theorem v_lst : eLst ea env μ = (ea env μ).bind fun p => match pdAll p.1 with
  | some ps => if ps.length ≤ sizeLine then .ok (ps, p.2) else .stuck
  | none => .stuck := rfl
@[simp] theorem v_call (f : FN) : eCall f ea env μ = (ea env μ).bind fun p => match derefs p.2 p.1 with
  | some ps => match f ps with
    | some z => .ok (.pd z, p.2)
    | none => .stuck
  | none => .stuck := rfl
@[simp] theorem v_callN (f : GN) : eCallN f ea env μ = (ea env μ).bind fun p => match derefs p.2 p.1 with
  | some ps => match f ps with
    | some z => .ok (z, p.2)
    | none => .stuck
  | none => .stuck := rfl
@[simp] theorem v_callP (F : FnP) : eCallP F ea env μ = (ea env μ).bind fun p => match derefs p.2 p.1 with
  | some ps => match F ps with
    | .ok r => if (p.1.all isVal || noL r) = true then .ok (.pd r, p.2) else .stuck
    | _ => .stuck
  | none => .stuck := rfl
@[simp] theorem v_callS (G : FnS) : eCallS G ea env μ = (ea env μ).bind fun p => G p.1 p.2 := rfl
@[simp] theorem v_ix : eIx a b env μ = (a env μ).bind fun p => (b env p.2).bind fun q =>
  match p.1, asI q.1 with
  | .ref l, some i => match q.2[l]? with
    | some (.lst ds) => match atI ds i with
      | some z => .ok (.pd z, q.2)
      | none => .stuck
    | some (.lls ls) => match atI ls i with
      | some k => .ok (.ref k, q.2)
      | none => .stuck
    | _ => .stuck
  | .pd d, some i => match fIx d (.int i) with
    | some z => .ok (.pd z, q.2)
    | none => .stuck
  | _, _ => .stuck := rfl
@[simp] theorem v_oN : oNone env μ = .ok (none, μ) := rfl
@[simp] theorem v_oS : oSome a env μ = (a env μ).bind fun p => match asI p.1 with
  | some i => .ok (some i, p.2)
  | none => .stuck := rfl
@[simp] theorem v_nil : sNil env μ = .ok ((.nx, env), μ) := rfl
@[simp] theorem v_cons : sCons s t env μ = (s env μ).bind fun p => match p.1.1 with
  | .nx => t p.1.2 p.2
  | f => .ok ((f, p.1.2), p.2) := rfl
@[simp] theorem v_forget (vs : List Nat) : sForget vs s env μ = (s env μ).bind fun p => .ok ((p.1.1, wipeE p.1.2 vs), p.2) := rfl
@[simp] theorem v_exp : sExp a env μ = (a env μ).bind fun p => .ok ((.nx, env), p.2) := rfl
@[simp] theorem v_ret : sRet a env μ = (a env μ).bind fun p => .ok ((.rt p.1, env), p.2) := rfl
@[simp] theorem v_retN : sRetN env μ = .ok ((.rt (.pd .none), env), μ) := rfl
@[simp] theorem v_brk : sBrk env μ = .ok ((.bk, env), μ) := rfl
@[simp] theorem v_cnt : sCnt env μ = .ok ((.ct, env), μ) := rfl
@[simp] theorem v_sif : sIf ta s t env μ = (ta env μ).bind fun p => if p.1 = true then s env p.2 else t env p.2 := rfl
@[simp] theorem v_set (T : Tg) : sSet T a env μ = (a env μ).bind fun p => match bindT T p.1 env with
  | some env' => .ok ((.nx, env'), p.2)
  | none => .stuck := rfl
@[simp] theorem v_par (Ts : List Tg) : sPar Ts ea env μ = (ea env μ).bind fun p => match bindTs Ts p.1 env with
  | some env' => .ok ((.nx, env'), p.2)
  | none => .stuck := rfl
@[simp] theorem v_setIx : sSetIx a b c env μ = (c env μ).bind fun p => (a env p.2).bind fun q => (b env q.2).bind fun r =>
  match p.1, q.1, asI r.1 with
  | .pd d, .ref l, some i => match r.2[l]? with
    | some (.lst ds) => match ixN ds.length i with
      | some j => .ok ((.nx, env), r.2.set l (.lst (ds.set j d)))
      | none => .stuck
    | _ => .stuck
  | _, _, _ => .stuck := rfl
@[simp] theorem v_asI (i : Int) : asI (.pd (.int i)) = some i := rfl
@[simp] theorem v_derefs0 : derefs μ [] = some [] := rfl
@[simp] theorem v_derefs1 (p : PyData) (r : List D) : derefs μ (.pd p :: r) = (derefs μ r).map (p :: ·) := rfl
@[simp] theorem v_isVal (p : PyData) : isVal (.pd p) = true := rfl
@[simp] theorem v_isValS (ns : List Int) : isVal (.scr ns) = true := rfl
@[simp] theorem v_isValR (l : Nat) : isVal (.ref l) = false := rfl
@[simp] theorem v_addI (i j : Int) : fAdd (.int i) (.int j) = some (.int (i + j)) := rfl
@[simp] theorem v_subI (i j : Int) : fSub (.int i) (.int j) = some (.int (i - j)) := rfl
@[simp] theorem v_mulI (i j : Int) : fMulI (.int i) (.int j) = if CMulW i j then some (.int (i * j)) else none := rfl
@[simp] theorem v_divI (i j : Int) : fDivZ (.int i) (.int j) = if CDivZ i j then some (.int (i.fdiv j)) else none := rfl
@[simp] theorem v_modI (i j : Int) : fModZ (.int i) (.int j) = if j ≠ 0 then some (.int (i.fmod j)) else none := rfl
@[simp] theorem v_lt (i j : Int) : fLt (.int i) (.int j) = some (.bool (decide (i < j))) := rfl
@[simp] theorem v_le (i j : Int) : fLe (.int i) (.int j) = some (.bool (decide (i ≤ j))) := rfl
@[simp] theorem v_gt (i j : Int) : fGt (.int i) (.int j) = some (.bool (decide (j < i))) := rfl
@[simp] theorem v_ge (i j : Int) : fGe (.int i) (.int j) = some (.bool (decide (j ≤ i))) := rfl
@[simp] theorem v_gcd (i j : Int) : fGcd [.int i, .int j] = some (.int ((Nat.gcd i.natAbs j.natAbs : Nat) : Int)) := rfl
@[simp] theorem v_abs (i : Int) : fAbs [.int i] = some (.int (if i < 0 then -i else i)) := rfl
@[simp] theorem v_int (i : Int) : fInt [.int i] = some (.int i) := rfl
@[simp] theorem v_intB (b : Bool) : fInt [.bool b] = some (.int (if b then 1 else 0)) := rfl
@[simp] theorem v_lenL (ds : List PyData) : fLen [.list ds] = some (.int ds.length) := rfl
@[simp] theorem v_lenT (ds : List PyData) : fLen [.tuple ds] = some (.int ds.length) := rfl
@[simp] theorem v_tupL (ds : List PyData) : fTuple [.list ds] = some (.tuple ds) := rfl
@[simp] theorem v_tupT (ds : List PyData) : fTuple [.tuple ds] = some (.tuple ds) := rfl
@[simp] theorem v_listL (ds : List PyData) : gList [.list ds] = some ds := rfl
@[simp] theorem v_listT (ds : List PyData) : gList [.tuple ds] = some ds := rfl
@[simp] theorem v_addL (xs ys : List PyData) : gAdd (.list xs) (.list ys) = if xs.length + ys.length ≤ sizeLine then some (xs ++ ys) else none := rfl
@[simp] theorem v_ixL (ds : List PyData) (i : Int) : fIx (.list ds) (.int i) = atI ds i := rfl
@[simp] theorem v_ixT (ds : List PyData) (i : Int) : fIx (.tuple ds) (.int i) = atI ds i := rfl
@[simp] theorem v_eqI (i j : Int) : fEq (.int i) (.int j) = some (.bool (decide (i = j))) := by
  simp [fEq, fEqS, fEqD, SeqAt.shaped, PyData.eqv, PyData.canLay0, PyData.depth]; rfl
@[simp] theorem v_neI (i j : Int) : fNe (.int i) (.int j) = some (.bool (!decide (i = j))) := by
  simp [fNe, fNeS, fNeD, SeqAt.shaped, PyData.eqv, PyData.canLay0, PyData.depth]; rfl
theorem at_nat {α : Type} {ds : List α} (j : Nat) : atI ds (j : Int) = ds[j]? := by
  unfold atI
  by_cases h : j < ds.length
  · rw [show ixN ds.length (j : Int) = some j from by unfold ixN; rw [if_pos (by omega), if_pos (by omega)]; simp]
    rfl
  · rw [show ixN ds.length (j : Int) = none from by unfold ixN; rw [if_pos (by omega), if_neg (by omega)]]
    rw [List.getElem?_eq_none (by omega)]
    rfl
@[simp] theorem at_0 {α : Type} (d : α) (r : List α) : atI (d :: r) 0 = some d := at_nat (ds := d :: r) 0
@[simp] theorem at_1 {α : Type} (d e : α) (r : List α) : atI (d :: e :: r) 1 = some e := at_nat (ds := d :: e :: r) 1
@[simp] theorem at_2 {α : Type} (d e f : α) (r : List α) : atI (d :: e :: f :: r) 2 = some f := at_nat (ds := d :: e :: f :: r) 2
theorem at_last {α : Type} {ds : List α} (h : ds ≠ []) : atI ds (-1) = some (ds.getLast h) := by
  unfold atI ixN
  have hl : 0 < ds.length := List.length_pos_iff.mpr h
  rw [if_neg (by decide), if_pos (by omega)]
  have e : ((-1 : Int) + ds.length).toNat = ds.length - 1 := by omega
  show ds[((-1 : Int) + ds.length).toNat]? = _
  rw [e, List.getElem?_eq_getElem (by omega), List.getLast_eq_getElem]
theorem sizeLine_ge {n : Nat} (h : n ≤ 1000) : n ≤ sizeLine := Nat.le_of_lt (small1000 h)
@[simp] theorem startE_def (m : Nat) (ds : List D) : startE m ds = ds.map some ++ List.replicate (m - ds.length) none := rfl
end

/-! ### loops -/
theorem whileN_more {t : EvT} {b : EvS} : ∀ {n : Nat} {env : Env} {μ : Store} (k : Nat), whileN t b n env μ ≠ .stuck → whileN t b (n + k) env μ = whileN t b n env μ
  | 0, _, _, _, h => absurd rfl h
  | n + 1, env, μ, k, h => by
    rw [show n + 1 + k = (n + k) + 1 from by omega]
    unfold whileN at h ⊢
    cases ht : t env μ with
    | ok p =>
      rw [ht] at h
      simp only [Out.ok_bind] at h ⊢
      by_cases hp : p.1 = true
      · rw [if_pos hp] at h ⊢
        rw [if_pos hp]
        cases hb : b env p.2 with
        | ok q =>
          rw [hb] at h
          simp only [Out.ok_bind] at h ⊢
          cases hq : q.1.1 with
          | nx => rw [hq] at h; exact whileN_more k h
          | ct => rw [hq] at h; exact whileN_more k h
          | bk => rfl
          | rt d => rfl
        | exc c fs μ' => rfl
        | stuck => rfl
      · rw [if_neg hp]
        rw [if_neg hp]
    | exc c fs μ' => rfl
    | stuck => rfl
theorem sWhile_eq {t : EvT} {b : EvS} {n : Nat} {env : Env} {μ : Store} {o : Out ((Fl × Env) × Store)} (h : whileN t b n env μ = o) (ho : o ≠ .stuck) : sWhile t b env μ = o := by
  have hx : ∃ n, whileN t b n env μ ≠ .stuck := ⟨n, by rw [h]; exact ho⟩
  unfold sWhile
  rw [dif_pos hx]
  have hc := hx.choose_spec
  rcases Nat.le_total n hx.choose with hl | hl
  · obtain ⟨k, e⟩ := Nat.exists_eq_add_of_le hl
    rw [e, whileN_more k (by rw [h]; exact ho), h]
  · obtain ⟨k, e⟩ := Nat.exists_eq_add_of_le hl
    have := whileN_more k hc
    rw [← e, h] at this
    exact this.symm
/-- a while loop by what holds ahead of each turn, m turns being left at most -/
theorem while_rel {t : EvT} {b : EvS} (P : Nat → Env → Store → Prop) (R : Env → Store → Prop)
    (step : ∀ m env μ, P m env μ → (∃ μ1, t env μ = .ok (false, μ1) ∧ R env μ1) ∨ ∃ μ1 env2 μ2 m', t env μ = .ok (true, μ1) ∧ (b env μ1 = .ok ((.nx, env2), μ2) ∨ b env μ1 = .ok ((.ct, env2), μ2)) ∧ m' < m ∧ P m' env2 μ2) :
    ∀ m env μ, P m env μ → ∃ env' μ', sWhile t b env μ = .ok ((.nx, env'), μ') ∧ R env' μ' := by
  have key : ∀ m env μ, P m env μ → ∃ env' μ', whileN t b (m + 1) env μ = .ok ((.nx, env'), μ') ∧ R env' μ' := by
    intro m
    induction m using Nat.strongRecOn with
    | _ m ih =>
      intro env μ h
      rcases step m env μ h with ⟨μ1, h1, h2⟩ | ⟨μ1, env2, μ2, m', h1, h2, h3, h4⟩
      · refine ⟨env, μ1, ?_, h2⟩
        unfold whileN
        rw [h1]
        simp
      · obtain ⟨env', μ', h5, h6⟩ := ih m' h3 env2 μ2 h4
        refine ⟨env', μ', ?_, h6⟩
        have h7 : whileN t b m env2 μ2 = .ok ((.nx, env'), μ') := by
          obtain ⟨k, e⟩ := Nat.exists_eq_add_of_le (show m' + 1 ≤ m from h3)
          rw [e, whileN_more k (by rw [h5]; exact fun z => by cases z), h5]
        unfold whileN
        rw [h1]
        simp only [Out.ok_bind, if_true]
        rcases h2 with h2 | h2
        · rw [h2]
          simpa using h7
        · rw [h2]
          simpa using h7
  intro m env μ h
  obtain ⟨env', μ', h1, h2⟩ := key m env μ h
  exact ⟨env', μ', sWhile_eq h1 (fun z => by cases z), h2⟩
/-- a for loop by what holds ahead of each turn -/
theorem loop_rel {g : List (Nat × Cell)} {T : Tg} {b : EvS} (P : Nat → Env → Store → Prop) :
    ∀ (items : List D) (i : Nat) (env : Env) (μ : Store), P i env μ → (∀ j env μ, P j env μ → Held g μ) →
      (∀ j d env μ, items[j]? = some d → P (i + j) env μ → ∃ env1 env2 μ2, bindT T d env = some env1 ∧ (b env1 μ = .ok ((.nx, env2), μ2) ∨ b env1 μ = .ok ((.ct, env2), μ2)) ∧ P (i + j + 1) env2 μ2) →
      ∃ env' μ', loopD g T b items env μ = .ok ((.nx, env'), μ') ∧ P (i + items.length) env' μ'
  | [], i, env, μ, h, hh, _ => ⟨env, μ, by unfold loopD; rw [if_pos (hh _ _ _ h)], by simpa using h⟩
  | d :: ds, i, env, μ, h, hh, step => by
    obtain ⟨env1, env2, μ2, h1, h2, h3⟩ := step 0 d env μ rfl h
    obtain ⟨env', μ', h4, h5⟩ := loop_rel P ds (i + 1) env2 μ2 h3 hh fun j d' env μ hj hp => by
      obtain ⟨e1, e2, m2, k1, k2, k3⟩ := step (j + 1) d' env μ (by simpa using hj) (by rw [show i + (j + 1) = i + 1 + j from by omega]; exact hp)
      exact ⟨e1, e2, m2, k1, k2, by rw [show i + 1 + j + 1 = i + (j + 1) + 1 from by omega]; exact k3⟩
    refine ⟨env', μ', ?_, by rw [List.length_cons, show i + (ds.length + 1) = i + 1 + ds.length from by omega]; exact h5⟩
    unfold loopD
    rw [if_pos (hh _ _ _ h), h1]
    rcases h2 with h2 | h2
    · simp [h2, h4]
    · simp [h2, h4]
theorem held_nil {μ : Store} : Held [] μ := fun q hq => by simp at hq
/-- .. from the start -/
theorem for_rel {T : Tg} {b : EvS} {ei : EvI} {env : Env} {μ μ1 : Store} {items : List D} {g : List (Nat × Cell)} (P : Nat → Env → Store → Prop) (hi : ei env μ = .ok ((items, g), μ1)) (h0 : P 0 env μ1) (hh : ∀ j env μ, P j env μ → Held g μ)
    (step : ∀ j d env μ, items[j]? = some d → P j env μ → ∃ env1 env2 μ2, bindT T d env = some env1 ∧ (b env1 μ = .ok ((.nx, env2), μ2) ∨ b env1 μ = .ok ((.ct, env2), μ2)) ∧ P (j + 1) env2 μ2) :
    ∃ env' μ', sFor T ei b env μ = .ok ((.nx, env'), μ') ∧ P items.length env' μ' := by
  obtain ⟨env', μ', h1, h2⟩ := loop_rel P items 0 env μ1 h0 hh (fun j d env μ hj hp => by
    rw [Nat.zero_add] at hp ⊢
    exact step j d env μ hj hp)
  refine ⟨env', μ', ?_, by simpa using h2⟩
  unfold sFor
  rw [hi]
  exact h1
/-- a comprehension over data whose elements are told one by one, the store kept -/
theorem comp_map {g : List (Nat × Cell)} {T : Tg} {tst : EvT} {elt : EvE} {env : Env} {μ : Store} (f : D → Option D) (hh : Held g μ) :
    ∀ (items : List D), (∀ d ∈ items, ∃ env1, bindT T d env = some env1 ∧ match f d with
      | some x => tst env1 μ = .ok (true, μ) ∧ elt env1 μ = .ok (x, μ)
      | none => tst env1 μ = .ok (false, μ)) → compD g T tst elt env items μ = .ok (items.filterMap f, μ)
  | [], _ => by unfold compD; rw [if_pos hh]; rfl
  | d :: ds, h => by
    obtain ⟨env1, h1, h2⟩ := h d (by simp)
    have ih := comp_map f hh ds fun d' hd' => h d' (by simp [hd'])
    unfold compD
    rw [if_pos hh, h1]
    cases hf : f d with
    | none =>
      rw [hf] at h2
      simp [h2, ih, hf]
    | some x =>
      rw [hf] at h2
      simp [h2.1, h2.2, ih, hf]
/-- .. the store carried along -/
theorem comp_rel {g : List (Nat × Cell)} {T : Tg} {tst : EvT} {elt : EvE} {env : Env} (P : Nat → List D → Store → Prop) :
    ∀ (items : List D) (i : Nat) (acc : List D) (μ : Store), P i acc μ → (∀ j a μ, P j a μ → Held g μ) →
      (∀ j d a μ, items[j]? = some d → P (i + j) a μ → ∃ env1 μ1, bindT T d env = some env1 ∧ ((∃ x μ2, tst env1 μ = .ok (true, μ1) ∧ elt env1 μ1 = .ok (x, μ2) ∧ P (i + j + 1) (a ++ [x]) μ2) ∨ (tst env1 μ = .ok (false, μ1) ∧ P (i + j + 1) a μ1))) →
      ∃ r μ', compD g T tst elt env items μ = .ok (r, μ') ∧ P (i + items.length) (acc ++ r) μ'
  | [], i, acc, μ, h, hh, _ => ⟨[], μ, by unfold compD; rw [if_pos (hh _ _ _ h)], by simpa using h⟩
  | d :: ds, i, acc, μ, h, hh, step => by
    obtain ⟨env1, μ1, h1, h2⟩ := step 0 d acc μ rfl h
    have rest : ∀ acc' μ', P (i + 1) acc' μ' → ∃ r μ'', compD g T tst elt env ds μ' = .ok (r, μ'') ∧ P (i + 1 + ds.length) (acc' ++ r) μ'' := fun acc' μ' hp =>
      comp_rel P ds (i + 1) acc' μ' hp hh fun j d' a μ hj hp => by
        obtain ⟨e1, m1, k1, k2⟩ := step (j + 1) d' a μ (by simpa using hj) (by rw [show i + (j + 1) = i + 1 + j from by omega]; exact hp)
        rw [show i + (j + 1) + 1 = i + 1 + j + 1 from by omega] at k2
        exact ⟨e1, m1, k1, k2⟩
    unfold compD
    rw [if_pos (hh _ _ _ h), h1]
    dsimp only
    rw [List.length_cons, show i + (ds.length + 1) = i + 1 + ds.length from by omega]
    rcases h2 with ⟨x, μ2, h2, h3, h4⟩ | ⟨h2, h4⟩
    · obtain ⟨r, μ'', h5, h6⟩ := rest _ _ h4
      exact ⟨x :: r, μ'', by simp [h2, h3, h5], by simpa using h6⟩
    · obtain ⟨r, μ'', h5, h6⟩ := rest _ _ h4
      exact ⟨r, μ'', by simp [h2, h5], h6⟩
theorem lcD_eq {vs : List Nat} {T : Tg} {ei : EvI} {tst : EvT} {elt : EvE} {env : Env} {μ μ1 μ2 : Store} {items r : List D} {g : List (Nat × Cell)} (hi : ei env μ = .ok ((items, g), μ1)) (hl : items.length ≤ sizeLine) (hc : compD g T tst elt (wipeE env vs) items μ1 = .ok (r, μ2)) :
    eLcD vs T ei tst elt env μ = .ok (r, μ2) := by
  unfold eLcD
  rw [hi]
  simp [hl, hc]
@[simp] theorem v_asF (ea : EvA) (env : Env) (μ : Store) : asF ea env μ = (ea env μ).bind fun p => match pdAll p.1 with
  | some ps => .ok (ps, p.2)
  | none => .stuck := rfl
@[simp] theorem v_ownL (ea : EvA) (env : Env) (μ : Store) : eOwnL ea env μ = (ea env μ).bind fun p => match refAll p.1 with
  | some ls => .ok (.ref p.2.length, p.2 ++ [.lls ls])
  | none => .stuck := rfl
@[simp] theorem pdAll_of (ps : List PyData) : pdAll (ps.map .pd) = some ps := by
  induction ps with
  | nil => rfl
  | cons p r ih => simp [ih]
@[simp] theorem refAll_of (ls : List Nat) : refAll (ls.map .ref) = some ls := by
  induction ls with
  | nil => rfl
  | cons l r ih => simp [refAll, ih]

@[simp] theorem pdAll_comp {α : Type} (f : α → PyData) (l : List α) : pdAll (l.map (D.pd ∘ f)) = some (l.map f) := by
  induction l with
  | nil => rfl
  | cons p r ih => simp [ih]
@[simp] theorem pdAll_fun {α : Type} (f : α → PyData) (l : List α) : pdAll (l.map fun x => D.pd (f x)) = some (l.map f) := pdAll_comp f l
/-- a comprehension over a mapped list, each item kept by p -/
theorem comp_filA {α : Type} {g : List (Nat × Cell)} {T : Tg} {tst : EvT} {elt : EvE} {env : Env} {μ : Store} (hh : Held g μ) (s f : α → D) (p : α → Bool) :
    ∀ (l : List α), (∀ x ∈ l, ∃ env1, bindT T (s x) env = some env1 ∧ tst env1 μ = .ok (p x, μ) ∧ (p x = true → elt env1 μ = .ok (f x, μ))) → compD g T tst elt env (l.map s) μ = .ok ((l.filter p).map f, μ)
  | [], _ => by unfold compD; rw [List.map_nil, List.filter_nil]; simp [hh]
  | x :: r, h => by
    obtain ⟨env1, h1, h2, h3⟩ := h x (by simp)
    have ih := comp_filA hh s f p r fun y hy => h y (by simp [hy])
    rw [List.map_cons]
    unfold compD
    rw [if_pos hh, h1]
    cases hp : p x with
    | false =>
      rw [hp] at h2
      simp [h2, ih, hp]
    | true =>
      rw [hp] at h2
      simp [h2, h3 hp, ih, hp]
theorem comp_mapA {α : Type} {g : List (Nat × Cell)} {T : Tg} {elt : EvE} {env : Env} {μ : Store} (hh : Held g μ) (s f : α → D) (l : List α) (h : ∀ x ∈ l, ∃ env1, bindT T (s x) env = some env1 ∧ elt env1 μ = .ok (f x, μ)) :
    compD g T tYesE elt env (l.map s) μ = .ok (l.map f, μ) := by
  have := comp_filA (tst := tYesE) hh s f (fun _ => true) l fun x hx => by
    obtain ⟨env1, h1, h2⟩ := h x hx
    exact ⟨env1, h1, rfl, fun _ => h2⟩
  rw [List.filter_eq_self.mpr (fun _ _ => rfl)] at this
  exact this

@[simp] theorem v_augIx (f : Int → Int → Int) (a b c : EvE) (env : Env) (μ : Store) : sAugIx f a b c env μ = (a env μ).bind fun p => (b env p.2).bind fun q => match p.1, asI q.1 with
  | .ref l, some i => match q.2[l]? with
    | some (.lst ds0) => match atI ds0 i with
      | some (.int k) => if 0 ≤ i then (c env q.2).bind fun r => match asI r.1, r.2[l]? with
        | some j, some (.lst ds) => match ixN ds.length i with
          | some n => .ok ((.nx, env), r.2.set l (.lst (ds.set n (.int (f k j)))))
          | none => .stuck
        | _, _ => .stuck
        else .stuck
      | _ => .stuck
    | _ => .stuck
  | _, _ => .stuck := rfl
@[simp] theorem v_meth (f : FM) (a : EvE) (ea : EvA) (env : Env) (μ : Store) : eMeth f a ea env μ = (a env μ).bind fun p => match p.1 with
  | .ref l => match p.2[l]? with
    | some (.lst _) => (ea env p.2).bind fun q => match q.2[l]?, pdAll q.1 with
      | some (.lst ds), some ps => match f ds ps with
        | some (c, es) => .ok (.pd c, q.2.set l (.lst es))
        | none => .stuck
      | _, _ => .stuck
    | _ => .stuck
  | _ => .stuck := rfl
@[simp] theorem v_slL (a : EvE) (b c : EvO) (env : Env) (μ : Store) : eSlL a b c env μ = (a env μ).bind fun p => (b env p.2).bind fun q => (c env q.2).bind fun r =>
  match p.1 with
  | .scr ns => .ok (Zd.cutD (ns.map .int) q.1 r.1, r.2)
  | _ => match deref r.2 p.1 with
    | some (.list ds) => .ok (Zd.cutD ds q.1 r.1, r.2)
    | _ => .stuck := rfl
@[simp] theorem v_slT (a : EvE) (b c : EvO) (env : Env) (μ : Store) : eSlT a b c env μ = (a env μ).bind fun p => (b env p.2).bind fun q => (c env q.2).bind fun r =>
  match p.1 with
  | .pd (.tuple ds) => .ok (.pd (.tuple (Zd.cutD ds q.1 r.1)), r.2)
  | _ => .stuck := rfl
@[simp] theorem v_append (ds : List PyData) (p : PyData) : mAppend ds [p] = if ds.length < sizeLine then some (.none, ds ++ [p]) else none := rfl
@[simp] theorem v_pop (ds : List PyData) : mPop ds [] = ds.getLast?.map fun d => (d, ds.dropLast) := rfl
@[simp] theorem ixN_0 (n : Nat) : ixN (n + 1) 0 = some 0 := by
  unfold ixN
  rw [if_pos (by decide), if_pos (by omega)]
  rfl
@[simp] theorem ixN_1 (n : Nat) : ixN (n + 1 + 1) 1 = some 1 := by
  unfold ixN
  rw [if_pos (by decide), if_pos (by omega)]
  rfl
@[simp] theorem ixN_2 (n : Nat) : ixN (n + 1 + 1 + 1) 2 = some 2 := by
  unfold ixN
  rw [if_pos (by decide), if_pos (by omega)]
  rfl
@[simp] theorem at_3 {α : Type} (d e f h : α) (r : List α) : atI (d :: e :: f :: h :: r) 3 = some h := at_nat (ds := d :: e :: f :: h :: r) 3
@[simp] theorem dreff (ds : List PyData) (μ : Store) (l : Nat) (h : μ[l]? = some (.lst ds)) : deref μ (.ref l) = some (.list ds) := by simp [deref, h]

section
variable {env : Env} {μ μ1 μ2 : Store} {a b : EvE}
theorem pw62 : (2 : Int) ^ 62 = 4611686018427387904 := by rfl
theorem in62 {n : Nat} (h : n ≤ 1000) : -(2 ^ 62) ≤ (n : Int) ∧ (n : Int) < 2 ^ 62 := by
  rw [pw62]
  omega
theorem rgA {α : Type} {n : Nat} (hn : n ≤ 1000) (a b : α) : (if -(2 ^ 62) ≤ (n : Int) ∧ (n : Int) < 2 ^ 62 then a else b) = a := if_pos (in62 hn)
theorem rgB {α : Type} {m n : Nat} (hm : m ≤ 1000) (hn : n ≤ 1000) (a b : α) : (if -(2 ^ 62) ≤ (m : Int) ∧ (m : Int) < 2 ^ 62 ∧ -(2 ^ 62) ≤ (n : Int) ∧ (n : Int) < 2 ^ 62 then a else b) = a := if_pos ⟨(in62 hm).1, (in62 hm).2, (in62 hn).1, (in62 hn).2⟩
theorem iRg1_at {n : Int} (h : a env μ = .ok (.pd (.int n), μ1)) : iRg1 a env μ = if -(2 ^ 62) ≤ n ∧ n < 2 ^ 62 then .ok (((List.range n.toNat).map fun (k : Nat) => .pd (.int (k : Int)), []), μ1) else .stuck := by
  unfold iRg1
  rw [h]
  rfl
theorem iRg2_at {m n : Int} (h : a env μ = .ok (.pd (.int m), μ1)) (h2 : b env μ1 = .ok (.pd (.int n), μ2)) : iRg2 a b env μ = if -(2 ^ 62) ≤ m ∧ m < 2 ^ 62 ∧ -(2 ^ 62) ≤ n ∧ n < 2 ^ 62 then .ok (((List.range (n - m).toNat).map fun (k : Nat) => .pd (.int (m + (k : Int))), []), μ2) else .stuck := by
  unfold iRg2
  rw [h]
  dsimp only [Out.bind]
  rw [h2]
  rfl
theorem rg1_ok {n : Nat} (h : a env μ = .ok (.pd (.int (n : Int)), μ1)) (hn : n ≤ 1000) : iRg1 a env μ = .ok (((List.range n).map fun (k : Nat) => D.pd (.int (k : Int)), []), μ1) :=
  (iRg1_at h).trans ((rgA hn _ _).trans (by rw [Int.toNat_natCast]))
theorem rg2_ok {m n : Nat} (h : a env μ = .ok (.pd (.int (m : Int)), μ1)) (h2 : b env μ1 = .ok (.pd (.int (n : Int)), μ2)) (hm : m ≤ 1000) (hn : n ≤ 1000) : iRg2 a b env μ = .ok (((List.range (n - m)).map fun (k : Nat) => D.pd (.int ((m + k : Nat) : Int)), []), μ2) :=
  (iRg2_at h h2).trans ((rgB hm hn _ _).trans (by
    have e : ((n : Int) - (m : Int)).toNat = n - m := by omega
    rw [e]
    simp only [Int.natCast_add]))
end
@[simp] theorem v_tget (ed : EvE) (ea : EvA) (env : Env) (μ : Store) : eTGet ed ea env μ = (ed env μ).bind fun p => (ea env p.2).bind fun q => match ditAt q.2 p.1, asKs q.1 with
  | some r, some ks => match lk r.2 ks with
    | some d => if q.1.length ≤ sizeLine then .ok (.pd d, q.2) else .stuck
    | none => .stuck
  | _, _ => .stuck := rfl
@[simp] theorem v_tput (ed ev : EvE) (ea : EvA) (env : Env) (μ : Store) : sTPut ed ea ev env μ = (ev env μ).bind fun p => (ed env p.2).bind fun q => (ea env q.2).bind fun r => match ditAt r.2 q.1, asKs r.1, asPd p.1 with
  | some s, some ks, some d => if s.2.length < sizeLine ∧ r.1.length ≤ sizeLine then .ok ((.nx, env), r.2.set s.1 (.dit (pt s.2 ks d))) else .stuck
  | _, _, _ => .stuck := rfl
@[simp] theorem v_dicT (env : Env) (μ : Store) : eDicT env μ = .ok (.ref μ.length, μ ++ [.dit []]) := rfl
@[simp] theorem v_dicK (env : Env) (μ : Store) : eDicK env μ = .ok (.ref μ.length, μ ++ [.dic []]) := rfl
@[simp] theorem v_asPd (d : PyData) : asPd (.pd d) = some d := rfl
@[simp] theorem v_asKi (i : Int) : asK (.pd (.int i)) = some (.inl i) := rfl
@[simp] theorem v_asKs0 : asKs [] = some [] := rfl
@[simp] theorem v_asKs1 (i : Int) (r : List D) : asKs (.pd (.int i) :: r) = (asKs r).map (.inl i :: ·) := rfl
theorem ditAt_of {μ : Store} {l : Nat} {kvs : List (List Key × PyData)} (h : μ[l]? = some (.dit kvs)) : ditAt μ (.ref l) = some (l, kvs) := by simp [ditAt, h]
theorem dicAt_of {μ : Store} {l : Nat} {kvs : List (Key × PyData)} (h : μ[l]? = some (.dic kvs)) : dicAt μ (.ref l) = some (l, kvs) := by simp [dicAt, h]
section
variable {κ : Type} [DecidableEq κ]
theorem lk_map (k j : κ) (d : PyData) : ∀ kvs : List (κ × PyData), lk (ptR kvs k d) j = if j = k then (if (lk kvs k).isSome = true then some d else none) else lk kvs j
  | [] => by simp [ptR, lk]
  | p :: r => by
    have ih := lk_map k j d r
    unfold ptR at ih ⊢
    simp only [List.map_cons, lk]
    by_cases h : p.1 = k
    · simp only [h, if_true]
      by_cases hj : j = k
      · subst hj
        simp [lk]
      · rw [if_neg (fun z => hj z.symm), ih, if_neg hj, if_neg hj]
        simp [h, Ne.symm hj]
    · simp only [h, if_false]
      by_cases hj : p.1 = j
      · simp only [hj, if_true]
        rw [if_neg (by rw [← hj]; exact h)]
      · simp only [hj, if_false]
        rw [ih]
theorem lk_app (k j : κ) (d : PyData) : ∀ kvs : List (κ × PyData), lk kvs k = none → lk (kvs ++ [(k, d)]) j = if j = k then some d else lk kvs j
  | [], _ => by
    simp only [List.nil_append, lk]
    by_cases h : k = j
    · simp [h]
    · simp [h, Ne.symm h]
  | p :: r, hn => by
    simp only [lk] at hn
    by_cases hp : p.1 = k
    · rw [if_pos hp] at hn; cases hn
    · rw [if_neg hp] at hn
      have ih := lk_app k j d r hn
      simp only [List.cons_append, lk]
      rw [ih]
      by_cases hj : p.1 = j
      · simp only [hj, if_true]
        rw [if_neg (by rw [← hj]; exact hp)]
      · simp only [hj, if_false]
theorem lk_pt (kvs : List (κ × PyData)) (k j : κ) (d : PyData) : lk (pt kvs k d) j = if j = k then some d else lk kvs j := by
  unfold pt
  split
  · rename_i h
    rw [lk_map, h]
    simp
  · rename_i h
    exact lk_app k j d kvs (by simpa using h)
theorem pt_len (kvs : List (κ × PyData)) (k : κ) (d : PyData) : (pt kvs k d).length ≤ kvs.length + 1 := by
  unfold pt ptR
  split <;> simp
end
@[simp] theorem get_app0 (r : Store) (x : Cell) (t : Store) : (r ++ x :: t)[r.length]? = some x := by simp
@[simp] theorem get_app1 (r : Store) (x y : Cell) (t : Store) : (r ++ x :: y :: t)[r.length + 1]? = some y := by
  rw [List.getElem?_append_right (by omega)]
  simp
@[simp] theorem get_app2 (r : Store) (x y z : Cell) (t : Store) : (r ++ x :: y :: z :: t)[r.length + 2]? = some z := by
  rw [List.getElem?_append_right (by omega)]
  simp
@[simp] theorem set_app0 (r : Store) (x z : Cell) (t : Store) : (r ++ x :: t).set r.length z = r ++ z :: t := by
  rw [List.set_append_right _ _ (Nat.le_refl _)]
  simp
@[simp] theorem set_app1 (r : Store) (x y z : Cell) (t : Store) : (r ++ x :: y :: t).set (r.length + 1) z = r ++ x :: z :: t := by
  rw [List.set_append_right _ _ (by omega)]
  simp
@[simp] theorem set_app2 (r : Store) (x y u z : Cell) (t : Store) : (r ++ x :: y :: u :: t).set (r.length + 2) z = r ++ x :: y :: z :: t := by
  rw [List.set_append_right _ _ (by omega)]
  simp

/-! ### running a def -/
theorem seq_nx {a b : EvS} {env env1 : Env} {μ μ1 : Store} (h : a env μ = .ok ((.nx, env1), μ1)) : sCons a b env μ = b env1 μ1 := by
  rw [v_cons, h]
  rfl
theorem seq_rt {a b : EvS} {env env1 : Env} {μ μ1 : Store} {d : D} (h : a env μ = .ok ((.rt d, env1), μ1)) : sCons a b env μ = .ok ((.rt d, env1), μ1) := by
  rw [v_cons, h]
  rfl
theorem fnL_run {n m : Nat} {ev : EvS} {ds : List D} {μ μ' : Store} {env' : Env} {d : D} (h : ev (startE m ds) μ = .ok ((.rt d, env'), μ')) (hl : ds.length = n) : fnL n m ev ds μ = .ok (d, μ') := by
  unfold fnL
  rw [if_pos hl, h]
theorem fnP_run {n m : Nat} {ev : EvS} {ps : List PyData} {μ' : Store} {env' : Env} {d : D} {r : PyData} (h : ev (startE m (ps.map .pd)) [] = .ok ((.rt d, env'), μ')) (hl : ps.length = n) (hf : frz μ' d = some r) : fnP n m ev ps = .ok r := by
  unfold fnP
  rw [if_pos hl, h]
  dsimp only
  rw [hf]

@[simp] theorem v_dget (a b : EvE) (env : Env) (μ : Store) : eDGet a b env μ = (a env μ).bind fun p => (b env p.2).bind fun q => match dFind q.2 p.1 q.1 with
  | some (some d) => .ok (.pd d, q.2)
  | _ => .stuck := rfl
@[simp] theorem v_din (b a : EvE) (env : Env) (μ : Store) : eDIn b a env μ = (b env μ).bind fun q => (a env q.2).bind fun p => match dFind p.2 p.1 q.1 with
  | some o => .ok (.pd (.bool o.isSome), p.2)
  | _ => .stuck := rfl
@[simp] theorem v_dnotin (b a : EvE) (env : Env) (μ : Store) : eDNotIn b a env μ = (b env μ).bind fun q => (a env q.2).bind fun p => match dFind p.2 p.1 q.1 with
  | some o => .ok (.pd (.bool (!o.isSome)), p.2)
  | _ => .stuck := rfl
@[simp] theorem v_dget2 (a b c : EvE) (env : Env) (μ : Store) : eDGet2 a b c env μ = (a env μ).bind fun p => if isDic p.2 p.1 = true then (b env p.2).bind fun q => (c env q.2).bind fun r => match dFind r.2 p.1 q.1 with
  | some (some d) => .ok (.pd d, r.2)
  | some none => .ok (r.1, r.2)
  | _ => .stuck
  else .stuck := rfl
@[simp] theorem v_setd (a b c : EvE) (env : Env) (μ : Store) : eSetd a b c env μ = (a env μ).bind fun p => if isDic p.2 p.1 = true then (b env p.2).bind fun q => (c env q.2).bind fun r => match dFind r.2 p.1 q.1, dPut r.2 p.1 q.1 r.1 with
  | some (some d), some _ => .ok (.pd d, r.2)
  | some none, some μ' => .ok (r.1, μ')
  | _, _ => .stuck
  else .stuck := rfl
@[simp] theorem v_dput (a b c : EvE) (env : Env) (μ : Store) : sDPutE a b c env μ = (c env μ).bind fun p => (a env p.2).bind fun q => (b env q.2).bind fun r => match dPut r.2 q.1 r.1 p.1 with
  | some μ' => .ok ((.nx, env), μ')
  | none => .stuck := rfl
@[simp] theorem v_dF0 (kvs : List (Key × PyData)) (r : Store) (i : Int) : dFind (.dic kvs :: r) (.ref 0) (.pd (.int i)) = some (lk kvs (.inl i)) := rfl
@[simp] theorem v_isD0 (kvs : List (Key × PyData)) (r : Store) : isDic (.dic kvs :: r) (.ref 0) = true := rfl
theorem v_dP0 (kvs : List (Key × PyData)) (r : Store) (i : Int) (d : PyData) (h : kvs.length < sizeLine) : dPut (.dic kvs :: r) (.ref 0) (.pd (.int i)) (.pd d) = some (.dic (pt kvs (.inl i) d) :: r) := by
  simp [dPut, dicAt, h]
@[simp] theorem v_tru (a : EvE) (env : Env) (μ : Store) : eTru a env μ = (a env μ).bind fun p => match truD p.2 p.1 with
  | some b => .ok (b, p.2)
  | none => .stuck := rfl
end Zd

set_option Elab.async false
set_option linter.all false
set_option maxRecDepth 100000
set_option maxHeartbeats 4000000
namespace P55
open PySem PySem.Spec PyProof.Rows L2 Zd
abbrev ZEROd : PyData := .tuple [.int 0, .int 1]
abbrev ONEd : PyData := .tuple [.int 1, .int 1]
noncomputable def ev_fraction : EvS := (sCons (sIf (eTst (eOp2 fEq (eVar 1) (eC (.int 0)))) sStuck sNil) (sCons (sSet (.nm 2) (eIf (eTst (eOp2 fGt (eVar 1) (eC (.int 0)))) (eCall fGcd (aCons (eVar 0) (aCons (eVar 1) aNil))) (eNeg (eCall fGcd (aCons (eVar 0) (aCons (eVar 1) aNil)))))) (sRet (eTup (aCons (eDiv (eVar 0) (eVar 2)) (aCons (eDiv (eVar 1) (eVar 2)) aNil))))))
noncomputable def F_fraction : FnP := fnP 2 3 ev_fraction
noncomputable def ev_plus : EvS := (sRet (eCallP F_fraction (aCons (eAdd (eMul (eIx (eVar 0) (eC (.int 0))) (eIx (eVar 1) (eC (.int 1)))) (eMul (eIx (eVar 1) (eC (.int 0))) (eIx (eVar 0) (eC (.int 1))))) (aCons (eMul (eIx (eVar 0) (eC (.int 1))) (eIx (eVar 1) (eC (.int 1)))) aNil))))
noncomputable def F_plus : FnP := fnP 2 2 ev_plus
noncomputable def ev_less : EvS := (sRet (eCallP F_fraction (aCons (eSub (eMul (eIx (eVar 0) (eC (.int 0))) (eIx (eVar 1) (eC (.int 1)))) (eMul (eIx (eVar 1) (eC (.int 0))) (eIx (eVar 0) (eC (.int 1))))) (aCons (eMul (eIx (eVar 0) (eC (.int 1))) (eIx (eVar 1) (eC (.int 1)))) aNil))))
noncomputable def F_less : FnP := fnP 2 2 ev_less
noncomputable def ev_times : EvS := (sRet (eCallP F_fraction (aCons (eMul (eIx (eVar 0) (eC (.int 0))) (eIx (eVar 1) (eC (.int 0)))) (aCons (eMul (eIx (eVar 0) (eC (.int 1))) (eIx (eVar 1) (eC (.int 1)))) aNil))))
noncomputable def F_times : FnP := fnP 2 2 ev_times
noncomputable def ev_over : EvS := (sRet (eCallP F_fraction (aCons (eMul (eIx (eVar 0) (eC (.int 0))) (eIx (eVar 1) (eC (.int 1)))) (aCons (eMul (eIx (eVar 0) (eC (.int 1))) (eIx (eVar 1) (eC (.int 0)))) aNil))))
noncomputable def F_over : FnP := fnP 2 2 ev_over
noncomputable def ev_compare : EvS := (sCons (sSet (.nm 2) (eSub (eMul (eIx (eVar 0) (eC (.int 0))) (eIx (eVar 1) (eC (.int 1)))) (eMul (eIx (eVar 1) (eC (.int 0))) (eIx (eVar 0) (eC (.int 1)))))) (sRet (eSub (eCall fInt (aCons (eOp2 fGt (eVar 2) (eC (.int 0))) aNil)) (eCall fInt (aCons (eOp2 fLt (eVar 2) (eC (.int 0))) aNil)))))
noncomputable def F_compare : FnP := fnP 2 3 ev_compare
noncomputable def ev_factor_of : EvS := (sRet (eIx (eIx (eIx (eIx (eVar 0) (eVar 1)) (eC (.int 0))) (eC (.int 1))) (eVar 2)))
noncomputable def F_factor_of : FnP := fnP 3 3 ev_factor_of
noncomputable def ev_scale_beside : EvS := (sCons (sPar [.nm 4, .nm 5] (aCons (eCallP F_factor_of (aCons (eVar 0) (aCons (eVar 1) (aCons (eVar 2) aNil)))) (aCons (eCallP F_factor_of (aCons (eVar 0) (aCons (eVar 2) (aCons (eVar 1) aNil)))) aNil))) (sCons (sIf (eOrT (eTst (eOp2 fEq (eVar 5) (eC ZEROd))) (eTst (eOp2 fLe (eCallP F_compare (aCons (eCallP F_over (aCons (eVar 4) (aCons (eVar 5) aNil))) (aCons (eC ZEROd) aNil))) (eC (.int 0))))) (sRet (eC .none)) sNil) (sRet (eCallP F_times (aCons (eVar 3) (aCons (eCallP F_over (aCons (eVar 4) (aCons (eVar 5) aNil))) aNil))))))
noncomputable def F_scale_beside : FnP := fnP 4 6 ev_scale_beside
noncomputable def ev_scales_of : EvS := (sCons (sIf (eOrT (eTst (eCall fAny (aCons (eFrz (asF (eLcD [7] (.nm 7) (iTp (eVar 0)) tYesE (eOp2 fGt (eCall fLen (aCons (eVar 7) aNil)) (eC (.int 1)))))) aNil))) (eTst (eCall fAny (aCons (eFrz (asF (eLcD [8] (.nm 8) (iRg1 (eCall fLen (aCons (eVar 0) aNil))) tYesE (eOp2 fNe (eCallP F_factor_of (aCons (eVar 0) (aCons (eVar 8) (aCons (eVar 8) aNil)))) (eC ZEROd))))) aNil)))) (sRet (eC .none)) sNil) (sCons (sSet (.nm 1) eDicK) (sCons (sFor (.nm 2) (iRg1 (eCall fLen (aCons (eVar 0) aNil))) (sForget [2, 3, 4, 5, 6] (sCons (sSet (.nm 3) (eIf (eTst (eDIn (eVar 2) (eVar 1))) (eOwn (eLst aNil)) (eOwn (eLst (aCons (eVar 2) aNil))))) (sCons (sExp (eSetd (eVar 1) (eVar 2) (eC ONEd))) (sWhile (eTru (eVar 3)) (sForget [4, 5, 6] (sCons (sSet (.nm 4) (eMeth mPop (eVar 3) aNil)) (sFor (.nm 5) (iRg1 (eCall fLen (aCons (eVar 0) aNil))) (sForget [5, 6] (sIf (eTst (eOp2 fNe (eCallP F_factor_of (aCons (eVar 0) (aCons (eVar 4) (aCons (eVar 5) aNil)))) (eC ZEROd))) (sCons (sSet (.nm 6) (eCallP F_scale_beside (aCons (eVar 0) (aCons (eVar 4) (aCons (eVar 5) (aCons (eDGet (eVar 1) (eVar 4)) aNil)))))) (sCons (sIf (eOrT (eTst (eIsN (eVar 6))) (eTst (eOp2 fNe (eDGet2 (eVar 1) (eVar 5) (eVar 6)) (eVar 6)))) (sRet (eC .none)) sNil) (sIf (eTst (eDNotIn (eVar 5) (eVar 1))) (sCons (sDPutE (eVar 1) (eVar 5) (eVar 6)) (sExp (eMeth mAppend (eVar 3) (aCons (eVar 5) aNil)))) sNil))) (sIf (eTst (eOp2 fNe (eCallP F_factor_of (aCons (eVar 0) (aCons (eVar 5) (aCons (eVar 4) aNil)))) (eC ZEROd))) (sRet (eC .none)) sNil))))))))))) (sRet (eCall fTuple (aCons (eFrz (asF (eLcD [7] (.nm 7) (iRg1 (eCall fLen (aCons (eVar 0) aNil))) tYesE (eDGet (eVar 1) (eVar 7))))) aNil))))))
noncomputable def F_scales_of : FnP := fnP 1 9 ev_scales_of
noncomputable def ev_need_scales : EvS := (sCons (sSet (.nm 1) (eCallP F_scales_of (aCons (eVar 0) aNil))) (sCons (sIf (eTst (eIsN (eVar 1))) sStuck sNil) (sRet (eVar 1))))
noncomputable def F_need_scales : FnP := fnP 1 2 ev_need_scales
noncomputable def ev_energy_rows : EvS := (sCons (sSet (.nm 1) (eOwn (eLst aNil))) (sCons (sFor (.tp [(.nm 2), (.nm 3)]) (iEn (eCallP F_need_scales (aCons (eVar 0) aNil))) (sForget [2, 3, 4] (sCons (sSet (.nm 4) (eOwn (asF (eLcD [5] (.nm 5) (iTp (eIx (eIx (eIx (eVar 0) (eVar 2)) (eC (.int 0))) (eC (.int 1)))) tYesE (eCallP F_less (aCons (eC ZEROd) (aCons (eCallP F_times (aCons (eVar 3) (aCons (eVar 5) aNil))) aNil))))))) (sCons (sSetIx (eVar 4) (eVar 2) (eVar 3)) (sExp (eAppL (eVar 1) (eVar 4))))))) (sRet (eVar 1))))
noncomputable def F_energy_rows : FnP := fnP 1 6 ev_energy_rows
noncomputable def ev_energy : EvS := (sCons (sSet (.nm 2) (eC ZEROd)) (sCons (sFor (.tp [(.nm 3), (.nm 4)]) (iZp (eCallP F_energy_rows (aCons (eVar 0) aNil)) (eVar 1)) (sForget [3, 4, 5, 6] (sFor (.tp [(.nm 5), (.nm 6)]) (iZp (eVar 3) (eVar 1)) (sForget [5, 6] (sSet (.nm 2) (eCallP F_plus (aCons (eVar 2) (aCons (eCallP F_times (aCons (eVar 5) (aCons (eCallP F_times (aCons (eVar 4) (aCons (eVar 6) aNil))) aNil))) aNil)))))))) (sRet (eVar 2))))
noncomputable def F_energy : FnP := fnP 2 7 ev_energy
noncomputable def ev_squares_until : EvS := (sCons (sPar [.nm 0, .nm 1] (aCons (eOwnL (eLcD [8] (.nm 8) (iLst (eVar 0)) tYesE (eOwn (eCallN gList (aCons (eVar 8) aNil))))) (aCons (eOwn (eLst aNil)) aNil))) (sCons (sFor (.nm 2) (iRg1 (eLenL (eVar 0))) (sForget [2, 3, 4, 5, 6, 7] (sCons (sSet (.nm 3) (eIx (eIx (eVar 0) (eVar 2)) (eVar 2))) (sCons (sIf (eTst (eOp2 fLe (eCallP F_compare (aCons (eVar 3) (aCons (eC ZEROd) aNil))) (eC (.int 0)))) (sRet (eFrz (eNew2 gAdd (eVar 1) (eFrz (eLst (aCons (eTup (aCons (eVar 3) (aCons (eTup aNil) aNil))) aNil)))))) sNil) (sCons (sSet (.nm 4) (eFrz (asF (eLcD [9] (.nm 9) (iLst (eFrz (eSlL (eIx (eVar 0) (eVar 2)) (oSome (eAdd (eVar 2) (eC (.int 1)))) oNone))) tYesE (eCallP F_over (aCons (eVar 9) (aCons (eVar 3) aNil))))))) (sCons (sExp (eMeth mAppend (eVar 1) (aCons (eTup (aCons (eVar 3) (aCons (eCall fTuple (aCons (eVar 4) aNil)) aNil))) aNil))) (sFor (.nm 5) (iRg2 (eAdd (eVar 2) (eC (.int 1))) (eLenL (eVar 0))) (sForget [5, 6, 7] (sCons (sSet (.nm 6) (eIx (eIx (eVar 0) (eVar 5)) (eVar 2))) (sFor (.nm 7) (iRg2 (eAdd (eVar 2) (eC (.int 1))) (eLenL (eVar 0))) (sForget [7] (sSetIx (eIx (eVar 0) (eVar 5)) (eVar 7) (eCallP F_less (aCons (eIx (eIx (eVar 0) (eVar 5)) (eVar 7)) (aCons (eCallP F_times (aCons (eVar 6) (aCons (eIx (eVar 4) (eSub (eSub (eVar 7) (eVar 2)) (eC (.int 1)))) aNil))) aNil))))))))))))))) (sRet (eVar 1))))
noncomputable def F_squares_until : FnP := fnP 1 10 ev_squares_until
noncomputable def ev_squares_of : EvS := (sCons (sSet (.nm 1) (eCallP F_squares_until (aCons (eCallP F_energy_rows (aCons (eVar 0) aNil)) aNil))) (sRet (eIf (eTst (eOp2 fGt (eCallP F_compare (aCons (eIx (eIx (eVar 1) (eNeg (eC (.int 1)))) (eC (.int 0))) (aCons (eC ZEROd) aNil))) (eC (.int 0)))) (eCall fTuple (aCons (eVar 1) aNil)) (eC .none))))
noncomputable def F_squares_of : FnP := fnP 1 2 ev_squares_of
noncomputable def ev_low_values : EvS := (sCons (sSet (.nm 1) (eCallP F_squares_until (aCons (eCallP F_energy_rows (aCons (eVar 0) aNil)) aNil))) (sCons (sIf (eTst (eOp2 fGt (eCallP F_compare (aCons (eIx (eIx (eVar 1) (eNeg (eC (.int 1)))) (eC (.int 0))) (aCons (eC ZEROd) aNil))) (eC (.int 0)))) (sRet (eC .none)) sNil) (sCons (sSet (.nm 2) (eOwn (eNew2 gMul (eFrz (eLst (aCons (eC ZEROd) aNil))) (eCall fLen (aCons (eVar 0) aNil))))) (sCons (sSet (.nm 3) (eSub (eCall fLen (aCons (eVar 1) aNil)) (eC (.int 1)))) (sCons (sSetIx (eVar 2) (eVar 3) (eC ONEd)) (sCons (sFor (.nm 4) (iRgD (eSub (eVar 3) (eC (.int 1))) (eNeg (eC (.int 1)))) (sForget [4, 5, 6] (sFor (.tp [(.nm 5), (.nm 6)]) (iZp (eIx (eIx (eVar 1) (eVar 4)) (eC (.int 1))) (eFrz (eSlL (eVar 2) (oSome (eAdd (eVar 4) (eC (.int 1)))) oNone))) (sForget [5, 6] (sSetIx (eVar 2) (eVar 4) (eCallP F_less (aCons (eIx (eVar 2) (eVar 4)) (aCons (eCallP F_times (aCons (eVar 5) (aCons (eVar 6) aNil))) aNil)))))))) (sRet (eCall fTuple (aCons (eVar 2) aNil)))))))))
noncomputable def F_low_values : FnP := fnP 1 7 ev_low_values
noncomputable def ev__law_bag : EvS := (sRet (eOwn (eLst (aCons (eC (.int 0)) (aCons (eC (.int 1234567891)) (aCons (eC (.int 0)) (aCons (eFrz (asF (eLcD [1] (.nm 1) (iLst (eFrz (eSlL (eVar 0) oNone (oSome (eC (.int 63)))))) tYesE (eCall fAbs (aCons (eVar 1) aNil))))) aNil)))))))
noncomputable def F__law_bag : FnS := fnL 1 2 ev__law_bag
noncomputable def ev__law_take : EvS := (sCons (sIf (eTst (eOp2 fEq (eIx (eVar 0) (eC (.int 0))) (eC (.int 0)))) (sCons (sSet (.nm 2) (eIx (eFrz (eNew2 gAdd (eFrz (eSlL (eIx (eVar 0) (eC (.int 3))) (oSome (eIx (eVar 0) (eC (.int 2)))) oNone)) (eFrz (eLst (aCons (eC (.int 0)) aNil))))) (eC (.int 0)))) (sCons (sAugIx (· + ·) (eVar 0) (eC (.int 2)) (eC (.int 1))) (sCons (sIf (eTst (eOp2 fGe (eVar 2) (ePow (eC (.int 10)) (eC (.int 18))))) (sSetIx (eVar 0) (eC (.int 0)) (eVar 2)) sNil) (sCons (sSet (.nm 3) (eAdd (eAdd (eMul (eIx (eVar 0) (eC (.int 1))) (eC (.int 48271))) (eMod (eCall fInt (aCons (eVar 2) aNil)) (eC (.int 2147483647)))) (eMul (eC (.int 7919)) (eIx (eVar 0) (eC (.int 2)))))) (sSetIx (eVar 0) (eC (.int 1)) (eMod (eCall fInt (aCons (eVar 3) aNil)) (eC (.int 2147483647)))))))) sNil) (sCons (sIf (eTst (eOp2 fGt (eIx (eVar 0) (eC (.int 0))) (eC (.int 0)))) (sCons (sSet (.nm 4) (eMod (eCall fInt (aCons (eIx (eVar 0) (eC (.int 0))) aNil)) (eVar 1))) (sCons (sSetIx (eVar 0) (eC (.int 0)) (eDiv (eCall fInt (aCons (eIx (eVar 0) (eC (.int 0))) aNil)) (eVar 1))) (sRet (eVar 4)))) sNil) (sCons (sSet (.nm 5) (eMod (eCall fInt (aCons (eMul (eAdd (eIx (eVar 0) (eC (.int 1))) (eC (.int 1))) (eC (.int 39373))) aNil)) (eC (.int 1000000007)))) (sCons (sSet (.nm 6) (eMod (eCall fInt (aCons (eMul (eMod (eCall fInt (aCons (eMul (eVar 5) (eVar 5)) aNil)) (eC (.int 998244353))) (eC (.int 30011))) aNil)) (eC (.int 998244353)))) (sRet (eMod (eCall fInt (aCons (eDiv (eVar 6) (eC (.int 7))) aNil)) (eVar 1)))))))
noncomputable def F__law_take : FnS := fnS 2 7 ev__law_take
noncomputable def ev__law_some : EvS := (sRet (eIx (eVar 1) (eCallS F__law_take (aCons (eVar 0) (aCons (eCall fLen (aCons (eVar 1) aNil)) aNil)))))
noncomputable def F__law_some : FnS := fnS 2 2 ev__law_some
noncomputable def ev__law_alike : EvS := (sRet (eAndV (eOp2 fEq (eVar 0) (eVar 1)) (eOp2 fEq (eCall fRepr (aCons (eVar 0) aNil)) (eCall fRepr (aCons (eVar 1) aNil)))))
noncomputable def F__law_alike : FnP := fnP 2 2 ev__law_alike
noncomputable def ev__law_gcd : EvS := (sCons (sPar [.nm 0, .nm 1] (aCons (eCall fAbs (aCons (eVar 0) aNil)) (aCons (eCall fAbs (aCons (eVar 1) aNil)) aNil))) (sCons (sWhile (eTst (eOp2 fGt (eVar 1) (eC (.int 0)))) (sPar [.nm 0, .nm 1] (aCons (eVar 1) (aCons (eSub (eVar 0) (eMul (eDiv (eVar 0) (eVar 1)) (eVar 1))) aNil)))) (sRet (eVar 0))))
noncomputable def F__law_gcd : FnP := fnP 2 2 ev__law_gcd
noncomputable def ev__law_f : EvS := (sCons (sSet (.nm 2) (eMul (eCallP F__law_gcd (aCons (eVar 0) (aCons (eVar 1) aNil))) (eIf (eTst (eOp2 fGt (eVar 1) (eC (.int 0)))) (eC (.int 1)) (eNeg (eC (.int 1)))))) (sRet (eTup (aCons (eDiv (eVar 0) (eVar 2)) (aCons (eDiv (eVar 1) (eVar 2)) aNil)))))
noncomputable def F__law_f : FnP := fnP 2 3 ev__law_f
noncomputable def ev__law_plus : EvS := (sRet (eCallP F__law_f (aCons (eAdd (eMul (eIx (eVar 0) (eC (.int 0))) (eIx (eVar 1) (eC (.int 1)))) (eMul (eIx (eVar 1) (eC (.int 0))) (eIx (eVar 0) (eC (.int 1))))) (aCons (eMul (eIx (eVar 0) (eC (.int 1))) (eIx (eVar 1) (eC (.int 1)))) aNil))))
noncomputable def F__law_plus : FnP := fnP 2 2 ev__law_plus
noncomputable def ev__law_minus : EvS := (sRet (eCallP F__law_f (aCons (eSub (eMul (eIx (eVar 0) (eC (.int 0))) (eIx (eVar 1) (eC (.int 1)))) (eMul (eIx (eVar 1) (eC (.int 0))) (eIx (eVar 0) (eC (.int 1))))) (aCons (eMul (eIx (eVar 0) (eC (.int 1))) (eIx (eVar 1) (eC (.int 1)))) aNil))))
noncomputable def F__law_minus : FnP := fnP 2 2 ev__law_minus
noncomputable def ev__law_by : EvS := (sRet (eCallP F__law_f (aCons (eMul (eIx (eVar 0) (eC (.int 0))) (eIx (eVar 1) (eC (.int 0)))) (aCons (eMul (eIx (eVar 0) (eC (.int 1))) (eIx (eVar 1) (eC (.int 1)))) aNil))))
noncomputable def F__law_by : FnP := fnP 2 2 ev__law_by
noncomputable def ev__law_total : EvS := (sCons (sSet (.nm 1) (eTup (aCons (eC (.int 0)) (aCons (eC (.int 1)) aNil)))) (sCons (sFor (.nm 2) (iLst (eVar 0)) (sForget [2] (sSet (.nm 1) (eCallP F__law_plus (aCons (eVar 1) (aCons (eVar 2) aNil)))))) (sRet (eVar 1))))
noncomputable def F__law_total : FnP := fnP 1 3 ev__law_total
noncomputable def ev__law_value : EvS := (sRet (eCallP F__law_total (aCons (eFrz (eNew2 gAdd (eFrz (eLst (aCons (eIx (eVar 0) (eC (.int 0))) aNil))) (eFrz (asF (eLcD [2, 3] (.tp [(.nm 2), (.nm 3)]) (iZp (eIx (eVar 0) (eC (.int 1))) (eVar 1)) (eTst (eOp2 fNe (eIx (eVar 2) (eC (.int 0))) (eC (.int 0)))) (eCallP F__law_by (aCons (eVar 2) (aCons (eVar 3) aNil)))))))) aNil)))
noncomputable def F__law_value : FnP := fnP 2 4 ev__law_value
noncomputable def ev__law_some_fraction : EvS := (sCons (sSet (.nm 1) (eFrz (eLst (aCons (eTup (aCons (eC (.int 0)) (aCons (eC (.int 1)) aNil))) (aCons (eTup (aCons (eC (.int 1)) (aCons (eC (.int 1)) aNil))) (aCons (eTup (aCons (eNeg (eC (.int 1))) (aCons (eC (.int 1)) aNil))) (aCons (eTup (aCons (eC (.int 1)) (aCons (eC (.int 2)) aNil))) (aCons (eTup (aCons (eNeg (eC (.int 3))) (aCons (eC (.int 2)) aNil))) (aCons (eTup (aCons (eC (.int 2)) (aCons (eC (.int 1)) aNil))) (aCons (eTup (aCons (eC (.int 5)) (aCons (eC (.int 3)) aNil))) (aCons (eTup (aCons (eNeg (eC (.int 7))) (aCons (eC (.int 4)) aNil))) aNil))))))))))) (sRet (eCallS F__law_some (aCons (eVar 0) (aCons (eFrz (eNew2 gAdd (eVar 1) (eFrz (eLst (aCons (eTup (aCons (eSub (eCallS F__law_take (aCons (eVar 0) (aCons (eC (.int 199)) aNil))) (eC (.int 99))) (aCons (eC (.int 1)) aNil))) aNil))))) aNil)))))
noncomputable def F__law_some_fraction : FnS := fnS 1 2 ev__law_some_fraction
noncomputable def ev__law_even_book : EvS := (sCons (sSet (.nm 2) (eAdd (eC (.int 1)) (eCallS F__law_take (aCons (eVar 0) (aCons (eVar 1) aNil))))) (sCons (sPar [(.nm 3), (.nm 4)] (aCons (eFrz (asF (eLcD [11] (.nm 11) (iRg1 (eVar 2)) tYesE (eAdd (eC (.int 1)) (eCallS F__law_take (aCons (eVar 0) (aCons (eC (.int 3)) aNil))))))) (aCons eDicT aNil))) (sCons (sSet (.nm 5) (eCallS F__law_some (aCons (eVar 0) (aCons (eFrz (eLst (aCons (eC (.int 2)) (aCons (eC (.int 1)) (aCons (eC (.int 3)) aNil))))) aNil)))) (sCons (sFor (.nm 6) (iRg1 (eVar 2)) (sForget [7] (sFor (.nm 7) (iRg1 (eVar 6)) (sForget [7] (sCons (sTPut (eVar 4) (aCons (eVar 6) (aCons (eVar 7) aNil)) (eCallS F__law_some (aCons (eVar 0) (aCons (eFrz (eLst (aCons (eC (.int 0)) (aCons (eC (.int 1)) (aCons (eNeg (eC (.int 1))) (aCons (eC (.int 2)) (aCons (eNeg (eC (.int 2))) (aCons (eC (.int 0)) aNil)))))))) aNil)))) (sTPut (eVar 4) (aCons (eVar 7) (aCons (eVar 6) aNil)) (eTGet (eVar 4) (aCons (eVar 6) (aCons (eVar 7) aNil))))))))) (sCons (sSet (.nm 8) (eOwn (eLst aNil))) (sCons (sFor (.nm 9) (iRg1 (eVar 2)) (sForget [9, 10] (sCons (sSet (.nm 10) (eFrz (asF (eLcD [6] (.nm 6) (iRg1 (eVar 2)) tYesE (eIf (eTst (eOp2 fEq (eVar 6) (eVar 9))) (eTup (aCons (eC (.int 0)) (aCons (eC (.int 1)) aNil))) (eCallP F__law_f (aCons (eTGet (eVar 4) (aCons (eVar 9) (aCons (eVar 6) aNil))) (aCons (eMul (eVar 5) (eIx (eVar 3) (eVar 9))) aNil)))))))) (sExp (eMeth mAppend (eVar 8) (aCons (eTup (aCons (eTup (aCons (eCallS F__law_some_fraction (aCons (eVar 0) aNil)) (aCons (eCall fTuple (aCons (eVar 10) aNil)) aNil))) aNil)) aNil)))))) (sRet (eTup (aCons (eCall fTuple (aCons (eVar 8) aNil)) (aCons (eCall fTuple (aCons (eVar 3) aNil)) aNil))))))))))
noncomputable def F__law_even_book : FnS := fnS 2 12 ev__law_even_book
noncomputable def ev__law_over : EvS := (sRet (eCallP F__law_f (aCons (eMul (eIx (eVar 0) (eC (.int 0))) (eIx (eVar 1) (eC (.int 1)))) (aCons (eMul (eIx (eVar 0) (eC (.int 1))) (eIx (eVar 1) (eC (.int 0)))) aNil))))
noncomputable def F__law_over : FnP := fnP 2 2 ev__law_over
noncomputable def ev__law_is_int : EvS := (sRet (eAndV (eIsi "int" (eVar 0)) (eNotV (eIsi "bool" (eVar 0)))))
noncomputable def F__law_is_int : FnP := fnP 1 1 ev__law_is_int
noncomputable def ev__law_is_fraction : EvS := (sCons (sIf (eOrT (eNotT (eTst (eIsi "tuple" (eVar 0)))) (eOrT (eTst (eOp2 fNe (eCall fLen (aCons (eVar 0) aNil)) (eC (.int 2)))) (eTst (eOp2 fNe (eFrz (asF (eLcD [1] (.nm 1) (iTp (eVar 0)) (eNotT (eTst (eCallP F__law_is_int (aCons (eVar 1) aNil)))) (eC (.int 1))))) (eFrz (eLst aNil)))))) (sRet (eC (.bool false))) sNil) (sRet (eAndV (eOp2 fGe (eIx (eVar 0) (eC (.int 1))) (eC (.int 1))) (eOp2 fEq (eCallP F__law_gcd (aCons (eIx (eVar 0) (eC (.int 0))) (aCons (eIx (eVar 0) (eC (.int 1))) aNil))) (eC (.int 1))))))
noncomputable def F__law_is_fraction : FnP := fnP 1 2 ev__law_is_fraction
noncomputable def ev__law_scales : EvS := (sCons (sIf (eTst (eOp2 fNe (eFrz (asF (eLcD [3, 8] (.tp [(.nm 3), (.nm 8)]) (iEn (eVar 0)) (eOrT (eTst (eOp2 fNe (eCall fLen (aCons (eVar 8) aNil)) (eC (.int 1)))) (eTst (eOp2 fNe (eIx (eIx (eIx (eIx (eVar 8) (eC (.int 0))) (eC (.int 1))) (eVar 3)) (eC (.int 0))) (eC (.int 0))))) (eVar 3)))) (eFrz (eLst aNil)))) (sRet (eC .none)) sNil) (sCons (sPar [(.nm 1), (.nm 2)] (aCons (eFrz (asF (eLcD [8] (.nm 8) (iTp (eVar 0)) tYesE (eIx (eIx (eVar 8) (eC (.int 0))) (eC (.int 1)))))) (aCons eDicK aNil))) (sCons (sFor (.nm 3) (iRg1 (eCall fLen (aCons (eVar 0) aNil))) (sForget [4, 5, 6, 7] (sCons (sSet (.nm 4) (eIf (eTst (eDNotIn (eVar 3) (eVar 2))) (eOwn (eLst (aCons (eVar 3) aNil))) (eOwn (eLst aNil)))) (sCons (sExp (eSetd (eVar 2) (eVar 3) (eTup (aCons (eC (.int 1)) (aCons (eC (.int 1)) aNil))))) (sWhile (eTst (eOp2 fNe (eVar 4) (eFrz (eLst aNil)))) (sForget [5, 6, 7] (sCons (sSet (.nm 5) (eMeth mPop (eVar 4) aNil)) (sFor (.nm 6) (iRg1 (eCall fLen (aCons (eVar 0) aNil))) (sForget [6, 7] (sCons (sIf (eAndT (eTst (eOp2 fEq (eIx (eIx (eIx (eVar 1) (eVar 5)) (eVar 6)) (eC (.int 0))) (eC (.int 0)))) (eTst (eOp2 fEq (eIx (eIx (eIx (eVar 1) (eVar 6)) (eVar 5)) (eC (.int 0))) (eC (.int 0))))) sCnt sNil) (sCons (sIf (eTst (eOp2 fLe (eMul (eIx (eIx (eIx (eVar 1) (eVar 5)) (eVar 6)) (eC (.int 0))) (eIx (eIx (eIx (eVar 1) (eVar 6)) (eVar 5)) (eC (.int 0)))) (eC (.int 0)))) (sRet (eC .none)) sNil) (sCons (sSet (.nm 7) (eCallP F__law_over (aCons (eCallP F__law_by (aCons (eIx (eIx (eVar 1) (eVar 5)) (eVar 6)) (aCons (eDGet (eVar 2) (eVar 5)) aNil))) (aCons (eIx (eIx (eVar 1) (eVar 6)) (eVar 5)) aNil)))) (sIf (eTst (eDNotIn (eVar 6) (eVar 2))) (sCons (sDPutE (eVar 2) (eVar 6) (eVar 7)) (sExp (eMeth mAppend (eVar 4) (aCons (eVar 6) aNil)))) (sIf (eTst (eOp2 fNe (eDGet (eVar 2) (eVar 6)) (eVar 7))) (sRet (eC .none)) sNil)))))))))))))) (sRet (eCall fTuple (aCons (eFrz (asF (eLcD [3] (.nm 3) (iRg1 (eCall fLen (aCons (eVar 0) aNil))) tYesE (eDGet (eVar 2) (eVar 3))))) aNil))))))
noncomputable def F__law_scales : FnP := fnP 1 9 ev__law_scales
noncomputable def ev__law_energy : EvS := (sCons (sSet (.nm 3) (eOwn (eLst aNil))) (sCons (sFor (.tp [(.nm 4), (.nm 5)]) (iEn (eVar 0)) (sForget [4, 5, 6] (sCons (sSet (.nm 6) (eCallP F__law_value (aCons (eTup (aCons (eTup (aCons (eC (.int 0)) (aCons (eC (.int 1)) aNil))) (aCons (eIx (eIx (eVar 5) (eC (.int 0))) (eC (.int 1))) aNil))) (aCons (eVar 2) aNil)))) (sExp (eMeth mAppend (eVar 3) (aCons (eCallP F__law_by (aCons (eCallP F__law_by (aCons (eIx (eVar 1) (eVar 4)) (aCons (eIx (eVar 2) (eVar 4)) aNil))) (aCons (eCallP F__law_minus (aCons (eIx (eVar 2) (eVar 4)) (aCons (eVar 6) aNil))) aNil))) aNil)))))) (sRet (eCallP F__law_total (aCons (eVar 3) aNil)))))
noncomputable def F__law_energy : FnP := fnP 3 7 ev__law_energy
noncomputable def ev__law_squares : EvS := (sCons (sPar [(.nm 2), (.nm 3), (.nm 4)] (aCons (eCall fLen (aCons (eVar 0) aNil)) (aCons (eOwn (eLst aNil)) (aCons (eOwn (eLst aNil)) aNil)))) (sCons (sFor (.nm 5) (iRg1 (eVar 2)) (sForget [5, 6] (sCons (sSet (.nm 6) (eOwn (asF (eLcD [11] (.nm 11) (iTp (eIx (eIx (eIx (eVar 0) (eVar 5)) (eC (.int 0))) (eC (.int 1)))) tYesE (eCallP F__law_minus (aCons (eTup (aCons (eC (.int 0)) (aCons (eC (.int 1)) aNil))) (aCons (eCallP F__law_by (aCons (eIx (eVar 1) (eVar 5)) (aCons (eVar 11) aNil))) aNil))))))) (sCons (sSetIx (eVar 6) (eVar 5) (eIx (eVar 1) (eVar 5))) (sExp (eAppL (eVar 4) (eVar 6))))))) (sCons (sFor (.nm 7) (iRg1 (eVar 2)) (sForget [7, 8, 9, 10] (sCons (sSet (.nm 8) (eIx (eIx (eVar 4) (eVar 7)) (eVar 7))) (sCons (sIf (eTst (eOp2 fLe (eIx (eVar 8) (eC (.int 0))) (eC (.int 0)))) (sRet (eC .none)) sNil) (sCons (sSet (.nm 9) (eFrz (asF (eLcD [12] (.nm 12) (iLst (eIx (eVar 4) (eVar 7))) tYesE (eCallP F__law_over (aCons (eVar 12) (aCons (eVar 8) aNil))))))) (sCons (sExp (eMeth mAppend (eVar 3) (aCons (eTup (aCons (eVar 8) (aCons (eCall fTuple (aCons (eFrz (eSlL (eVar 9) (oSome (eAdd (eVar 7) (eC (.int 1)))) oNone)) aNil)) aNil))) aNil))) (sFor (.nm 10) (iRg2 (eAdd (eVar 7) (eC (.int 1))) (eVar 2)) (sForget [10] (sSetIxL (eVar 4) (eVar 10) (eOwn (asF (eLcD [12, 13] (.tp [(.nm 12), (.nm 13)]) (iZp (eIx (eVar 4) (eVar 10)) (eVar 9)) tYesE (eCallP F__law_minus (aCons (eVar 12) (aCons (eCallP F__law_by (aCons (eIx (eIx (eVar 4) (eVar 10)) (eVar 7)) (aCons (eVar 13) aNil))) aNil))))))))))))))) (sRet (eCall fTuple (aCons (eVar 3) aNil))))))
noncomputable def F__law_squares : FnP := fnP 2 14 ev__law_squares
noncomputable def ev__law_few_values : EvS := (sRet (eCall fTuple (aCons (eFrz (asF (eLcD [2] (.nm 2) (iRg1 (eVar 1)) tYesE (eCallS F__law_some (aCons (eVar 0) (aCons (eFrz (eLst (aCons (eTup (aCons (eC (.int 0)) (aCons (eC (.int 1)) aNil))) (aCons (eTup (aCons (eC (.int 1)) (aCons (eC (.int 1)) aNil))) (aCons (eTup (aCons (eNeg (eC (.int 1))) (aCons (eC (.int 1)) aNil))) (aCons (eTup (aCons (eC (.int 1)) (aCons (eC (.int 2)) aNil))) (aCons (eTup (aCons (eC (.int 3)) (aCons (eC (.int 1)) aNil))) (aCons (eTup (aCons (eNeg (eC (.int 5))) (aCons (eC (.int 2)) aNil))) aNil)))))))) aNil)))))) aNil)))
noncomputable def F__law_few_values : FnS := fnS 2 3 ev__law_few_values
noncomputable def ev__law_just_even : EvS := (sCons (sSet (.nm 1) (eCallS F__law_take (aCons (eVar 0) (aCons (eC (.int 3)) aNil)))) (sCons (sPar [.nm 2, .nm 3] (aCons (eTup (aCons (eC (.int 0)) (aCons (eC (.int 1)) aNil))) (aCons (eCallS F__law_some (aCons (eVar 0) (aCons (eFrz (eLst (aCons (eTup (aCons (eC (.int 1)) (aCons (eC (.int 1)) aNil))) (aCons (eTup (aCons (eNeg (eC (.int 1))) (aCons (eC (.int 1)) aNil))) aNil)))) aNil))) aNil))) (sCons (sIf (eTst (eOp2 fEq (eVar 1) (eC (.int 0)))) (sRet (eTup (aCons (eTup (aCons (eTup (aCons (eVar 2) (aCons (eTup (aCons (eVar 2) (aCons (eVar 3) aNil))) aNil))) aNil)) (aCons (eTup (aCons (eTup (aCons (eVar 2) (aCons (eTup (aCons (eVar 3) (aCons (eVar 2) aNil))) aNil))) aNil)) aNil)))) sNil) (sCons (sSet (.nm 4) (eCallP F__law_by (aCons (eVar 3) (aCons (eTup (aCons (eC (.int 1)) (aCons (eC (.int 2)) aNil))) aNil)))) (sCons (sIf (eTst (eOp2 fEq (eVar 1) (eC (.int 1)))) (sRet (eTup (aCons (eTup (aCons (eTup (aCons (eVar 2) (aCons (eTup (aCons (eVar 2) (aCons (eVar 4) (aCons (eVar 4) aNil)))) aNil))) aNil)) (aCons (eTup (aCons (eTup (aCons (eVar 2) (aCons (eTup (aCons (eVar 4) (aCons (eVar 2) (aCons (eVar 4) aNil)))) aNil))) aNil)) (aCons (eTup (aCons (eTup (aCons (eVar 2) (aCons (eTup (aCons (eVar 4) (aCons (eVar 4) (aCons (eVar 2) aNil)))) aNil))) aNil)) aNil))))) sNil) (sRet (eTup (aCons (eTup (aCons (eTup (aCons (eVar 2) (aCons (eTup (aCons (eVar 2) (aCons (eTup (aCons (eC (.int 2)) (aCons (eC (.int 1)) aNil))) aNil))) aNil))) aNil)) (aCons (eTup (aCons (eTup (aCons (eVar 2) (aCons (eTup (aCons (eTup (aCons (eC (.int 1)) (aCons (eC (.int 2)) aNil))) (aCons (eVar 2) aNil))) aNil))) aNil)) aNil)))))))))
noncomputable def F__law_just_even : FnS := fnS 1 5 ev__law_just_even
noncomputable def ev__law_by_squares : EvS := (sCons (sSet (.nm 2) (eOwn (eLst aNil))) (sCons (sFor (.tp [(.nm 3), (.nm 4)]) (iEn (eVar 0)) (sForget [3, 4, 5] (sCons (sSet (.nm 5) (eCallP F__law_total (aCons (eFrz (eNew2 gAdd (eFrz (eLst (aCons (eIx (eVar 1) (eVar 3)) aNil))) (eFrz (asF (eLcD [6, 7] (.tp [(.nm 6), (.nm 7)]) (iZp (eIx (eVar 4) (eC (.int 1))) (eSlT (eVar 1) (oSome (eAdd (eVar 3) (eC (.int 1)))) oNone)) tYesE (eCallP F__law_by (aCons (eVar 6) (aCons (eVar 7) aNil)))))))) aNil))) (sExp (eMeth mAppend (eVar 2) (aCons (eCallP F__law_by (aCons (eIx (eVar 4) (eC (.int 0))) (aCons (eCallP F__law_by (aCons (eVar 5) (aCons (eVar 5) aNil))) aNil))) aNil)))))) (sRet (eCallP F__law_total (aCons (eVar 2) aNil)))))
noncomputable def F__law_by_squares : FnP := fnP 2 8 ev__law_by_squares
noncomputable def ev_law : EvS := (sCons (sSet (.nm 1) (eCallS F__law_bag (aCons (eVar 0) aNil))) (sCons (sFor (.nm 2) (iRg1 (eC (.int 6))) (sForget [2, 3, 4, 5, 6, 7, 8] (sCons (sSet (.nm 3) (eIf (eTst (eOp2 fLt (eVar 2) (eC (.int 5)))) (eIx (eCallS F__law_even_book (aCons (eVar 1) (aCons (eC (.int 5)) aNil))) (eC (.int 0))) (eCallS F__law_just_even (aCons (eVar 1) aNil)))) (sCons (sPar [.nm 4, .nm 5] (aCons (eCallP F__law_scales (aCons (eVar 3) aNil)) (aCons (eCall fRepr (aCons (eVar 3) aNil)) aNil))) (sCons (sSet (.nm 6) (eCallP F__law_squares (aCons (eVar 3) (aCons (eVar 4) aNil)))) (sCons (sSet (.nm 7) (eCallP F_low_values (aCons (eVar 3) aNil))) (sCons (sIf (eOrT (eNotT (eTst (eCallP F__law_alike (aCons (eCallP F_squares_of (aCons (eVar 3) aNil)) (aCons (eVar 6) aNil))))) (eOrT (eTst (eOp2 fNe (eIsN (eVar 7)) (eNotN (eVar 6)))) (eNotT (eTst (eCallP F__law_alike (aCons (eCallP F_low_values (aCons (eVar 3) aNil)) (aCons (eVar 7) aNil))))))) (sRet (eC (.bool false))) sNil) (sCons (sIf (eTst (eNotN (eVar 7))) (sCons (sIf (eOrT (eNotT (eTst (eIsi "tuple" (eVar 7)))) (eOrT (eTst (eOp2 fNe (eCall fLen (aCons (eVar 7) aNil)) (eCall fLen (aCons (eVar 3) aNil)))) (eOrT (eTst (eOp2 fNe (eFrz (asF (eLcD [9] (.nm 9) (iTp (eVar 7)) (eNotT (eTst (eCallP F__law_is_fraction (aCons (eVar 9) aNil)))) (eVar 9)))) (eFrz (eLst aNil)))) (eTst (eOp2 fEq (eFrz (asF (eLcD [9] (.nm 9) (iTp (eVar 7)) (eTst (eOp2 fNe (eIx (eVar 9) (eC (.int 0))) (eC (.int 0)))) (eVar 9)))) (eFrz (eLst aNil))))))) (sRet (eC (.bool false))) sNil) (sIf (eTst (eOp2 fGt (eIx (eCallP F__law_energy (aCons (eVar 3) (aCons (eVar 4) (aCons (eVar 7) aNil)))) (eC (.int 0))) (eC (.int 0)))) (sRet (eC (.bool false))) sNil)) sNil) (sCons (sSet (.nm 8) (eCallS F__law_few_values (aCons (eVar 1) (aCons (eCall fLen (aCons (eVar 3) aNil)) aNil)))) (sCons (sIf (eAndT (eTst (eNotN (eVar 6))) (eNotT (eTst (eCallP F__law_alike (aCons (eCallP F_energy (aCons (eVar 3) (aCons (eVar 8) aNil))) (aCons (eCallP F__law_by_squares (aCons (eVar 6) (aCons (eVar 8) aNil))) aNil)))))) (sRet (eC (.bool false))) sNil) (sIf (eTst (eOp2 fNe (eCall fRepr (aCons (eVar 3) aNil)) (eVar 5))) (sRet (eC (.bool false))) sNil))))))))))) (sRet (eC (.bool true)))))
noncomputable def F_law : FnS := fnL 1 10 ev_law
end P55

set_option Elab.async false
set_option linter.all false
set_option maxRecDepth 100000
set_option maxHeartbeats 4000000
namespace P55
open PySem PySem.Spec PyProof.Rows L2 Zd
def topS (i : Nat) : Stmt := PySem.Challenge.pw_onelate_k55_squares_or_low_values.main.body.getD i (.Pass ⟨0, 0, 0, 0⟩)
/-- names that the module leaves to the built-in ones -/
structure Free (mg : Str → Option Value) : Prop where
  abs : mg "abs" = none
  any : mg "any" = none
  bool : mg "bool" = none
  enumerate : mg "enumerate" = none
  int : mg "int" = none
  isinstance : mg "isinstance" = none
  len : mg "len" = none
  list : mg "list" = none
  range : mg "range" = none
  repr : mg "repr" = none
  tuple : mg "tuple" = none
  zip : mg "zip" = none
section
variable {P : Program} {w : World} {K : PySem.W.Frag} {mg : Str → Option Value} {base : Heap} {f : Addr} {fd : FuncData}
theorem sc_fraction : FnScope ["num", "den", "common"] ["num", "den"] (defScope (topS 8)) := ⟨rfl, rfl, rfl, by decide +kernel, rfl, by decide +kernel, by decide +kernel⟩
theorem ok_fraction (fr : Free mg) (k_gcd : mg "gcd" = some (.builtin "math.gcd")) (F : Fun K "fraction" "fraction" (topS 8) f fd) (hm : mg "fraction" = some (.ref f)) : DefP P w K mg base 1 "fraction" F_fraction :=
  defP (N := ["num", "den", "common"]) (ps := ["num", "den"]) F hm (F.binds fun _ _ _ _ _ _ us hl => match us, hl with | [_, _], _ => rfl) sc_fraction fun cdv A outer s H hr =>
    (ss_cons (ss_if (st_eq (hr.rm.units) (se_var 1) se_int) (ss_one ss_stuck) ss_nil) (ss_cons (ss_set 2 sc_fraction.nd (se_if (st_gt (se_var 1) se_int) (se_callG cr_gcd rn_gcd (by rfl) k_gcd (sa_cons (se_var 0) (sa_cons (se_var 1) sa_nil))) (se_neg (se_callG cr_gcd rn_gcd (by rfl) k_gcd (sa_cons (se_var 0) (sa_cons (se_var 1) sa_nil)))))) (ss_one (ss_ret (se_tup (sa_cons (se_div (se_var 0) (se_var 2)) (sa_cons (se_div (se_var 1) (se_var 2)) sa_nil)))))))
theorem sc_plus : FnScope ["one", "other"] ["one", "other"] (defScope (topS 9)) := ⟨rfl, rfl, rfl, by decide +kernel, rfl, by decide +kernel, by decide +kernel⟩
theorem ok_plus (fr : Free mg) (c_fraction : DefP P w K mg base 1 "fraction" F_fraction) (F : Fun K "plus" "plus" (topS 9) f fd) (hm : mg "plus" = some (.ref f)) : DefP P w K mg base 2 "plus" F_plus :=
  defP (N := ["one", "other"]) (ps := ["one", "other"]) F hm (F.binds fun _ _ _ _ _ _ us hl => match us, hl with | [_, _], _ => rfl) sc_plus fun cdv A outer s H hr =>
    (ss_one (ss_ret (se_callP c_fraction hr (sa_cons (se_add (se_mul (se_ix (se_var 0) se_int) (se_ix (se_var 1) se_int)) (se_mul (se_ix (se_var 1) se_int) (se_ix (se_var 0) se_int))) (sa_cons (se_mul (se_ix (se_var 0) se_int) (se_ix (se_var 1) se_int)) sa_nil)))))
theorem sc_less : FnScope ["one", "other"] ["one", "other"] (defScope (topS 10)) := ⟨rfl, rfl, rfl, by decide +kernel, rfl, by decide +kernel, by decide +kernel⟩
theorem ok_less (fr : Free mg) (c_fraction : DefP P w K mg base 1 "fraction" F_fraction) (F : Fun K "less" "less" (topS 10) f fd) (hm : mg "less" = some (.ref f)) : DefP P w K mg base 2 "less" F_less :=
  defP (N := ["one", "other"]) (ps := ["one", "other"]) F hm (F.binds fun _ _ _ _ _ _ us hl => match us, hl with | [_, _], _ => rfl) sc_less fun cdv A outer s H hr =>
    (ss_one (ss_ret (se_callP c_fraction hr (sa_cons (se_sub (se_mul (se_ix (se_var 0) se_int) (se_ix (se_var 1) se_int)) (se_mul (se_ix (se_var 1) se_int) (se_ix (se_var 0) se_int))) (sa_cons (se_mul (se_ix (se_var 0) se_int) (se_ix (se_var 1) se_int)) sa_nil)))))
theorem sc_times : FnScope ["one", "other"] ["one", "other"] (defScope (topS 11)) := ⟨rfl, rfl, rfl, by decide +kernel, rfl, by decide +kernel, by decide +kernel⟩
theorem ok_times (fr : Free mg) (c_fraction : DefP P w K mg base 1 "fraction" F_fraction) (F : Fun K "times" "times" (topS 11) f fd) (hm : mg "times" = some (.ref f)) : DefP P w K mg base 2 "times" F_times :=
  defP (N := ["one", "other"]) (ps := ["one", "other"]) F hm (F.binds fun _ _ _ _ _ _ us hl => match us, hl with | [_, _], _ => rfl) sc_times fun cdv A outer s H hr =>
    (ss_one (ss_ret (se_callP c_fraction hr (sa_cons (se_mul (se_ix (se_var 0) se_int) (se_ix (se_var 1) se_int)) (sa_cons (se_mul (se_ix (se_var 0) se_int) (se_ix (se_var 1) se_int)) sa_nil)))))
theorem sc_over : FnScope ["one", "other"] ["one", "other"] (defScope (topS 12)) := ⟨rfl, rfl, rfl, by decide +kernel, rfl, by decide +kernel, by decide +kernel⟩
theorem ok_over (fr : Free mg) (c_fraction : DefP P w K mg base 1 "fraction" F_fraction) (F : Fun K "over" "over" (topS 12) f fd) (hm : mg "over" = some (.ref f)) : DefP P w K mg base 2 "over" F_over :=
  defP (N := ["one", "other"]) (ps := ["one", "other"]) F hm (F.binds fun _ _ _ _ _ _ us hl => match us, hl with | [_, _], _ => rfl) sc_over fun cdv A outer s H hr =>
    (ss_one (ss_ret (se_callP c_fraction hr (sa_cons (se_mul (se_ix (se_var 0) se_int) (se_ix (se_var 1) se_int)) (sa_cons (se_mul (se_ix (se_var 0) se_int) (se_ix (se_var 1) se_int)) sa_nil)))))
theorem sc_compare : FnScope ["one", "other", "gap"] ["one", "other"] (defScope (topS 13)) := ⟨rfl, rfl, rfl, by decide +kernel, rfl, by decide +kernel, by decide +kernel⟩
theorem ok_compare (fr : Free mg) (F : Fun K "compare" "compare" (topS 13) f fd) (hm : mg "compare" = some (.ref f)) : DefP P w K mg base 1 "compare" F_compare :=
  defP (N := ["one", "other", "gap"]) (ps := ["one", "other"]) F hm (F.binds fun _ _ _ _ _ _ us hl => match us, hl with | [_, _], _ => rfl) sc_compare fun cdv A outer s H hr =>
    (ss_cons (ss_set 2 sc_compare.nd (se_sub (se_mul (se_ix (se_var 0) se_int) (se_ix (se_var 1) se_int)) (se_mul (se_ix (se_var 1) se_int) (se_ix (se_var 0) se_int)))) (ss_one (ss_ret (se_sub (se_callTy call_int1 rn_int (by rfl) fr.int PyProof.Rows.boot_int (sa_cons (se_gt (se_var 2) se_int) sa_nil)) (se_callTy call_int1 rn_int (by rfl) fr.int PyProof.Rows.boot_int (sa_cons (se_lt (se_var 2) se_int) sa_nil))))))
theorem sc_factor_of : FnScope ["book", "cell", "other"] ["book", "cell", "other"] (defScope (topS 15)) := ⟨rfl, rfl, rfl, by decide +kernel, rfl, by decide +kernel, by decide +kernel⟩
theorem ok_factor_of (fr : Free mg) (F : Fun K "factor_of" "factor_of" (topS 15) f fd) (hm : mg "factor_of" = some (.ref f)) : DefP P w K mg base 1 "factor_of" F_factor_of :=
  defP (N := ["book", "cell", "other"]) (ps := ["book", "cell", "other"]) F hm (F.binds fun _ _ _ _ _ _ us hl => match us, hl with | [_, _, _], _ => rfl) sc_factor_of fun cdv A outer s H hr =>
    (ss_one (ss_ret (se_ix (se_ix (se_ix (se_ix (se_var 0) (se_var 1)) se_int) se_int) (se_var 2))))
theorem sc_scale_beside : FnScope ["book", "cell", "other", "scale", "there", "back"] ["book", "cell", "other", "scale"] (defScope (topS 16)) := ⟨rfl, rfl, rfl, by decide +kernel, rfl, by decide +kernel, by decide +kernel⟩
theorem ok_scale_beside (fr : Free mg) (k_ZERO : CK K mg "ZERO" ZEROd) (c_compare : DefP P w K mg base 1 "compare" F_compare) (c_factor_of : DefP P w K mg base 1 "factor_of" F_factor_of) (c_over : DefP P w K mg base 2 "over" F_over) (c_times : DefP P w K mg base 2 "times" F_times) (F : Fun K "scale_beside" "scale_beside" (topS 16) f fd) (hm : mg "scale_beside" = some (.ref f)) : DefP P w K mg base 3 "scale_beside" F_scale_beside :=
  defP (N := ["book", "cell", "other", "scale", "there", "back"]) (ps := ["book", "cell", "other", "scale"]) F hm (F.binds fun _ _ _ _ _ _ us hl => match us, hl with | [_, _, _, _], _ => rfl) sc_scale_beside fun cdv A outer s H hr =>
    (ss_cons (ss_par2 4 5 (by rfl) sc_scale_beside.nd (sa_cons (se_callP c_factor_of hr (sa_cons (se_var 0) (sa_cons (se_var 1) (sa_cons (se_var 2) sa_nil)))) (sa_cons (se_callP c_factor_of hr (sa_cons (se_var 0) (sa_cons (se_var 2) (sa_cons (se_var 1) sa_nil)))) sa_nil))) (ss_cons (ss_if (SW.st (sw_or (st_eq (hr.rm.units) (se_var 5) (se_const k_ZERO)) (sw_or1 (st_le (se_callP c_compare hr (sa_cons (se_callP c_over hr (sa_cons (se_var 4) (sa_cons (se_var 5) sa_nil))) (sa_cons (se_const k_ZERO) sa_nil))) se_int)))) (ss_one (ss_ret se_non)) ss_nil) (ss_one (ss_ret (se_callP c_times hr (sa_cons (se_var 3) (sa_cons (se_callP c_over hr (sa_cons (se_var 4) (sa_cons (se_var 5) sa_nil))) sa_nil)))))))
theorem sc_scales_of : FnScope ["book", "scales", "first", "line", "here", "other", "scale", "cell", "at"] ["book"] (defScope (topS 17)) := ⟨rfl, rfl, rfl, by decide +kernel, rfl, by decide +kernel, by decide +kernel⟩
theorem ok_scales_of (fr : Free mg) (k_ONE : CK K mg "ONE" ONEd) (k_ZERO : CK K mg "ZERO" ZEROd) (c_factor_of : DefP P w K mg base 1 "factor_of" F_factor_of) (c_scale_beside : DefP P w K mg base 3 "scale_beside" F_scale_beside) (F : Fun K "scales_of" "scales_of" (topS 17) f fd) (hm : mg "scales_of" = some (.ref f)) : DefP P w K mg base 4 "scales_of" F_scales_of :=
  defP (N := ["book", "scales", "first", "line", "here", "other", "scale", "cell", "at"]) (ps := ["book"]) F hm (F.binds fun _ _ _ _ _ _ us hl => match us, hl with | [_], _ => rfl) sc_scales_of fun cdv A outer s H hr =>
    (ss_cons (ss_if (SW.st (sw_or (st_val (se_callB (cr_any (by rfl)) rn_any (by rfl) fr.any PyProof.Rows.boot_any (sa_cons (se_frz (sf_of_l (sl_lc (own := [("cell", 7)]) (by rfl) sc_scales_of.nd (blkOk_by (by kernel_rfl)) (by decide) (si_tp (se_var 0)) (fun _ _ _ _ _ => (sg_nm 7 sc_scales_of.nd)) (fun _ _ _ _ _ => sts_nil) (fun _ _ _ _ _ => (se_gt (se_callB call_len_seq rn_len (by rfl) fr.len PySem.boot_len (sa_cons (se_var 7) sa_nil)) se_int))))) sa_nil))) (sw_or1 (st_val (se_callB (cr_any (by rfl)) rn_any (by rfl) fr.any PyProof.Rows.boot_any (sa_cons (se_frz (sf_of_l (sl_lc (own := [("at", 8)]) (by rfl) sc_scales_of.nd (blkOk_by (by kernel_rfl)) (by decide) (si_rg1 (by rfl) fr.range (se_callB call_len_seq rn_len (by rfl) fr.len PySem.boot_len (sa_cons (se_var 0) sa_nil))) (fun _ _ _ _ _ => (sg_nm 8 sc_scales_of.nd)) (fun _ _ _ _ _ => sts_nil) (fun _ _ _ _ _ => (se_ne (hr.rm.units) (se_callP c_factor_of hr (sa_cons (se_var 0) (sa_cons (se_var 8) (sa_cons (se_var 8) sa_nil)))) (se_const k_ZERO)))))) sa_nil)))))) (ss_one (ss_ret se_non)) ss_nil) (ss_cons (ss_set 1 sc_scales_of.nd se_dicK) (ss_cons (ss_for PassesOwn.never (by rfl) (si_rg1 (by rfl) fr.range (se_callB call_len_seq rn_len (by rfl) fr.len PySem.boot_len (sa_cons (se_var 0) sa_nil))) (sg_nm 2 sc_scales_of.nd) (ss_forget [2, 3, 4, 5, 6] (ss_cons (ss_set 3 sc_scales_of.nd (se_if (st_din hr (se_var 2) (se_var 1)) (se_own (sf_lst sa_nil)) (se_own (sf_lst (sa_cons (se_var 2) sa_nil))))) (ss_cons (ss_exp (se_setd (se_var 1) (se_var 2) (se_const k_ONE))) (ss_one (ss_while PassesOwn.never (st_tru (se_var 3)) (ss_forget [4, 5, 6] (ss_cons (ss_set 4 sc_scales_of.nd (se_pop (se_var 3))) (ss_one (ss_for PassesOwn.never (by rfl) (si_rg1 (by rfl) fr.range (se_callB call_len_seq rn_len (by rfl) fr.len PySem.boot_len (sa_cons (se_var 0) sa_nil))) (sg_nm 5 sc_scales_of.nd) (ss_forget [5, 6] (ss_one (ss_if (st_ne (hr.rm.units) (se_callP c_factor_of hr (sa_cons (se_var 0) (sa_cons (se_var 4) (sa_cons (se_var 5) sa_nil)))) (se_const k_ZERO)) (ss_cons (ss_set 6 sc_scales_of.nd (se_callP c_scale_beside hr (sa_cons (se_var 0) (sa_cons (se_var 4) (sa_cons (se_var 5) (sa_cons (se_dget hr (se_var 1) (se_var 4)) sa_nil)))))) (ss_cons (ss_if (SW.st (sw_or (st_isN (se_var 6)) (sw_or1 (st_ne (hr.rm.units) (se_dget2 hr (se_var 1) (se_var 5) (se_var 6)) (se_var 6))))) (ss_one (ss_ret se_non)) ss_nil) (ss_one (ss_if (st_dnotin hr (se_var 5) (se_var 1)) (ss_cons (ss_dput hr (se_var 1) (se_var 5) (se_var 6)) (ss_one (ss_exp (se_append (se_var 3) (se_var 5))))) ss_nil)))) (ss_one (ss_if (st_ne (hr.rm.units) (se_callP c_factor_of hr (sa_cons (se_var 0) (sa_cons (se_var 5) (sa_cons (se_var 4) sa_nil)))) (se_const k_ZERO)) (ss_one (ss_ret se_non)) ss_nil))))))))))))))) (ss_one (ss_ret (se_callTy call_tuple_of rn_tuple (by rfl) fr.tuple PyProof.Rows.boot_tuple (sa_cons (se_frz (sf_of_l (sl_lc (own := [("cell", 7)]) (by rfl) sc_scales_of.nd (blkOk_by (by kernel_rfl)) (by decide) (si_rg1 (by rfl) fr.range (se_callB call_len_seq rn_len (by rfl) fr.len PySem.boot_len (sa_cons (se_var 0) sa_nil))) (fun _ _ _ _ _ => (sg_nm 7 sc_scales_of.nd)) (fun _ _ _ _ _ => sts_nil) (fun _ _ _ _ _ => (se_dget hr (se_var 1) (se_var 7)))))) sa_nil)))))))
theorem sc_need_scales : FnScope ["book", "scales"] ["book"] (defScope (topS 18)) := ⟨rfl, rfl, rfl, by decide +kernel, rfl, by decide +kernel, by decide +kernel⟩
theorem ok_need_scales (fr : Free mg) (c_scales_of : DefP P w K mg base 4 "scales_of" F_scales_of) (F : Fun K "need_scales" "need_scales" (topS 18) f fd) (hm : mg "need_scales" = some (.ref f)) : DefP P w K mg base 5 "need_scales" F_need_scales :=
  defP (N := ["book", "scales"]) (ps := ["book"]) F hm (F.binds fun _ _ _ _ _ _ us hl => match us, hl with | [_], _ => rfl) sc_need_scales fun cdv A outer s H hr =>
    (ss_cons (ss_set 1 sc_need_scales.nd (se_callP c_scales_of hr (sa_cons (se_var 0) sa_nil))) (ss_cons (ss_if (st_isN (se_var 1)) (ss_one ss_stuck) ss_nil) (ss_one (ss_ret (se_var 1)))))
theorem sc_energy_rows : FnScope ["book", "rows", "cell", "scale", "row", "factor"] ["book"] (defScope (topS 19)) := ⟨rfl, rfl, rfl, by decide +kernel, rfl, by decide +kernel, by decide +kernel⟩
theorem ok_energy_rows (fr : Free mg) (k_ZERO : CK K mg "ZERO" ZEROd) (c_less : DefP P w K mg base 2 "less" F_less) (c_need_scales : DefP P w K mg base 5 "need_scales" F_need_scales) (c_times : DefP P w K mg base 2 "times" F_times) (F : Fun K "energy_rows" "energy_rows" (topS 19) f fd) (hm : mg "energy_rows" = some (.ref f)) : DefP P w K mg base 6 "energy_rows" F_energy_rows :=
  defP (N := ["book", "rows", "cell", "scale", "row", "factor"]) (ps := ["book"]) F hm (F.binds fun _ _ _ _ _ _ us hl => match us, hl with | [_], _ => rfl) sc_energy_rows fun cdv A outer s H hr =>
    (ss_cons (ss_set 1 sc_energy_rows.nd (se_own (sf_lst sa_nil))) (ss_cons (ss_for PassesOwn.never (by rfl) (si_en (by rfl) fr.enumerate (se_callP c_need_scales hr (sa_cons (se_var 0) sa_nil))) (sg_tp (by rfl) (sgs_cons (sg_nm 2 sc_energy_rows.nd) (sgs_cons (sg_nm 3 sc_energy_rows.nd) sgs_nil))) (ss_forget [2, 3, 4] (ss_cons (ss_setLc (own := [("factor", 5)]) 4 (by rfl) sc_energy_rows.nd (blkOk_by (by kernel_rfl)) (by decide) (si_tp (se_ix (se_ix (se_ix (se_var 0) (se_var 2)) se_int) se_int)) (fun _ _ _ _ _ => (sg_nm 5 sc_energy_rows.nd)) (fun _ _ _ _ _ => sts_nil) (fun _ _ _ _ _ => (se_callP c_less hr (sa_cons (se_const k_ZERO) (sa_cons (se_callP c_times hr (sa_cons (se_var 3) (sa_cons (se_var 5) sa_nil))) sa_nil)))) k_own (by rfl)) (ss_cons (ss_setIx (se_var 4) (se_var 2) (se_var 3)) (ss_one (ss_exp (se_appL (se_var 1) (se_var 4)))))))) (ss_one (ss_ret (se_var 1)))))
theorem sc_energy : FnScope ["book", "values", "found", "row", "value", "item", "other"] ["book", "values"] (defScope (topS 20)) := ⟨rfl, rfl, rfl, by decide +kernel, rfl, by decide +kernel, by decide +kernel⟩
theorem ok_energy (fr : Free mg) (k_ZERO : CK K mg "ZERO" ZEROd) (c_energy_rows : DefP P w K mg base 6 "energy_rows" F_energy_rows) (c_plus : DefP P w K mg base 2 "plus" F_plus) (c_times : DefP P w K mg base 2 "times" F_times) (F : Fun K "energy" "energy" (topS 20) f fd) (hm : mg "energy" = some (.ref f)) : DefP P w K mg base 7 "energy" F_energy :=
  defP (N := ["book", "values", "found", "row", "value", "item", "other"]) (ps := ["book", "values"]) F hm (F.binds fun _ _ _ _ _ _ us hl => match us, hl with | [_, _], _ => rfl) sc_energy fun cdv A outer s H hr =>
    (ss_cons (ss_set 2 sc_energy.nd (se_const k_ZERO)) (ss_cons (ss_for PassesOwn.never (by rfl) (si_zp (by rfl) fr.zip (se_callP c_energy_rows hr (sa_cons (se_var 0) sa_nil)) (se_var 1)) (sg_tp (by rfl) (sgs_cons (sg_nm 3 sc_energy.nd) (sgs_cons (sg_nm 4 sc_energy.nd) sgs_nil))) (ss_forget [3, 4, 5, 6] (ss_one (ss_for PassesOwn.never (by rfl) (si_zp (by rfl) fr.zip (se_var 3) (se_var 1)) (sg_tp (by rfl) (sgs_cons (sg_nm 5 sc_energy.nd) (sgs_cons (sg_nm 6 sc_energy.nd) sgs_nil))) (ss_forget [5, 6] (ss_one (ss_set 2 sc_energy.nd (se_callP c_plus hr (sa_cons (se_var 2) (sa_cons (se_callP c_times hr (sa_cons (se_var 5) (sa_cons (se_callP c_times hr (sa_cons (se_var 4) (sa_cons (se_var 6) sa_nil))) sa_nil))) sa_nil)))))))))) (ss_one (ss_ret (se_var 2)))))
theorem sc_squares_until : FnScope ["rows", "found", "at", "part", "shares", "one", "by", "other", "row", "item"] ["rows"] (defScope (topS 21)) := ⟨rfl, rfl, rfl, by decide +kernel, rfl, by decide +kernel, by decide +kernel⟩
theorem ok_squares_until (fr : Free mg) (k_ZERO : CK K mg "ZERO" ZEROd) (c_compare : DefP P w K mg base 1 "compare" F_compare) (c_less : DefP P w K mg base 2 "less" F_less) (c_over : DefP P w K mg base 2 "over" F_over) (c_times : DefP P w K mg base 2 "times" F_times) (F : Fun K "squares_until" "squares_until" (topS 21) f fd) (hm : mg "squares_until" = some (.ref f)) : DefP P w K mg base 3 "squares_until" F_squares_until :=
  defP (N := ["rows", "found", "at", "part", "shares", "one", "by", "other", "row", "item"]) (ps := ["rows"]) F hm (F.binds fun _ _ _ _ _ _ us hl => match us, hl with | [_], _ => rfl) sc_squares_until fun cdv A outer s H hr =>
    (ss_cons (ss_par2 0 1 (by rfl) sc_squares_until.nd (sa_cons (se_of_l (sl_lc (own := [("row", 8)]) (by rfl) sc_squares_until.nd (blkOk_by (by kernel_rfl)) (by decide) (si_lst (se_var 0)) (fun _ _ _ _ _ => (sg_nm 8 sc_squares_until.nd)) (fun _ _ _ _ _ => sts_nil) (fun _ _ _ _ _ => (se_own (sf_callTy call_list_of rn_list (by rfl) fr.list PyProof.Rows.boot_list (sa_cons (se_var 8) sa_nil)))))) (sa_cons (se_own (sf_lst sa_nil)) sa_nil))) (ss_cons (ss_for PassesOwn.never (by rfl) (si_rg1 (by rfl) fr.range (se_lenL (by rfl) fr.len (se_var 0))) (sg_nm 2 sc_squares_until.nd) (ss_forget [2, 3, 4, 5, 6, 7] (ss_cons (ss_set 3 sc_squares_until.nd (se_ix (se_ix (se_var 0) (se_var 2)) (se_var 2))) (ss_cons (ss_if (st_le (se_callP c_compare hr (sa_cons (se_var 3) (sa_cons (se_const k_ZERO) sa_nil))) se_int) (ss_one (ss_ret (se_frz (sf_add (se_var 1) (se_frz (sf_lst (sa_cons (se_tup (sa_cons (se_var 3) (sa_cons (se_tup sa_nil) sa_nil))) sa_nil))))))) ss_nil) (ss_cons (ss_setLc (own := [("item", 9)]) 4 (by rfl) sc_squares_until.nd (blkOk_by (by kernel_rfl)) (by decide) (si_lst (se_frz (sf_sl (se_ix (se_var 0) (se_var 2)) (so_some (se_add (se_var 2) se_int)) so_none))) (fun _ _ _ _ _ => (sg_nm 9 sc_squares_until.nd)) (fun _ _ _ _ _ => sts_nil) (fun _ _ _ _ _ => (se_callP c_over hr (sa_cons (se_var 9) (sa_cons (se_var 3) sa_nil)))) k_frz (by rfl)) (ss_cons (ss_exp (se_append (se_var 1) (se_tup (sa_cons (se_var 3) (sa_cons (se_callTy call_tuple_of rn_tuple (by rfl) fr.tuple PyProof.Rows.boot_tuple (sa_cons (se_var 4) sa_nil)) sa_nil))))) (ss_one (ss_for PassesOwn.never (by rfl) (si_rg2 (by rfl) fr.range (se_add (se_var 2) se_int) (se_lenL (by rfl) fr.len (se_var 0))) (sg_nm 5 sc_squares_until.nd) (ss_forget [5, 6, 7] (ss_cons (ss_set 6 sc_squares_until.nd (se_ix (se_ix (se_var 0) (se_var 5)) (se_var 2))) (ss_one (ss_for PassesOwn.never (by rfl) (si_rg2 (by rfl) fr.range (se_add (se_var 2) se_int) (se_lenL (by rfl) fr.len (se_var 0))) (sg_nm 7 sc_squares_until.nd) (ss_forget [7] (ss_one (ss_setIx (se_ix (se_var 0) (se_var 5)) (se_var 7) (se_callP c_less hr (sa_cons (se_ix (se_ix (se_var 0) (se_var 5)) (se_var 7)) (sa_cons (se_callP c_times hr (sa_cons (se_var 6) (sa_cons (se_ix (se_var 4) (se_sub (se_sub (se_var 7) (se_var 2)) se_int)) sa_nil))) sa_nil)))))))))))))))))) (ss_one (ss_ret (se_var 1)))))
theorem sc_squares_of : FnScope ["book", "found"] ["book"] (defScope (topS 22)) := ⟨rfl, rfl, rfl, by decide +kernel, rfl, by decide +kernel, by decide +kernel⟩
theorem ok_squares_of (fr : Free mg) (k_ZERO : CK K mg "ZERO" ZEROd) (c_compare : DefP P w K mg base 1 "compare" F_compare) (c_energy_rows : DefP P w K mg base 6 "energy_rows" F_energy_rows) (c_squares_until : DefP P w K mg base 3 "squares_until" F_squares_until) (F : Fun K "squares_of" "squares_of" (topS 22) f fd) (hm : mg "squares_of" = some (.ref f)) : DefP P w K mg base 7 "squares_of" F_squares_of :=
  defP (N := ["book", "found"]) (ps := ["book"]) F hm (F.binds fun _ _ _ _ _ _ us hl => match us, hl with | [_], _ => rfl) sc_squares_of fun cdv A outer s H hr =>
    (ss_cons (ss_set 1 sc_squares_of.nd (se_callP c_squares_until hr (sa_cons (se_callP c_energy_rows hr (sa_cons (se_var 0) sa_nil)) sa_nil))) (ss_one (ss_ret (se_if (st_gt (se_callP c_compare hr (sa_cons (se_ix (se_ix (se_var 1) (se_neg se_int)) se_int) (sa_cons (se_const k_ZERO) sa_nil))) se_int) (se_callTy call_tuple_of rn_tuple (by rfl) fr.tuple PyProof.Rows.boot_tuple (sa_cons (se_var 1) sa_nil)) se_non))))
theorem sc_low_values : FnScope ["book", "found", "values", "last", "cell", "share", "value"] ["book"] (defScope (topS 23)) := ⟨rfl, rfl, rfl, by decide +kernel, rfl, by decide +kernel, by decide +kernel⟩
theorem ok_low_values (fr : Free mg) (k_ONE : CK K mg "ONE" ONEd) (k_ZERO : CK K mg "ZERO" ZEROd) (c_compare : DefP P w K mg base 1 "compare" F_compare) (c_energy_rows : DefP P w K mg base 6 "energy_rows" F_energy_rows) (c_less : DefP P w K mg base 2 "less" F_less) (c_squares_until : DefP P w K mg base 3 "squares_until" F_squares_until) (c_times : DefP P w K mg base 2 "times" F_times) (F : Fun K "low_values" "low_values" (topS 23) f fd) (hm : mg "low_values" = some (.ref f)) : DefP P w K mg base 7 "low_values" F_low_values :=
  defP (N := ["book", "found", "values", "last", "cell", "share", "value"]) (ps := ["book"]) F hm (F.binds fun _ _ _ _ _ _ us hl => match us, hl with | [_], _ => rfl) sc_low_values fun cdv A outer s H hr =>
    (ss_cons (ss_set 1 sc_low_values.nd (se_callP c_squares_until hr (sa_cons (se_callP c_energy_rows hr (sa_cons (se_var 0) sa_nil)) sa_nil))) (ss_cons (ss_if (st_gt (se_callP c_compare hr (sa_cons (se_ix (se_ix (se_var 1) (se_neg se_int)) se_int) (sa_cons (se_const k_ZERO) sa_nil))) se_int) (ss_one (ss_ret se_non)) ss_nil) (ss_cons (ss_set 2 sc_low_values.nd (se_own (sf_mul (se_frz (sf_lst (sa_cons (se_const k_ZERO) sa_nil))) (se_callB call_len_seq rn_len (by rfl) fr.len PySem.boot_len (sa_cons (se_var 0) sa_nil))))) (ss_cons (ss_set 3 sc_low_values.nd (se_sub (se_callB call_len_seq rn_len (by rfl) fr.len PySem.boot_len (sa_cons (se_var 1) sa_nil)) se_int)) (ss_cons (ss_setIx (se_var 2) (se_var 3) (se_const k_ONE)) (ss_cons (ss_for PassesOwn.never (by rfl) (si_rgD (by rfl) fr.range (se_sub (se_var 3) se_int) (se_neg se_int)) (sg_nm 4 sc_low_values.nd) (ss_forget [4, 5, 6] (ss_one (ss_for PassesOwn.never (by rfl) (si_zp (by rfl) fr.zip (se_ix (se_ix (se_var 1) (se_var 4)) se_int) (se_frz (sf_sl (se_var 2) (so_some (se_add (se_var 4) se_int)) so_none))) (sg_tp (by rfl) (sgs_cons (sg_nm 5 sc_low_values.nd) (sgs_cons (sg_nm 6 sc_low_values.nd) sgs_nil))) (ss_forget [5, 6] (ss_one (ss_setIx (se_var 2) (se_var 4) (se_callP c_less hr (sa_cons (se_ix (se_var 2) (se_var 4)) (sa_cons (se_callP c_times hr (sa_cons (se_var 5) (sa_cons (se_var 6) sa_nil))) sa_nil)))))))))) (ss_one (ss_ret (se_callTy call_tuple_of rn_tuple (by rfl) fr.tuple PyProof.Rows.boot_tuple (sa_cons (se_var 2) sa_nil))))))))))
theorem sc__law_bag : FnScope ["_law_script", "_law_cell"] ["_law_script"] (defScope (topS 25)) := ⟨rfl, rfl, rfl, by decide +kernel, rfl, by decide +kernel, by decide +kernel⟩
theorem ok__law_bag (fr : Free mg) (F : Fun K "_law_bag" "_law_bag" (topS 25) f fd) (hm : mg "_law_bag" = some (.ref f)) : DefS P w K mg base 1 "_law_bag" F__law_bag :=
  defL (N := ["_law_script", "_law_cell"]) (ps := ["_law_script"]) F hm (F.binds fun _ _ _ _ _ _ us hl => match us, hl with | [_], _ => rfl) sc__law_bag fun cdv A outer s H hr =>
    (ss_one (ss_ret (se_own (sf_lst (sa_cons se_int (sa_cons se_int (sa_cons se_int (sa_cons (se_frz (sf_of_l (sl_lc (own := [("_law_cell", 1)]) (by rfl) sc__law_bag.nd (blkOk_by (by kernel_rfl)) (by decide) (si_lst (se_frz (sf_sl (se_var 0) so_none (so_some se_int)))) (fun _ _ _ _ _ => (sg_nm 1 sc__law_bag.nd)) (fun _ _ _ _ _ => sts_nil) (fun _ _ _ _ _ => (se_callB call_abs rn_abs (by rfl) fr.abs PyProof.Rows.boot_abs (sa_cons (se_var 1) sa_nil)))))) sa_nil))))))))
theorem sc__law_take : FnScope ["_law_bag_here", "_law_many", "_law_cell", "_law_stirred", "_law_value_here", "_law_begin", "_law_second"] ["_law_bag_here", "_law_many"] (defScope (topS 26)) := ⟨rfl, rfl, rfl, by decide +kernel, rfl, by decide +kernel, by decide +kernel⟩
theorem ok__law_take (fr : Free mg) (F : Fun K "_law_take" "_law_take" (topS 26) f fd) (hm : mg "_law_take" = some (.ref f)) : DefS P w K mg base 1 "_law_take" F__law_take :=
  defS (N := ["_law_bag_here", "_law_many", "_law_cell", "_law_stirred", "_law_value_here", "_law_begin", "_law_second"]) (ps := ["_law_bag_here", "_law_many"]) F hm (F.binds fun _ _ _ _ _ _ us hl => match us, hl with | [_, _], _ => rfl) sc__law_take fun cdv A outer s H hr =>
    (ss_cons (ss_if (st_eq (hr.rm.units) (se_ix (se_var 0) se_int) se_int) (ss_cons (ss_set 2 sc__law_take.nd (se_ix (se_frz (sf_add (se_frz (sf_sl (se_ix (se_var 0) se_int) (so_some (se_ix (se_var 0) se_int)) so_none)) (se_frz (sf_lst (sa_cons se_int sa_nil))))) se_int)) (ss_cons (ss_augIx (se_var 0) se_int se_int ip_add) (ss_cons (ss_if (st_ge (se_var 2) (se_pow se_int se_int)) (ss_one (ss_setIx (se_var 0) se_int (se_var 2))) ss_nil) (ss_cons (ss_set 3 sc__law_take.nd (se_add (se_add (se_mul (se_ix (se_var 0) se_int) se_int) (se_mod (se_callTy call_int1 rn_int (by rfl) fr.int PyProof.Rows.boot_int (sa_cons (se_var 2) sa_nil)) se_int)) (se_mul se_int (se_ix (se_var 0) se_int)))) (ss_one (ss_setIx (se_var 0) se_int (se_mod (se_callTy call_int1 rn_int (by rfl) fr.int PyProof.Rows.boot_int (sa_cons (se_var 3) sa_nil)) se_int))))))) ss_nil) (ss_cons (ss_if (st_gt (se_ix (se_var 0) se_int) se_int) (ss_cons (ss_set 4 sc__law_take.nd (se_mod (se_callTy call_int1 rn_int (by rfl) fr.int PyProof.Rows.boot_int (sa_cons (se_ix (se_var 0) se_int) sa_nil)) (se_var 1))) (ss_cons (ss_setIx (se_var 0) se_int (se_div (se_callTy call_int1 rn_int (by rfl) fr.int PyProof.Rows.boot_int (sa_cons (se_ix (se_var 0) se_int) sa_nil)) (se_var 1))) (ss_one (ss_ret (se_var 4))))) ss_nil) (ss_cons (ss_set 5 sc__law_take.nd (se_mod (se_callTy call_int1 rn_int (by rfl) fr.int PyProof.Rows.boot_int (sa_cons (se_mul (se_add (se_ix (se_var 0) se_int) se_int) se_int) sa_nil)) se_int)) (ss_cons (ss_set 6 sc__law_take.nd (se_mod (se_callTy call_int1 rn_int (by rfl) fr.int PyProof.Rows.boot_int (sa_cons (se_mul (se_mod (se_callTy call_int1 rn_int (by rfl) fr.int PyProof.Rows.boot_int (sa_cons (se_mul (se_var 5) (se_var 5)) sa_nil)) se_int) se_int) sa_nil)) se_int)) (ss_one (ss_ret (se_mod (se_callTy call_int1 rn_int (by rfl) fr.int PyProof.Rows.boot_int (sa_cons (se_div (se_var 6) se_int) sa_nil)) (se_var 1))))))))
theorem sc__law_some : FnScope ["_law_bag_here", "_law_things"] ["_law_bag_here", "_law_things"] (defScope (topS 27)) := ⟨rfl, rfl, rfl, by decide +kernel, rfl, by decide +kernel, by decide +kernel⟩
theorem ok__law_some (fr : Free mg) (c__law_take : DefS P w K mg base 1 "_law_take" F__law_take) (F : Fun K "_law_some" "_law_some" (topS 27) f fd) (hm : mg "_law_some" = some (.ref f)) : DefS P w K mg base 2 "_law_some" F__law_some :=
  defS (N := ["_law_bag_here", "_law_things"]) (ps := ["_law_bag_here", "_law_things"]) F hm (F.binds fun _ _ _ _ _ _ us hl => match us, hl with | [_, _], _ => rfl) sc__law_some fun cdv A outer s H hr =>
    (ss_one (ss_ret (se_ix (se_var 1) (se_callS c__law_take hr (sa_cons (se_var 0) (sa_cons (se_callB call_len_seq rn_len (by rfl) fr.len PySem.boot_len (sa_cons (se_var 1) sa_nil)) sa_nil))))))
theorem sc__law_alike : FnScope ["_law_found", "_law_due"] ["_law_found", "_law_due"] (defScope (topS 28)) := ⟨rfl, rfl, rfl, by decide +kernel, rfl, by decide +kernel, by decide +kernel⟩
theorem ok__law_alike (fr : Free mg) (F : Fun K "_law_alike" "_law_alike" (topS 28) f fd) (hm : mg "_law_alike" = some (.ref f)) : DefP P w K mg base 1 "_law_alike" F__law_alike :=
  defP (N := ["_law_found", "_law_due"]) (ps := ["_law_found", "_law_due"]) F hm (F.binds fun _ _ _ _ _ _ us hl => match us, hl with | [_, _], _ => rfl) sc__law_alike fun cdv A outer s H hr =>
    (ss_one (ss_ret (se_and (se_eq (hr.rm.units) (se_var 0) (se_var 1)) (se_one (se_eq (hr.rm.units) (se_callB (call_repr hr) rn_repr (by rfl) fr.repr PyProof.Rows.boot_repr (sa_cons (se_var 0) sa_nil)) (se_callB (call_repr hr) rn_repr (by rfl) fr.repr PyProof.Rows.boot_repr (sa_cons (se_var 1) sa_nil)))))))
theorem sc__law_gcd : FnScope ["_law_one", "_law_other"] ["_law_one", "_law_other"] (defScope (topS 29)) := ⟨rfl, rfl, rfl, by decide +kernel, rfl, by decide +kernel, by decide +kernel⟩
theorem ok__law_gcd (fr : Free mg) (F : Fun K "_law_gcd" "_law_gcd" (topS 29) f fd) (hm : mg "_law_gcd" = some (.ref f)) : DefP P w K mg base 1 "_law_gcd" F__law_gcd :=
  defP (N := ["_law_one", "_law_other"]) (ps := ["_law_one", "_law_other"]) F hm (F.binds fun _ _ _ _ _ _ us hl => match us, hl with | [_, _], _ => rfl) sc__law_gcd fun cdv A outer s H hr =>
    (ss_cons (ss_par2 0 1 (by rfl) sc__law_gcd.nd (sa_cons (se_callB call_abs rn_abs (by rfl) fr.abs PyProof.Rows.boot_abs (sa_cons (se_var 0) sa_nil)) (sa_cons (se_callB call_abs rn_abs (by rfl) fr.abs PyProof.Rows.boot_abs (sa_cons (se_var 1) sa_nil)) sa_nil))) (ss_cons (ss_while PassesOwn.never (st_gt (se_var 1) se_int) (ss_one (ss_par2 0 1 (by rfl) sc__law_gcd.nd (sa_cons (se_var 1) (sa_cons (se_sub (se_var 0) (se_mul (se_div (se_var 0) (se_var 1)) (se_var 1))) sa_nil))))) (ss_one (ss_ret (se_var 0)))))
theorem sc__law_f : FnScope ["_law_num", "_law_den", "_law_part"] ["_law_num", "_law_den"] (defScope (topS 30)) := ⟨rfl, rfl, rfl, by decide +kernel, rfl, by decide +kernel, by decide +kernel⟩
theorem ok__law_f (fr : Free mg) (c__law_gcd : DefP P w K mg base 1 "_law_gcd" F__law_gcd) (F : Fun K "_law_f" "_law_f" (topS 30) f fd) (hm : mg "_law_f" = some (.ref f)) : DefP P w K mg base 2 "_law_f" F__law_f :=
  defP (N := ["_law_num", "_law_den", "_law_part"]) (ps := ["_law_num", "_law_den"]) F hm (F.binds fun _ _ _ _ _ _ us hl => match us, hl with | [_, _], _ => rfl) sc__law_f fun cdv A outer s H hr =>
    (ss_cons (ss_set 2 sc__law_f.nd (se_mul (se_callP c__law_gcd hr (sa_cons (se_var 0) (sa_cons (se_var 1) sa_nil))) (se_if (st_gt (se_var 1) se_int) se_int (se_neg se_int)))) (ss_one (ss_ret (se_tup (sa_cons (se_div (se_var 0) (se_var 2)) (sa_cons (se_div (se_var 1) (se_var 2)) sa_nil))))))
theorem sc__law_plus : FnScope ["_law_one", "_law_other"] ["_law_one", "_law_other"] (defScope (topS 31)) := ⟨rfl, rfl, rfl, by decide +kernel, rfl, by decide +kernel, by decide +kernel⟩
theorem ok__law_plus (fr : Free mg) (c__law_f : DefP P w K mg base 2 "_law_f" F__law_f) (F : Fun K "_law_plus" "_law_plus" (topS 31) f fd) (hm : mg "_law_plus" = some (.ref f)) : DefP P w K mg base 3 "_law_plus" F__law_plus :=
  defP (N := ["_law_one", "_law_other"]) (ps := ["_law_one", "_law_other"]) F hm (F.binds fun _ _ _ _ _ _ us hl => match us, hl with | [_, _], _ => rfl) sc__law_plus fun cdv A outer s H hr =>
    (ss_one (ss_ret (se_callP c__law_f hr (sa_cons (se_add (se_mul (se_ix (se_var 0) se_int) (se_ix (se_var 1) se_int)) (se_mul (se_ix (se_var 1) se_int) (se_ix (se_var 0) se_int))) (sa_cons (se_mul (se_ix (se_var 0) se_int) (se_ix (se_var 1) se_int)) sa_nil)))))
theorem sc__law_minus : FnScope ["_law_one", "_law_other"] ["_law_one", "_law_other"] (defScope (topS 32)) := ⟨rfl, rfl, rfl, by decide +kernel, rfl, by decide +kernel, by decide +kernel⟩
theorem ok__law_minus (fr : Free mg) (c__law_f : DefP P w K mg base 2 "_law_f" F__law_f) (F : Fun K "_law_minus" "_law_minus" (topS 32) f fd) (hm : mg "_law_minus" = some (.ref f)) : DefP P w K mg base 3 "_law_minus" F__law_minus :=
  defP (N := ["_law_one", "_law_other"]) (ps := ["_law_one", "_law_other"]) F hm (F.binds fun _ _ _ _ _ _ us hl => match us, hl with | [_, _], _ => rfl) sc__law_minus fun cdv A outer s H hr =>
    (ss_one (ss_ret (se_callP c__law_f hr (sa_cons (se_sub (se_mul (se_ix (se_var 0) se_int) (se_ix (se_var 1) se_int)) (se_mul (se_ix (se_var 1) se_int) (se_ix (se_var 0) se_int))) (sa_cons (se_mul (se_ix (se_var 0) se_int) (se_ix (se_var 1) se_int)) sa_nil)))))
theorem sc__law_by : FnScope ["_law_one", "_law_other"] ["_law_one", "_law_other"] (defScope (topS 33)) := ⟨rfl, rfl, rfl, by decide +kernel, rfl, by decide +kernel, by decide +kernel⟩
theorem ok__law_by (fr : Free mg) (c__law_f : DefP P w K mg base 2 "_law_f" F__law_f) (F : Fun K "_law_by" "_law_by" (topS 33) f fd) (hm : mg "_law_by" = some (.ref f)) : DefP P w K mg base 3 "_law_by" F__law_by :=
  defP (N := ["_law_one", "_law_other"]) (ps := ["_law_one", "_law_other"]) F hm (F.binds fun _ _ _ _ _ _ us hl => match us, hl with | [_, _], _ => rfl) sc__law_by fun cdv A outer s H hr =>
    (ss_one (ss_ret (se_callP c__law_f hr (sa_cons (se_mul (se_ix (se_var 0) se_int) (se_ix (se_var 1) se_int)) (sa_cons (se_mul (se_ix (se_var 0) se_int) (se_ix (se_var 1) se_int)) sa_nil)))))
theorem sc__law_total : FnScope ["_law_some_here", "_law_found", "_law_one"] ["_law_some_here"] (defScope (topS 34)) := ⟨rfl, rfl, rfl, by decide +kernel, rfl, by decide +kernel, by decide +kernel⟩
theorem ok__law_total (fr : Free mg) (c__law_plus : DefP P w K mg base 3 "_law_plus" F__law_plus) (F : Fun K "_law_total" "_law_total" (topS 34) f fd) (hm : mg "_law_total" = some (.ref f)) : DefP P w K mg base 4 "_law_total" F__law_total :=
  defP (N := ["_law_some_here", "_law_found", "_law_one"]) (ps := ["_law_some_here"]) F hm (F.binds fun _ _ _ _ _ _ us hl => match us, hl with | [_], _ => rfl) sc__law_total fun cdv A outer s H hr =>
    (ss_cons (ss_set 1 sc__law_total.nd (se_tup (sa_cons se_int (sa_cons se_int sa_nil)))) (ss_cons (ss_for PassesOwn.never (by rfl) (si_lst (se_var 0)) (sg_nm 2 sc__law_total.nd) (ss_forget [2] (ss_one (ss_set 1 sc__law_total.nd (se_callP c__law_plus hr (sa_cons (se_var 1) (sa_cons (se_var 2) sa_nil))))))) (ss_one (ss_ret (se_var 1)))))
theorem sc__law_value : FnScope ["_law_rule", "_law_values", "_law_factor", "_law_value_here"] ["_law_rule", "_law_values"] (defScope (topS 35)) := ⟨rfl, rfl, rfl, by decide +kernel, rfl, by decide +kernel, by decide +kernel⟩
theorem ok__law_value (fr : Free mg) (c__law_by : DefP P w K mg base 3 "_law_by" F__law_by) (c__law_total : DefP P w K mg base 4 "_law_total" F__law_total) (F : Fun K "_law_value" "_law_value" (topS 35) f fd) (hm : mg "_law_value" = some (.ref f)) : DefP P w K mg base 5 "_law_value" F__law_value :=
  defP (N := ["_law_rule", "_law_values", "_law_factor", "_law_value_here"]) (ps := ["_law_rule", "_law_values"]) F hm (F.binds fun _ _ _ _ _ _ us hl => match us, hl with | [_, _], _ => rfl) sc__law_value fun cdv A outer s H hr =>
    (ss_one (ss_ret (se_callP c__law_total hr (sa_cons (se_frz (sf_add (se_frz (sf_lst (sa_cons (se_ix (se_var 0) se_int) sa_nil))) (se_frz (sf_of_l (sl_lc (own := [("_law_factor", 2), ("_law_value_here", 3)]) (by rfl) sc__law_value.nd (blkOk_by (by kernel_rfl)) (by decide) (si_zp (by rfl) fr.zip (se_ix (se_var 0) se_int) (se_var 1)) (fun _ _ _ _ _ => (sg_tp (by rfl) (sgs_cons (sg_nm 2 sc__law_value.nd) (sgs_cons (sg_nm 3 sc__law_value.nd) sgs_nil)))) (fun _ _ _ _ _ => sts_one (st_ne (hr.rm.units) (se_ix (se_var 2) se_int) se_int)) (fun _ _ _ _ _ => (se_callP c__law_by hr (sa_cons (se_var 2) (sa_cons (se_var 3) sa_nil))))))))) sa_nil))))
theorem sc__law_some_fraction : FnScope ["_law_bag_here", "_law_menu"] ["_law_bag_here"] (defScope (topS 36)) := ⟨rfl, rfl, rfl, by decide +kernel, rfl, by decide +kernel, by decide +kernel⟩
theorem ok__law_some_fraction (fr : Free mg) (c__law_some : DefS P w K mg base 2 "_law_some" F__law_some) (c__law_take : DefS P w K mg base 1 "_law_take" F__law_take) (F : Fun K "_law_some_fraction" "_law_some_fraction" (topS 36) f fd) (hm : mg "_law_some_fraction" = some (.ref f)) : DefS P w K mg base 3 "_law_some_fraction" F__law_some_fraction :=
  defS (N := ["_law_bag_here", "_law_menu"]) (ps := ["_law_bag_here"]) F hm (F.binds fun _ _ _ _ _ _ us hl => match us, hl with | [_], _ => rfl) sc__law_some_fraction fun cdv A outer s H hr =>
    (ss_cons (ss_set 1 sc__law_some_fraction.nd (se_frz (sf_lst (sa_cons (se_tup (sa_cons se_int (sa_cons se_int sa_nil))) (sa_cons (se_tup (sa_cons se_int (sa_cons se_int sa_nil))) (sa_cons (se_tup (sa_cons (se_neg se_int) (sa_cons se_int sa_nil))) (sa_cons (se_tup (sa_cons se_int (sa_cons se_int sa_nil))) (sa_cons (se_tup (sa_cons (se_neg se_int) (sa_cons se_int sa_nil))) (sa_cons (se_tup (sa_cons se_int (sa_cons se_int sa_nil))) (sa_cons (se_tup (sa_cons se_int (sa_cons se_int sa_nil))) (sa_cons (se_tup (sa_cons (se_neg se_int) (sa_cons se_int sa_nil))) sa_nil))))))))))) (ss_one (ss_ret (se_callS c__law_some hr (sa_cons (se_var 0) (sa_cons (se_frz (sf_add (se_var 1) (se_frz (sf_lst (sa_cons (se_tup (sa_cons (se_sub (se_callS c__law_take hr (sa_cons (se_var 0) (sa_cons se_int sa_nil))) se_int) (sa_cons se_int sa_nil))) sa_nil))))) sa_nil))))))
theorem sc__law_even_book : FnScope ["_law_bag_here", "_law_most", "_law_many", "_law_scales_here", "_law_ties", "_law_top", "_law_one", "_law_other", "_law_book", "_law_cell", "_law_row", "_law_k"] ["_law_bag_here", "_law_most"] (defScope (topS 37)) := ⟨rfl, rfl, rfl, by decide +kernel, rfl, by decide +kernel, by decide +kernel⟩
theorem ok__law_even_book (fr : Free mg) (c__law_f : DefP P w K mg base 2 "_law_f" F__law_f) (c__law_some : DefS P w K mg base 2 "_law_some" F__law_some) (c__law_some_fraction : DefS P w K mg base 3 "_law_some_fraction" F__law_some_fraction) (c__law_take : DefS P w K mg base 1 "_law_take" F__law_take) (F : Fun K "_law_even_book" "_law_even_book" (topS 37) f fd) (hm : mg "_law_even_book" = some (.ref f)) : DefS P w K mg base 4 "_law_even_book" F__law_even_book :=
  defS (N := ["_law_bag_here", "_law_most", "_law_many", "_law_scales_here", "_law_ties", "_law_top", "_law_one", "_law_other", "_law_book", "_law_cell", "_law_row", "_law_k"]) (ps := ["_law_bag_here", "_law_most"]) F hm (F.binds fun _ _ _ _ _ _ us hl => match us, hl with | [_, _], _ => rfl) sc__law_even_book fun cdv A outer s H hr =>
    (ss_cons (ss_set 2 sc__law_even_book.nd (se_add se_int (se_callS c__law_take hr (sa_cons (se_var 0) (sa_cons (se_var 1) sa_nil))))) (ss_cons (ss_parT (by rfl) (sa_cons (se_frz (sf_of_l (sl_lc (own := [("_law_k", 11)]) (by rfl) sc__law_even_book.nd (blkOk_by (by kernel_rfl)) (by decide) (si_rg1 (by rfl) fr.range (se_var 2)) (fun _ _ _ _ _ => (sg_nm 11 sc__law_even_book.nd)) (fun _ _ _ _ _ => sts_nil) (fun _ _ _ _ _ => (se_add se_int (se_callS c__law_take hr (sa_cons (se_var 0) (sa_cons se_int sa_nil)))))))) (sa_cons se_dicT sa_nil)) (sgs_cons (sg_nm 3 sc__law_even_book.nd) (sgs_cons (sg_nm 4 sc__law_even_book.nd) sgs_nil))) (ss_cons (ss_set 5 sc__law_even_book.nd (se_callS c__law_some hr (sa_cons (se_var 0) (sa_cons (se_frz (sf_lst (sa_cons se_int (sa_cons se_int (sa_cons se_int sa_nil))))) sa_nil)))) (ss_cons (ss_for PassesOwn.never (by rfl) (si_rg1 (by rfl) fr.range (se_var 2)) (sg_nm 6 sc__law_even_book.nd) (ss_forget [7] (ss_one (ss_for PassesOwn.never (by rfl) (si_rg1 (by rfl) fr.range (se_var 6)) (sg_nm 7 sc__law_even_book.nd) (ss_forget [7] (ss_cons (ss_tput hr (se_var 4) (sa_cons (se_var 6) (sa_cons (se_var 7) sa_nil)) (se_callS c__law_some hr (sa_cons (se_var 0) (sa_cons (se_frz (sf_lst (sa_cons se_int (sa_cons se_int (sa_cons (se_neg se_int) (sa_cons se_int (sa_cons (se_neg se_int) (sa_cons se_int sa_nil)))))))) sa_nil)))) (ss_one (ss_tput hr (se_var 4) (sa_cons (se_var 7) (sa_cons (se_var 6) sa_nil)) (se_tget hr (se_var 4) (sa_cons (se_var 6) (sa_cons (se_var 7) sa_nil))))))))))) (ss_cons (ss_set 8 sc__law_even_book.nd (se_own (sf_lst sa_nil))) (ss_cons (ss_for PassesOwn.never (by rfl) (si_rg1 (by rfl) fr.range (se_var 2)) (sg_nm 9 sc__law_even_book.nd) (ss_forget [9, 10] (ss_cons (ss_setLc (own := [("_law_one", 6)]) 10 (by rfl) sc__law_even_book.nd (blkOk_by (by kernel_rfl)) (by decide) (si_rg1 (by rfl) fr.range (se_var 2)) (fun _ _ _ _ _ => (sg_nm 6 sc__law_even_book.nd)) (fun _ _ _ _ _ => sts_nil) (fun _ _ _ _ _ => (se_if (st_eq (hr.rm.units) (se_var 6) (se_var 9)) (se_tup (sa_cons se_int (sa_cons se_int sa_nil))) (se_callP c__law_f hr (sa_cons (se_tget hr (se_var 4) (sa_cons (se_var 9) (sa_cons (se_var 6) sa_nil))) (sa_cons (se_mul (se_var 5) (se_ix (se_var 3) (se_var 9))) sa_nil))))) k_frz (by rfl)) (ss_one (ss_exp (se_append (se_var 8) (se_tup (sa_cons (se_tup (sa_cons (se_callS c__law_some_fraction hr (sa_cons (se_var 0) sa_nil)) (sa_cons (se_callTy call_tuple_of rn_tuple (by rfl) fr.tuple PyProof.Rows.boot_tuple (sa_cons (se_var 10) sa_nil)) sa_nil))) sa_nil)))))))) (ss_one (ss_ret (se_tup (sa_cons (se_callTy call_tuple_of rn_tuple (by rfl) fr.tuple PyProof.Rows.boot_tuple (sa_cons (se_var 8) sa_nil)) (sa_cons (se_callTy call_tuple_of rn_tuple (by rfl) fr.tuple PyProof.Rows.boot_tuple (sa_cons (se_var 3) sa_nil)) sa_nil)))))))))))
theorem sc__law_over : FnScope ["_law_one", "_law_other"] ["_law_one", "_law_other"] (defScope (topS 38)) := ⟨rfl, rfl, rfl, by decide +kernel, rfl, by decide +kernel, by decide +kernel⟩
theorem ok__law_over (fr : Free mg) (c__law_f : DefP P w K mg base 2 "_law_f" F__law_f) (F : Fun K "_law_over" "_law_over" (topS 38) f fd) (hm : mg "_law_over" = some (.ref f)) : DefP P w K mg base 3 "_law_over" F__law_over :=
  defP (N := ["_law_one", "_law_other"]) (ps := ["_law_one", "_law_other"]) F hm (F.binds fun _ _ _ _ _ _ us hl => match us, hl with | [_, _], _ => rfl) sc__law_over fun cdv A outer s H hr =>
    (ss_one (ss_ret (se_callP c__law_f hr (sa_cons (se_mul (se_ix (se_var 0) se_int) (se_ix (se_var 1) se_int)) (sa_cons (se_mul (se_ix (se_var 0) se_int) (se_ix (se_var 1) se_int)) sa_nil)))))
theorem sc__law_is_int : FnScope ["_law_thing"] ["_law_thing"] (defScope (topS 39)) := ⟨rfl, rfl, rfl, by decide +kernel, rfl, by decide +kernel, by decide +kernel⟩
theorem ok__law_is_int (fr : Free mg) (F : Fun K "_law_is_int" "_law_is_int" (topS 39) f fd) (hm : mg "_law_is_int" = some (.ref f)) : DefP P w K mg base 1 "_law_is_int" F__law_is_int :=
  defP (N := ["_law_thing"]) (ps := ["_law_thing"]) F hm (F.binds fun _ _ _ _ _ _ us hl => match us, hl with | [_], _ => rfl) sc__law_is_int fun cdv A outer s H hr =>
    (ss_one (ss_ret (se_and (se_isi (by decide) (by rfl) fr.isinstance PyProof.Rows.boot_isinstance (by rfl) fr.int PyProof.Rows.boot_int (se_var 0)) (se_one (se_not (se_isi (by decide) (by rfl) fr.isinstance PyProof.Rows.boot_isinstance (by rfl) fr.bool PyProof.Rows.boot_bool (se_var 0)))))))
theorem sc__law_is_fraction : FnScope ["_law_thing", "_law_one"] ["_law_thing"] (defScope (topS 40)) := ⟨rfl, rfl, rfl, by decide +kernel, rfl, by decide +kernel, by decide +kernel⟩
theorem ok__law_is_fraction (fr : Free mg) (c__law_gcd : DefP P w K mg base 1 "_law_gcd" F__law_gcd) (c__law_is_int : DefP P w K mg base 1 "_law_is_int" F__law_is_int) (F : Fun K "_law_is_fraction" "_law_is_fraction" (topS 40) f fd) (hm : mg "_law_is_fraction" = some (.ref f)) : DefP P w K mg base 2 "_law_is_fraction" F__law_is_fraction :=
  defP (N := ["_law_thing", "_law_one"]) (ps := ["_law_thing"]) F hm (F.binds fun _ _ _ _ _ _ us hl => match us, hl with | [_], _ => rfl) sc__law_is_fraction fun cdv A outer s H hr =>
    (ss_cons (ss_if (SW.st (sw_or (st_not (st_val (se_isi (by decide) (by rfl) fr.isinstance PyProof.Rows.boot_isinstance (by rfl) fr.tuple PyProof.Rows.boot_tuple (se_var 0)))) (sw_or (st_ne (hr.rm.units) (se_callB call_len_seq rn_len (by rfl) fr.len PySem.boot_len (sa_cons (se_var 0) sa_nil)) se_int) (sw_or1 (st_ne (hr.rm.units) (se_frz (sf_of_l (sl_lc (own := [("_law_one", 1)]) (by rfl) sc__law_is_fraction.nd (blkOk_by (by kernel_rfl)) (by decide) (si_tp (se_var 0)) (fun _ _ _ _ _ => (sg_nm 1 sc__law_is_fraction.nd)) (fun _ _ _ _ _ => sts_one (st_not (st_val (se_callP c__law_is_int hr (sa_cons (se_var 1) sa_nil))))) (fun _ _ _ _ _ => se_int)))) (se_frz (sf_lst sa_nil))))))) (ss_one (ss_ret se_bl)) ss_nil) (ss_one (ss_ret (se_and (se_ge (se_ix (se_var 0) se_int) se_int) (se_one (se_eq (hr.rm.units) (se_callP c__law_gcd hr (sa_cons (se_ix (se_var 0) se_int) (sa_cons (se_ix (se_var 0) se_int) sa_nil))) se_int))))))
theorem sc__law_scales : FnScope ["_law_book", "_law_rows", "_law_scales_here", "_law_cell", "_law_line", "_law_here", "_law_other", "_law_due", "_law_rules"] ["_law_book"] (defScope (topS 41)) := ⟨rfl, rfl, rfl, by decide +kernel, rfl, by decide +kernel, by decide +kernel⟩
theorem ok__law_scales (fr : Free mg) (c__law_by : DefP P w K mg base 3 "_law_by" F__law_by) (c__law_over : DefP P w K mg base 3 "_law_over" F__law_over) (F : Fun K "_law_scales" "_law_scales" (topS 41) f fd) (hm : mg "_law_scales" = some (.ref f)) : DefP P w K mg base 4 "_law_scales" F__law_scales :=
  defP (N := ["_law_book", "_law_rows", "_law_scales_here", "_law_cell", "_law_line", "_law_here", "_law_other", "_law_due", "_law_rules"]) (ps := ["_law_book"]) F hm (F.binds fun _ _ _ _ _ _ us hl => match us, hl with | [_], _ => rfl) sc__law_scales fun cdv A outer s H hr =>
    (ss_cons (ss_if (st_ne (hr.rm.units) (se_frz (sf_of_l (sl_lc (own := [("_law_cell", 3), ("_law_rules", 8)]) (by rfl) sc__law_scales.nd (blkOk_by (by kernel_rfl)) (by decide) (si_en (by rfl) fr.enumerate (se_var 0)) (fun _ _ _ _ _ => (sg_tp (by rfl) (sgs_cons (sg_nm 3 sc__law_scales.nd) (sgs_cons (sg_nm 8 sc__law_scales.nd) sgs_nil)))) (fun _ _ _ _ _ => sts_one (SW.st (sw_or (st_ne (hr.rm.units) (se_callB call_len_seq rn_len (by rfl) fr.len PySem.boot_len (sa_cons (se_var 8) sa_nil)) se_int) (sw_or1 (st_ne (hr.rm.units) (se_ix (se_ix (se_ix (se_ix (se_var 8) se_int) se_int) (se_var 3)) se_int) se_int))))) (fun _ _ _ _ _ => (se_var 3))))) (se_frz (sf_lst sa_nil))) (ss_one (ss_ret se_non)) ss_nil) (ss_cons (ss_parT (by rfl) (sa_cons (se_frz (sf_of_l (sl_lc (own := [("_law_rules", 8)]) (by rfl) sc__law_scales.nd (blkOk_by (by kernel_rfl)) (by decide) (si_tp (se_var 0)) (fun _ _ _ _ _ => (sg_nm 8 sc__law_scales.nd)) (fun _ _ _ _ _ => sts_nil) (fun _ _ _ _ _ => (se_ix (se_ix (se_var 8) se_int) se_int))))) (sa_cons se_dicK sa_nil)) (sgs_cons (sg_nm 1 sc__law_scales.nd) (sgs_cons (sg_nm 2 sc__law_scales.nd) sgs_nil))) (ss_cons (ss_for PassesOwn.never (by rfl) (si_rg1 (by rfl) fr.range (se_callB call_len_seq rn_len (by rfl) fr.len PySem.boot_len (sa_cons (se_var 0) sa_nil))) (sg_nm 3 sc__law_scales.nd) (ss_forget [4, 5, 6, 7] (ss_cons (ss_set 4 sc__law_scales.nd (se_if (st_dnotin hr (se_var 3) (se_var 2)) (se_own (sf_lst (sa_cons (se_var 3) sa_nil))) (se_own (sf_lst sa_nil)))) (ss_cons (ss_exp (se_setd (se_var 2) (se_var 3) (se_tup (sa_cons se_int (sa_cons se_int sa_nil))))) (ss_one (ss_while PassesOwn.never (st_ne (hr.rm.units) (se_var 4) (se_frz (sf_lst sa_nil))) (ss_forget [5, 6, 7] (ss_cons (ss_set 5 sc__law_scales.nd (se_pop (se_var 4))) (ss_one (ss_for PassesOwn.never (by rfl) (si_rg1 (by rfl) fr.range (se_callB call_len_seq rn_len (by rfl) fr.len PySem.boot_len (sa_cons (se_var 0) sa_nil))) (sg_nm 6 sc__law_scales.nd) (ss_forget [6, 7] (ss_cons (ss_if (SW.st (sw_and (st_eq (hr.rm.units) (se_ix (se_ix (se_ix (se_var 1) (se_var 5)) (se_var 6)) se_int) se_int) (sw_and1 (st_eq (hr.rm.units) (se_ix (se_ix (se_ix (se_var 1) (se_var 6)) (se_var 5)) se_int) se_int)))) (ss_one ss_cnt) ss_nil) (ss_cons (ss_if (st_le (se_mul (se_ix (se_ix (se_ix (se_var 1) (se_var 5)) (se_var 6)) se_int) (se_ix (se_ix (se_ix (se_var 1) (se_var 6)) (se_var 5)) se_int)) se_int) (ss_one (ss_ret se_non)) ss_nil) (ss_cons (ss_set 7 sc__law_scales.nd (se_callP c__law_over hr (sa_cons (se_callP c__law_by hr (sa_cons (se_ix (se_ix (se_var 1) (se_var 5)) (se_var 6)) (sa_cons (se_dget hr (se_var 2) (se_var 5)) sa_nil))) (sa_cons (se_ix (se_ix (se_var 1) (se_var 6)) (se_var 5)) sa_nil)))) (ss_one (ss_if (st_dnotin hr (se_var 6) (se_var 2)) (ss_cons (ss_dput hr (se_var 2) (se_var 6) (se_var 7)) (ss_one (ss_exp (se_append (se_var 4) (se_var 6))))) (ss_one (ss_if (st_ne (hr.rm.units) (se_dget hr (se_var 2) (se_var 6)) (se_var 7)) (ss_one (ss_ret se_non)) ss_nil)))))))))))))))))) (ss_one (ss_ret (se_callTy call_tuple_of rn_tuple (by rfl) fr.tuple PyProof.Rows.boot_tuple (sa_cons (se_frz (sf_of_l (sl_lc (own := [("_law_cell", 3)]) (by rfl) sc__law_scales.nd (blkOk_by (by kernel_rfl)) (by decide) (si_rg1 (by rfl) fr.range (se_callB call_len_seq rn_len (by rfl) fr.len PySem.boot_len (sa_cons (se_var 0) sa_nil))) (fun _ _ _ _ _ => (sg_nm 3 sc__law_scales.nd)) (fun _ _ _ _ _ => sts_nil) (fun _ _ _ _ _ => (se_dget hr (se_var 2) (se_var 3)))))) sa_nil)))))))
theorem sc__law_energy : FnScope ["_law_book", "_law_scales_here", "_law_values", "_law_found", "_law_cell", "_law_rules", "_law_read"] ["_law_book", "_law_scales_here", "_law_values"] (defScope (topS 42)) := ⟨rfl, rfl, rfl, by decide +kernel, rfl, by decide +kernel, by decide +kernel⟩
theorem ok__law_energy (fr : Free mg) (c__law_by : DefP P w K mg base 3 "_law_by" F__law_by) (c__law_minus : DefP P w K mg base 3 "_law_minus" F__law_minus) (c__law_total : DefP P w K mg base 4 "_law_total" F__law_total) (c__law_value : DefP P w K mg base 5 "_law_value" F__law_value) (F : Fun K "_law_energy" "_law_energy" (topS 42) f fd) (hm : mg "_law_energy" = some (.ref f)) : DefP P w K mg base 6 "_law_energy" F__law_energy :=
  defP (N := ["_law_book", "_law_scales_here", "_law_values", "_law_found", "_law_cell", "_law_rules", "_law_read"]) (ps := ["_law_book", "_law_scales_here", "_law_values"]) F hm (F.binds fun _ _ _ _ _ _ us hl => match us, hl with | [_, _, _], _ => rfl) sc__law_energy fun cdv A outer s H hr =>
    (ss_cons (ss_set 3 sc__law_energy.nd (se_own (sf_lst sa_nil))) (ss_cons (ss_for PassesOwn.never (by rfl) (si_en (by rfl) fr.enumerate (se_var 0)) (sg_tp (by rfl) (sgs_cons (sg_nm 4 sc__law_energy.nd) (sgs_cons (sg_nm 5 sc__law_energy.nd) sgs_nil))) (ss_forget [4, 5, 6] (ss_cons (ss_set 6 sc__law_energy.nd (se_callP c__law_value hr (sa_cons (se_tup (sa_cons (se_tup (sa_cons se_int (sa_cons se_int sa_nil))) (sa_cons (se_ix (se_ix (se_var 5) se_int) se_int) sa_nil))) (sa_cons (se_var 2) sa_nil)))) (ss_one (ss_exp (se_append (se_var 3) (se_callP c__law_by hr (sa_cons (se_callP c__law_by hr (sa_cons (se_ix (se_var 1) (se_var 4)) (sa_cons (se_ix (se_var 2) (se_var 4)) sa_nil))) (sa_cons (se_callP c__law_minus hr (sa_cons (se_ix (se_var 2) (se_var 4)) (sa_cons (se_var 6) sa_nil))) sa_nil))))))))) (ss_one (ss_ret (se_callP c__law_total hr (sa_cons (se_var 3) sa_nil))))))
theorem sc__law_squares : FnScope ["_law_book", "_law_scales_here", "_law_many", "_law_found", "_law_rows", "_law_cell", "_law_row", "_law_at", "_law_part", "_law_shares", "_law_k", "_law_factor", "_law_one", "_law_share"] ["_law_book", "_law_scales_here"] (defScope (topS 43)) := ⟨rfl, rfl, rfl, by decide +kernel, rfl, by decide +kernel, by decide +kernel⟩
theorem ok__law_squares (fr : Free mg) (c__law_by : DefP P w K mg base 3 "_law_by" F__law_by) (c__law_minus : DefP P w K mg base 3 "_law_minus" F__law_minus) (c__law_over : DefP P w K mg base 3 "_law_over" F__law_over) (F : Fun K "_law_squares" "_law_squares" (topS 43) f fd) (hm : mg "_law_squares" = some (.ref f)) : DefP P w K mg base 4 "_law_squares" F__law_squares :=
  defP (N := ["_law_book", "_law_scales_here", "_law_many", "_law_found", "_law_rows", "_law_cell", "_law_row", "_law_at", "_law_part", "_law_shares", "_law_k", "_law_factor", "_law_one", "_law_share"]) (ps := ["_law_book", "_law_scales_here"]) F hm (F.binds fun _ _ _ _ _ _ us hl => match us, hl with | [_, _], _ => rfl) sc__law_squares fun cdv A outer s H hr =>
    (ss_cons (ss_parT (by rfl) (sa_cons (se_callB call_len_seq rn_len (by rfl) fr.len PySem.boot_len (sa_cons (se_var 0) sa_nil)) (sa_cons (se_own (sf_lst sa_nil)) (sa_cons (se_own (sf_lst sa_nil)) sa_nil))) (sgs_cons (sg_nm 2 sc__law_squares.nd) (sgs_cons (sg_nm 3 sc__law_squares.nd) (sgs_cons (sg_nm 4 sc__law_squares.nd) sgs_nil)))) (ss_cons (ss_for PassesOwn.never (by rfl) (si_rg1 (by rfl) fr.range (se_var 2)) (sg_nm 5 sc__law_squares.nd) (ss_forget [5, 6] (ss_cons (ss_setLc (own := [("_law_factor", 11)]) 6 (by rfl) sc__law_squares.nd (blkOk_by (by kernel_rfl)) (by decide) (si_tp (se_ix (se_ix (se_ix (se_var 0) (se_var 5)) se_int) se_int)) (fun _ _ _ _ _ => (sg_nm 11 sc__law_squares.nd)) (fun _ _ _ _ _ => sts_nil) (fun _ _ _ _ _ => (se_callP c__law_minus hr (sa_cons (se_tup (sa_cons se_int (sa_cons se_int sa_nil))) (sa_cons (se_callP c__law_by hr (sa_cons (se_ix (se_var 1) (se_var 5)) (sa_cons (se_var 11) sa_nil))) sa_nil)))) k_own (by rfl)) (ss_cons (ss_setIx (se_var 6) (se_var 5) (se_ix (se_var 1) (se_var 5))) (ss_one (ss_exp (se_appL (se_var 4) (se_var 6)))))))) (ss_cons (ss_for PassesOwn.never (by rfl) (si_rg1 (by rfl) fr.range (se_var 2)) (sg_nm 7 sc__law_squares.nd) (ss_forget [7, 8, 9, 10] (ss_cons (ss_set 8 sc__law_squares.nd (se_ix (se_ix (se_var 4) (se_var 7)) (se_var 7))) (ss_cons (ss_if (st_le (se_ix (se_var 8) se_int) se_int) (ss_one (ss_ret se_non)) ss_nil) (ss_cons (ss_setLc (own := [("_law_one", 12)]) 9 (by rfl) sc__law_squares.nd (blkOk_by (by kernel_rfl)) (by decide) (si_lst (se_ix (se_var 4) (se_var 7))) (fun _ _ _ _ _ => (sg_nm 12 sc__law_squares.nd)) (fun _ _ _ _ _ => sts_nil) (fun _ _ _ _ _ => (se_callP c__law_over hr (sa_cons (se_var 12) (sa_cons (se_var 8) sa_nil)))) k_frz (by rfl)) (ss_cons (ss_exp (se_append (se_var 3) (se_tup (sa_cons (se_var 8) (sa_cons (se_callTy call_tuple_of rn_tuple (by rfl) fr.tuple PyProof.Rows.boot_tuple (sa_cons (se_frz (sf_sl (se_var 9) (so_some (se_add (se_var 7) se_int)) so_none)) sa_nil)) sa_nil))))) (ss_one (ss_for PassesOwn.never (by rfl) (si_rg2 (by rfl) fr.range (se_add (se_var 7) se_int) (se_var 2)) (sg_nm 10 sc__law_squares.nd) (ss_forget [10] (ss_one (ss_setIxL (se_var 4) (se_var 10) (se_own (sf_of_l (sl_lc (own := [("_law_one", 12), ("_law_share", 13)]) (by rfl) sc__law_squares.nd (blkOk_by (by kernel_rfl)) (by decide) (si_zp (by rfl) fr.zip (se_ix (se_var 4) (se_var 10)) (se_var 9)) (fun _ _ _ _ _ => (sg_tp (by rfl) (sgs_cons (sg_nm 12 sc__law_squares.nd) (sgs_cons (sg_nm 13 sc__law_squares.nd) sgs_nil)))) (fun _ _ _ _ _ => sts_nil) (fun _ _ _ _ _ => (se_callP c__law_minus hr (sa_cons (se_var 12) (sa_cons (se_callP c__law_by hr (sa_cons (se_ix (se_ix (se_var 4) (se_var 10)) (se_var 7)) (sa_cons (se_var 13) sa_nil))) sa_nil)))))))))))))))))) (ss_one (ss_ret (se_callTy call_tuple_of rn_tuple (by rfl) fr.tuple PyProof.Rows.boot_tuple (sa_cons (se_var 3) sa_nil)))))))
theorem sc__law_few_values : FnScope ["_law_bag_here", "_law_many", "_law_k"] ["_law_bag_here", "_law_many"] (defScope (topS 44)) := ⟨rfl, rfl, rfl, by decide +kernel, rfl, by decide +kernel, by decide +kernel⟩
theorem ok__law_few_values (fr : Free mg) (c__law_some : DefS P w K mg base 2 "_law_some" F__law_some) (F : Fun K "_law_few_values" "_law_few_values" (topS 44) f fd) (hm : mg "_law_few_values" = some (.ref f)) : DefS P w K mg base 3 "_law_few_values" F__law_few_values :=
  defS (N := ["_law_bag_here", "_law_many", "_law_k"]) (ps := ["_law_bag_here", "_law_many"]) F hm (F.binds fun _ _ _ _ _ _ us hl => match us, hl with | [_, _], _ => rfl) sc__law_few_values fun cdv A outer s H hr =>
    (ss_one (ss_ret (se_callTy call_tuple_of rn_tuple (by rfl) fr.tuple PyProof.Rows.boot_tuple (sa_cons (se_frz (sf_of_l (sl_lc (own := [("_law_k", 2)]) (by rfl) sc__law_few_values.nd (blkOk_by (by kernel_rfl)) (by decide) (si_rg1 (by rfl) fr.range (se_var 1)) (fun _ _ _ _ _ => (sg_nm 2 sc__law_few_values.nd)) (fun _ _ _ _ _ => sts_nil) (fun _ _ _ _ _ => (se_callS c__law_some hr (sa_cons (se_var 0) (sa_cons (se_frz (sf_lst (sa_cons (se_tup (sa_cons se_int (sa_cons se_int sa_nil))) (sa_cons (se_tup (sa_cons se_int (sa_cons se_int sa_nil))) (sa_cons (se_tup (sa_cons (se_neg se_int) (sa_cons se_int sa_nil))) (sa_cons (se_tup (sa_cons se_int (sa_cons se_int sa_nil))) (sa_cons (se_tup (sa_cons se_int (sa_cons se_int sa_nil))) (sa_cons (se_tup (sa_cons (se_neg se_int) (sa_cons se_int sa_nil))) sa_nil)))))))) sa_nil))))))) sa_nil))))
theorem sc__law_just_even : FnScope ["_law_bag_here", "_law_way", "_law_none", "_law_one", "_law_half"] ["_law_bag_here"] (defScope (topS 45)) := ⟨rfl, rfl, rfl, by decide +kernel, rfl, by decide +kernel, by decide +kernel⟩
theorem ok__law_just_even (fr : Free mg) (c__law_by : DefP P w K mg base 3 "_law_by" F__law_by) (c__law_some : DefS P w K mg base 2 "_law_some" F__law_some) (c__law_take : DefS P w K mg base 1 "_law_take" F__law_take) (F : Fun K "_law_just_even" "_law_just_even" (topS 45) f fd) (hm : mg "_law_just_even" = some (.ref f)) : DefS P w K mg base 4 "_law_just_even" F__law_just_even :=
  defS (N := ["_law_bag_here", "_law_way", "_law_none", "_law_one", "_law_half"]) (ps := ["_law_bag_here"]) F hm (F.binds fun _ _ _ _ _ _ us hl => match us, hl with | [_], _ => rfl) sc__law_just_even fun cdv A outer s H hr =>
    (ss_cons (ss_set 1 sc__law_just_even.nd (se_callS c__law_take hr (sa_cons (se_var 0) (sa_cons se_int sa_nil)))) (ss_cons (ss_par2 2 3 (by rfl) sc__law_just_even.nd (sa_cons (se_tup (sa_cons se_int (sa_cons se_int sa_nil))) (sa_cons (se_callS c__law_some hr (sa_cons (se_var 0) (sa_cons (se_frz (sf_lst (sa_cons (se_tup (sa_cons se_int (sa_cons se_int sa_nil))) (sa_cons (se_tup (sa_cons (se_neg se_int) (sa_cons se_int sa_nil))) sa_nil)))) sa_nil))) sa_nil))) (ss_cons (ss_if (st_eq (hr.rm.units) (se_var 1) se_int) (ss_one (ss_ret (se_tup (sa_cons (se_tup (sa_cons (se_tup (sa_cons (se_var 2) (sa_cons (se_tup (sa_cons (se_var 2) (sa_cons (se_var 3) sa_nil))) sa_nil))) sa_nil)) (sa_cons (se_tup (sa_cons (se_tup (sa_cons (se_var 2) (sa_cons (se_tup (sa_cons (se_var 3) (sa_cons (se_var 2) sa_nil))) sa_nil))) sa_nil)) sa_nil))))) ss_nil) (ss_cons (ss_set 4 sc__law_just_even.nd (se_callP c__law_by hr (sa_cons (se_var 3) (sa_cons (se_tup (sa_cons se_int (sa_cons se_int sa_nil))) sa_nil)))) (ss_cons (ss_if (st_eq (hr.rm.units) (se_var 1) se_int) (ss_one (ss_ret (se_tup (sa_cons (se_tup (sa_cons (se_tup (sa_cons (se_var 2) (sa_cons (se_tup (sa_cons (se_var 2) (sa_cons (se_var 4) (sa_cons (se_var 4) sa_nil)))) sa_nil))) sa_nil)) (sa_cons (se_tup (sa_cons (se_tup (sa_cons (se_var 2) (sa_cons (se_tup (sa_cons (se_var 4) (sa_cons (se_var 2) (sa_cons (se_var 4) sa_nil)))) sa_nil))) sa_nil)) (sa_cons (se_tup (sa_cons (se_tup (sa_cons (se_var 2) (sa_cons (se_tup (sa_cons (se_var 4) (sa_cons (se_var 4) (sa_cons (se_var 2) sa_nil)))) sa_nil))) sa_nil)) sa_nil)))))) ss_nil) (ss_one (ss_ret (se_tup (sa_cons (se_tup (sa_cons (se_tup (sa_cons (se_var 2) (sa_cons (se_tup (sa_cons (se_var 2) (sa_cons (se_tup (sa_cons se_int (sa_cons se_int sa_nil))) sa_nil))) sa_nil))) sa_nil)) (sa_cons (se_tup (sa_cons (se_tup (sa_cons (se_var 2) (sa_cons (se_tup (sa_cons (se_tup (sa_cons se_int (sa_cons se_int sa_nil))) (sa_cons (se_var 2) sa_nil))) sa_nil))) sa_nil)) sa_nil))))))))))
theorem sc__law_by_squares : FnScope ["_law_squares_here", "_law_values", "_law_found", "_law_cell", "_law_row", "_law_size", "_law_share", "_law_value_here"] ["_law_squares_here", "_law_values"] (defScope (topS 46)) := ⟨rfl, rfl, rfl, by decide +kernel, rfl, by decide +kernel, by decide +kernel⟩
theorem ok__law_by_squares (fr : Free mg) (c__law_by : DefP P w K mg base 3 "_law_by" F__law_by) (c__law_total : DefP P w K mg base 4 "_law_total" F__law_total) (F : Fun K "_law_by_squares" "_law_by_squares" (topS 46) f fd) (hm : mg "_law_by_squares" = some (.ref f)) : DefP P w K mg base 5 "_law_by_squares" F__law_by_squares :=
  defP (N := ["_law_squares_here", "_law_values", "_law_found", "_law_cell", "_law_row", "_law_size", "_law_share", "_law_value_here"]) (ps := ["_law_squares_here", "_law_values"]) F hm (F.binds fun _ _ _ _ _ _ us hl => match us, hl with | [_, _], _ => rfl) sc__law_by_squares fun cdv A outer s H hr =>
    (ss_cons (ss_set 2 sc__law_by_squares.nd (se_own (sf_lst sa_nil))) (ss_cons (ss_for PassesOwn.never (by rfl) (si_en (by rfl) fr.enumerate (se_var 0)) (sg_tp (by rfl) (sgs_cons (sg_nm 3 sc__law_by_squares.nd) (sgs_cons (sg_nm 4 sc__law_by_squares.nd) sgs_nil))) (ss_forget [3, 4, 5] (ss_cons (ss_set 5 sc__law_by_squares.nd (se_callP c__law_total hr (sa_cons (se_frz (sf_add (se_frz (sf_lst (sa_cons (se_ix (se_var 1) (se_var 3)) sa_nil))) (se_frz (sf_of_l (sl_lc (own := [("_law_share", 6), ("_law_value_here", 7)]) (by rfl) sc__law_by_squares.nd (blkOk_by (by kernel_rfl)) (by decide) (si_zp (by rfl) fr.zip (se_ix (se_var 4) se_int) (se_slT (se_var 1) (so_some (se_add (se_var 3) se_int)) so_none)) (fun _ _ _ _ _ => (sg_tp (by rfl) (sgs_cons (sg_nm 6 sc__law_by_squares.nd) (sgs_cons (sg_nm 7 sc__law_by_squares.nd) sgs_nil)))) (fun _ _ _ _ _ => sts_nil) (fun _ _ _ _ _ => (se_callP c__law_by hr (sa_cons (se_var 6) (sa_cons (se_var 7) sa_nil))))))))) sa_nil))) (ss_one (ss_exp (se_append (se_var 2) (se_callP c__law_by hr (sa_cons (se_ix (se_var 4) se_int) (sa_cons (se_callP c__law_by hr (sa_cons (se_var 5) (sa_cons (se_var 5) sa_nil))) sa_nil))))))))) (ss_one (ss_ret (se_callP c__law_total hr (sa_cons (se_var 2) sa_nil))))))
theorem sc_law : FnScope ["_law_script", "_law_bag_here", "_law_turn", "_law_book", "_law_scales_here", "_law_shown", "_law_squares_here", "_law_low", "_law_values", "_law_one"] ["_law_script"] (defScope (topS 47)) := ⟨rfl, rfl, rfl, by decide +kernel, rfl, by decide +kernel, by decide +kernel⟩
theorem ok_law (fr : Free mg) (c__law_alike : DefP P w K mg base 1 "_law_alike" F__law_alike) (c__law_bag : DefS P w K mg base 1 "_law_bag" F__law_bag) (c__law_by_squares : DefP P w K mg base 5 "_law_by_squares" F__law_by_squares) (c__law_energy : DefP P w K mg base 6 "_law_energy" F__law_energy) (c__law_even_book : DefS P w K mg base 4 "_law_even_book" F__law_even_book) (c__law_few_values : DefS P w K mg base 3 "_law_few_values" F__law_few_values) (c__law_is_fraction : DefP P w K mg base 2 "_law_is_fraction" F__law_is_fraction) (c__law_just_even : DefS P w K mg base 4 "_law_just_even" F__law_just_even) (c__law_scales : DefP P w K mg base 4 "_law_scales" F__law_scales) (c__law_squares : DefP P w K mg base 4 "_law_squares" F__law_squares) (c_energy : DefP P w K mg base 7 "energy" F_energy) (c_low_values : DefP P w K mg base 7 "low_values" F_low_values) (c_squares_of : DefP P w K mg base 7 "squares_of" F_squares_of) (F : Fun K "law" "law" (topS 47) f fd) (hm : mg "law" = some (.ref f)) : DefS P w K mg base 8 "law" F_law :=
  defL (N := ["_law_script", "_law_bag_here", "_law_turn", "_law_book", "_law_scales_here", "_law_shown", "_law_squares_here", "_law_low", "_law_values", "_law_one"]) (ps := ["_law_script"]) F hm (F.binds fun _ _ _ _ _ _ us hl => match us, hl with | [_], _ => rfl) sc_law fun cdv A outer s H hr =>
    (ss_cons (ss_set 1 sc_law.nd (se_callS c__law_bag hr (sa_cons (se_var 0) sa_nil))) (ss_cons (ss_for PassesOwn.never (by rfl) (si_rg1 (by rfl) fr.range se_int) (sg_nm 2 sc_law.nd) (ss_forget [2, 3, 4, 5, 6, 7, 8] (ss_cons (ss_set 3 sc_law.nd (se_if (st_lt (se_var 2) se_int) (se_ix (se_callS c__law_even_book hr (sa_cons (se_var 1) (sa_cons se_int sa_nil))) se_int) (se_callS c__law_just_even hr (sa_cons (se_var 1) sa_nil)))) (ss_cons (ss_par2 4 5 (by rfl) sc_law.nd (sa_cons (se_callP c__law_scales hr (sa_cons (se_var 3) sa_nil)) (sa_cons (se_callB (call_repr hr) rn_repr (by rfl) fr.repr PyProof.Rows.boot_repr (sa_cons (se_var 3) sa_nil)) sa_nil))) (ss_cons (ss_set 6 sc_law.nd (se_callP c__law_squares hr (sa_cons (se_var 3) (sa_cons (se_var 4) sa_nil)))) (ss_cons (ss_set 7 sc_law.nd (se_callP c_low_values hr (sa_cons (se_var 3) sa_nil))) (ss_cons (ss_if (SW.st (sw_or (st_not (st_val (se_callP c__law_alike hr (sa_cons (se_callP c_squares_of hr (sa_cons (se_var 3) sa_nil)) (sa_cons (se_var 6) sa_nil))))) (sw_or (st_ne (hr.rm.units) (se_isN (se_var 7)) (se_notN (se_var 6))) (sw_or1 (st_not (st_val (se_callP c__law_alike hr (sa_cons (se_callP c_low_values hr (sa_cons (se_var 3) sa_nil)) (sa_cons (se_var 7) sa_nil))))))))) (ss_one (ss_ret se_bl)) ss_nil) (ss_cons (ss_if (st_notN (se_var 7)) (ss_cons (ss_if (SW.st (sw_or (st_not (st_val (se_isi (by decide) (by rfl) fr.isinstance PyProof.Rows.boot_isinstance (by rfl) fr.tuple PyProof.Rows.boot_tuple (se_var 7)))) (sw_or (st_ne (hr.rm.units) (se_callB call_len_seq rn_len (by rfl) fr.len PySem.boot_len (sa_cons (se_var 7) sa_nil)) (se_callB call_len_seq rn_len (by rfl) fr.len PySem.boot_len (sa_cons (se_var 3) sa_nil))) (sw_or (st_ne (hr.rm.units) (se_frz (sf_of_l (sl_lc (own := [("_law_one", 9)]) (by rfl) sc_law.nd (blkOk_by (by kernel_rfl)) (by decide) (si_tp (se_var 7)) (fun _ _ _ _ _ => (sg_nm 9 sc_law.nd)) (fun _ _ _ _ _ => sts_one (st_not (st_val (se_callP c__law_is_fraction hr (sa_cons (se_var 9) sa_nil))))) (fun _ _ _ _ _ => (se_var 9))))) (se_frz (sf_lst sa_nil))) (sw_or1 (st_eq (hr.rm.units) (se_frz (sf_of_l (sl_lc (own := [("_law_one", 9)]) (by rfl) sc_law.nd (blkOk_by (by kernel_rfl)) (by decide) (si_tp (se_var 7)) (fun _ _ _ _ _ => (sg_nm 9 sc_law.nd)) (fun _ _ _ _ _ => sts_one (st_ne (hr.rm.units) (se_ix (se_var 9) se_int) se_int)) (fun _ _ _ _ _ => (se_var 9))))) (se_frz (sf_lst sa_nil)))))))) (ss_one (ss_ret se_bl)) ss_nil) (ss_one (ss_if (st_gt (se_ix (se_callP c__law_energy hr (sa_cons (se_var 3) (sa_cons (se_var 4) (sa_cons (se_var 7) sa_nil)))) se_int) se_int) (ss_one (ss_ret se_bl)) ss_nil))) ss_nil) (ss_cons (ss_set 8 sc_law.nd (se_callS c__law_few_values hr (sa_cons (se_var 1) (sa_cons (se_callB call_len_seq rn_len (by rfl) fr.len PySem.boot_len (sa_cons (se_var 3) sa_nil)) sa_nil)))) (ss_cons (ss_if (SW.st (sw_and (st_notN (se_var 6)) (sw_and1 (st_not (st_val (se_callP c__law_alike hr (sa_cons (se_callP c_energy hr (sa_cons (se_var 3) (sa_cons (se_var 8) sa_nil))) (sa_cons (se_callP c__law_by_squares hr (sa_cons (se_var 6) (sa_cons (se_var 8) sa_nil))) sa_nil)))))))) (ss_one (ss_ret se_bl)) ss_nil) (ss_one (ss_if (st_ne (hr.rm.units) (se_callB (call_repr hr) rn_repr (by rfl) fr.repr PyProof.Rows.boot_repr (sa_cons (se_var 3) sa_nil)) (se_var 5)) (ss_one (ss_ret se_bl)) ss_nil)))))))))))) (ss_one (ss_ret se_bl))))
end
end P55

set_option Elab.async false
set_option linter.all false
set_option maxRecDepth 100000
set_option maxHeartbeats 4000000
namespace P55
open PySem PySem.Spec PyProof.Rows L2 Zd
section
variable {P : Program} {w : World} {K : PySem.W.Frag} {mg : Str → Option Value} {base : Heap} {f : Addr} {fd : FuncData}
theorem fk_law (fr : Free mg) (c__law_alike : DefP P w K mg base 1 "_law_alike" F__law_alike) (c__law_bag : DefS P w K mg base 1 "_law_bag" F__law_bag) (c__law_by_squares : DefP P w K mg base 5 "_law_by_squares" F__law_by_squares) (c__law_energy : DefP P w K mg base 6 "_law_energy" F__law_energy) (c__law_even_book : DefS P w K mg base 4 "_law_even_book" F__law_even_book) (c__law_few_values : DefS P w K mg base 3 "_law_few_values" F__law_few_values) (c__law_is_fraction : DefP P w K mg base 2 "_law_is_fraction" F__law_is_fraction) (c__law_just_even : DefS P w K mg base 4 "_law_just_even" F__law_just_even) (c__law_scales : DefP P w K mg base 4 "_law_scales" F__law_scales) (c__law_squares : DefP P w K mg base 4 "_law_squares" F__law_squares) (c_energy : DefP P w K mg base 7 "energy" F_energy) (c_low_values : DefP P w K mg base 7 "low_values" F_low_values) (c_squares_of : DefP P w K mg base 7 "squares_of" F_squares_of) (F : Fun K "law" "law" (topS 47) f fd) : FK P w K mg base 8 f fd ["_law_script"] (spS K 1 F_law) :=
  fk_L (N := ["_law_script", "_law_bag_here", "_law_turn", "_law_book", "_law_scales_here", "_law_shown", "_law_squares_here", "_law_low", "_law_values", "_law_one"]) (ps := ["_law_script"]) F sc_law fun cdv A outer s H hr =>
    (ss_cons (ss_set 1 sc_law.nd (se_callS c__law_bag hr (sa_cons (se_var 0) sa_nil))) (ss_cons (ss_for PassesOwn.never (by rfl) (si_rg1 (by rfl) fr.range se_int) (sg_nm 2 sc_law.nd) (ss_forget [2, 3, 4, 5, 6, 7, 8] (ss_cons (ss_set 3 sc_law.nd (se_if (st_lt (se_var 2) se_int) (se_ix (se_callS c__law_even_book hr (sa_cons (se_var 1) (sa_cons se_int sa_nil))) se_int) (se_callS c__law_just_even hr (sa_cons (se_var 1) sa_nil)))) (ss_cons (ss_par2 4 5 (by rfl) sc_law.nd (sa_cons (se_callP c__law_scales hr (sa_cons (se_var 3) sa_nil)) (sa_cons (se_callB (call_repr hr) rn_repr (by rfl) fr.repr PyProof.Rows.boot_repr (sa_cons (se_var 3) sa_nil)) sa_nil))) (ss_cons (ss_set 6 sc_law.nd (se_callP c__law_squares hr (sa_cons (se_var 3) (sa_cons (se_var 4) sa_nil)))) (ss_cons (ss_set 7 sc_law.nd (se_callP c_low_values hr (sa_cons (se_var 3) sa_nil))) (ss_cons (ss_if (SW.st (sw_or (st_not (st_val (se_callP c__law_alike hr (sa_cons (se_callP c_squares_of hr (sa_cons (se_var 3) sa_nil)) (sa_cons (se_var 6) sa_nil))))) (sw_or (st_ne (hr.rm.units) (se_isN (se_var 7)) (se_notN (se_var 6))) (sw_or1 (st_not (st_val (se_callP c__law_alike hr (sa_cons (se_callP c_low_values hr (sa_cons (se_var 3) sa_nil)) (sa_cons (se_var 7) sa_nil))))))))) (ss_one (ss_ret se_bl)) ss_nil) (ss_cons (ss_if (st_notN (se_var 7)) (ss_cons (ss_if (SW.st (sw_or (st_not (st_val (se_isi (by decide) (by rfl) fr.isinstance PyProof.Rows.boot_isinstance (by rfl) fr.tuple PyProof.Rows.boot_tuple (se_var 7)))) (sw_or (st_ne (hr.rm.units) (se_callB call_len_seq rn_len (by rfl) fr.len PySem.boot_len (sa_cons (se_var 7) sa_nil)) (se_callB call_len_seq rn_len (by rfl) fr.len PySem.boot_len (sa_cons (se_var 3) sa_nil))) (sw_or (st_ne (hr.rm.units) (se_frz (sf_of_l (sl_lc (own := [("_law_one", 9)]) (by rfl) sc_law.nd (blkOk_by (by kernel_rfl)) (by decide) (si_tp (se_var 7)) (fun _ _ _ _ _ => (sg_nm 9 sc_law.nd)) (fun _ _ _ _ _ => sts_one (st_not (st_val (se_callP c__law_is_fraction hr (sa_cons (se_var 9) sa_nil))))) (fun _ _ _ _ _ => (se_var 9))))) (se_frz (sf_lst sa_nil))) (sw_or1 (st_eq (hr.rm.units) (se_frz (sf_of_l (sl_lc (own := [("_law_one", 9)]) (by rfl) sc_law.nd (blkOk_by (by kernel_rfl)) (by decide) (si_tp (se_var 7)) (fun _ _ _ _ _ => (sg_nm 9 sc_law.nd)) (fun _ _ _ _ _ => sts_one (st_ne (hr.rm.units) (se_ix (se_var 9) se_int) se_int)) (fun _ _ _ _ _ => (se_var 9))))) (se_frz (sf_lst sa_nil)))))))) (ss_one (ss_ret se_bl)) ss_nil) (ss_one (ss_if (st_gt (se_ix (se_callP c__law_energy hr (sa_cons (se_var 3) (sa_cons (se_var 4) (sa_cons (se_var 7) sa_nil)))) se_int) se_int) (ss_one (ss_ret se_bl)) ss_nil))) ss_nil) (ss_cons (ss_set 8 sc_law.nd (se_callS c__law_few_values hr (sa_cons (se_var 1) (sa_cons (se_callB call_len_seq rn_len (by rfl) fr.len PySem.boot_len (sa_cons (se_var 3) sa_nil)) sa_nil)))) (ss_cons (ss_if (SW.st (sw_and (st_notN (se_var 6)) (sw_and1 (st_not (st_val (se_callP c__law_alike hr (sa_cons (se_callP c_energy hr (sa_cons (se_var 3) (sa_cons (se_var 8) sa_nil))) (sa_cons (se_callP c__law_by_squares hr (sa_cons (se_var 6) (sa_cons (se_var 8) sa_nil))) sa_nil)))))))) (ss_one (ss_ret se_bl)) ss_nil) (ss_one (ss_if (st_ne (hr.rm.units) (se_callB (call_repr hr) rn_repr (by rfl) fr.repr PyProof.Rows.boot_repr (sa_cons (se_var 3) sa_nil)) (se_var 5)) (ss_one (ss_ret se_bl)) ss_nil)))))))))))) (ss_one (ss_ret se_bl))))
end
theorem all_mk {l : PySem.W.OpenLaw} {w : World} {K : PySem.W.Frag} {h : Heap} {mg : Str → Option Value} {fa : Addr} {f0 : Addr} {od0 an0 : Option Addr} {sl0 : Array (Option Value)} {oc0 kV0 dc0 pm0 cd0 ct0 : Value} {f1 : Addr} {od1 an1 : Option Addr} {sl1 : Array (Option Value)} {oc1 kV1 dc1 pm1 cd1 ct1 : Value} {f2 : Addr} {od2 an2 : Option Addr} {sl2 : Array (Option Value)} {oc2 kV2 dc2 pm2 cd2 ct2 : Value} {f3 : Addr} {od3 an3 : Option Addr} {sl3 : Array (Option Value)} {oc3 kV3 dc3 pm3 cd3 ct3 : Value} {f4 : Addr} {od4 an4 : Option Addr} {sl4 : Array (Option Value)} {oc4 kV4 dc4 pm4 cd4 ct4 : Value} {f5 : Addr} {od5 an5 : Option Addr} {sl5 : Array (Option Value)} {oc5 kV5 dc5 pm5 cd5 ct5 : Value} {f6 : Addr} {od6 an6 : Option Addr} {sl6 : Array (Option Value)} {oc6 kV6 dc6 pm6 cd6 ct6 : Value} {f7 : Addr} {od7 an7 : Option Addr} {sl7 : Array (Option Value)} {oc7 kV7 dc7 pm7 cd7 ct7 : Value} {f8 : Addr} {od8 an8 : Option Addr} {sl8 : Array (Option Value)} {oc8 kV8 dc8 pm8 cd8 ct8 : Value} {f9 : Addr} {od9 an9 : Option Addr} {sl9 : Array (Option Value)} {oc9 kV9 dc9 pm9 cd9 ct9 : Value} {f10 : Addr} {od10 an10 : Option Addr} {sl10 : Array (Option Value)} {oc10 kV10 dc10 pm10 cd10 ct10 : Value} {f11 : Addr} {od11 an11 : Option Addr} {sl11 : Array (Option Value)} {oc11 kV11 dc11 pm11 cd11 ct11 : Value} {f12 : Addr} {od12 an12 : Option Addr} {sl12 : Array (Option Value)} {oc12 kV12 dc12 pm12 cd12 ct12 : Value} {f13 : Addr} {od13 an13 : Option Addr} {sl13 : Array (Option Value)} {oc13 kV13 dc13 pm13 cd13 ct13 : Value} {f14 : Addr} {od14 an14 : Option Addr} {sl14 : Array (Option Value)} {oc14 kV14 dc14 pm14 cd14 ct14 : Value} {f15 : Addr} {od15 an15 : Option Addr} {sl15 : Array (Option Value)} {oc15 kV15 dc15 pm15 cd15 ct15 : Value} {f16 : Addr} {od16 an16 : Option Addr} {sl16 : Array (Option Value)} {oc16 kV16 dc16 pm16 cd16 ct16 : Value} {f17 : Addr} {od17 an17 : Option Addr} {sl17 : Array (Option Value)} {oc17 kV17 dc17 pm17 cd17 ct17 : Value} {f18 : Addr} {od18 an18 : Option Addr} {sl18 : Array (Option Value)} {oc18 kV18 dc18 pm18 cd18 ct18 : Value} {f19 : Addr} {od19 an19 : Option Addr} {sl19 : Array (Option Value)} {oc19 kV19 dc19 pm19 cd19 ct19 : Value} {f20 : Addr} {od20 an20 : Option Addr} {sl20 : Array (Option Value)} {oc20 kV20 dc20 pm20 cd20 ct20 : Value} {f21 : Addr} {od21 an21 : Option Addr} {sl21 : Array (Option Value)} {oc21 kV21 dc21 pm21 cd21 ct21 : Value} {f22 : Addr} {od22 an22 : Option Addr} {sl22 : Array (Option Value)} {oc22 kV22 dc22 pm22 cd22 ct22 : Value} {f23 : Addr} {od23 an23 : Option Addr} {sl23 : Array (Option Value)} {oc23 kV23 dc23 pm23 cd23 ct23 : Value} {f24 : Addr} {od24 an24 : Option Addr} {sl24 : Array (Option Value)} {oc24 kV24 dc24 pm24 cd24 ct24 : Value} {f25 : Addr} {od25 an25 : Option Addr} {sl25 : Array (Option Value)} {oc25 kV25 dc25 pm25 cd25 ct25 : Value} {f26 : Addr} {od26 an26 : Option Addr} {sl26 : Array (Option Value)} {oc26 kV26 dc26 pm26 cd26 ct26 : Value} {f27 : Addr} {od27 an27 : Option Addr} {sl27 : Array (Option Value)} {oc27 kV27 dc27 pm27 cd27 ct27 : Value} {f28 : Addr} {od28 an28 : Option Addr} {sl28 : Array (Option Value)} {oc28 kV28 dc28 pm28 cd28 ct28 : Value} {f29 : Addr} {od29 an29 : Option Addr} {sl29 : Array (Option Value)} {oc29 kV29 dc29 pm29 cd29 ct29 : Value} {f30 : Addr} {od30 an30 : Option Addr} {sl30 : Array (Option Value)} {oc30 kV30 dc30 pm30 cd30 ct30 : Value} {f31 : Addr} {od31 an31 : Option Addr} {sl31 : Array (Option Value)} {oc31 kV31 dc31 pm31 cd31 ct31 : Value} {f32 : Addr} {od32 an32 : Option Addr} {sl32 : Array (Option Value)} {oc32 kV32 dc32 pm32 cd32 ct32 : Value} {f33 : Addr} {od33 an33 : Option Addr} {sl33 : Array (Option Value)} {oc33 kV33 dc33 pm33 cd33 ct33 : Value} {f34 : Addr} {od34 an34 : Option Addr} {sl34 : Array (Option Value)} {oc34 kV34 dc34 pm34 cd34 ct34 : Value} {f35 : Addr} {od35 an35 : Option Addr} {sl35 : Array (Option Value)} {oc35 kV35 dc35 pm35 cd35 ct35 : Value} {f36 : Addr} {od36 an36 : Option Addr} {sl36 : Array (Option Value)} {oc36 kV36 dc36 pm36 cd36 ct36 : Value} {f37 : Addr} {od37 an37 : Option Addr} {sl37 : Array (Option Value)} {oc37 kV37 dc37 pm37 cd37 ct37 : Value} {gONE : Addr} {ogONE : Obj} {gZERO : Addr} {ogZERO : Obj}
    (X : K.In h) (G : h.Ns mainGlobals mg) (hfa : mg "law" = some (.ref fa))
    (a0 : PySem.W.nsIn K mainGlobals "fraction" = some (some (.ref f0))) (l0 : K.lookup f0 = some ⟨oc0, od0, .func (PySem.W.fnOf "fraction" "fraction" (defArgs (topS 8)) (defBody (topS 8)) (defScope (topS 8)) .none kV0 dc0 pm0 an0 cd0 ct0), sl0⟩) (c0 : PySem.W.codeIn K cd0 "fraction" = true) (k0 : PySem.W.keepIn K (.ref f0) = true)
    (a1 : PySem.W.nsIn K mainGlobals "plus" = some (some (.ref f1))) (l1 : K.lookup f1 = some ⟨oc1, od1, .func (PySem.W.fnOf "plus" "plus" (defArgs (topS 9)) (defBody (topS 9)) (defScope (topS 9)) .none kV1 dc1 pm1 an1 cd1 ct1), sl1⟩) (c1 : PySem.W.codeIn K cd1 "plus" = true) (k1 : PySem.W.keepIn K (.ref f1) = true)
    (a2 : PySem.W.nsIn K mainGlobals "less" = some (some (.ref f2))) (l2 : K.lookup f2 = some ⟨oc2, od2, .func (PySem.W.fnOf "less" "less" (defArgs (topS 10)) (defBody (topS 10)) (defScope (topS 10)) .none kV2 dc2 pm2 an2 cd2 ct2), sl2⟩) (c2 : PySem.W.codeIn K cd2 "less" = true) (k2 : PySem.W.keepIn K (.ref f2) = true)
    (a3 : PySem.W.nsIn K mainGlobals "times" = some (some (.ref f3))) (l3 : K.lookup f3 = some ⟨oc3, od3, .func (PySem.W.fnOf "times" "times" (defArgs (topS 11)) (defBody (topS 11)) (defScope (topS 11)) .none kV3 dc3 pm3 an3 cd3 ct3), sl3⟩) (c3 : PySem.W.codeIn K cd3 "times" = true) (k3 : PySem.W.keepIn K (.ref f3) = true)
    (a4 : PySem.W.nsIn K mainGlobals "over" = some (some (.ref f4))) (l4 : K.lookup f4 = some ⟨oc4, od4, .func (PySem.W.fnOf "over" "over" (defArgs (topS 12)) (defBody (topS 12)) (defScope (topS 12)) .none kV4 dc4 pm4 an4 cd4 ct4), sl4⟩) (c4 : PySem.W.codeIn K cd4 "over" = true) (k4 : PySem.W.keepIn K (.ref f4) = true)
    (a5 : PySem.W.nsIn K mainGlobals "compare" = some (some (.ref f5))) (l5 : K.lookup f5 = some ⟨oc5, od5, .func (PySem.W.fnOf "compare" "compare" (defArgs (topS 13)) (defBody (topS 13)) (defScope (topS 13)) .none kV5 dc5 pm5 an5 cd5 ct5), sl5⟩) (c5 : PySem.W.codeIn K cd5 "compare" = true) (k5 : PySem.W.keepIn K (.ref f5) = true)
    (a6 : PySem.W.nsIn K mainGlobals "factor_of" = some (some (.ref f6))) (l6 : K.lookup f6 = some ⟨oc6, od6, .func (PySem.W.fnOf "factor_of" "factor_of" (defArgs (topS 15)) (defBody (topS 15)) (defScope (topS 15)) .none kV6 dc6 pm6 an6 cd6 ct6), sl6⟩) (c6 : PySem.W.codeIn K cd6 "factor_of" = true) (k6 : PySem.W.keepIn K (.ref f6) = true)
    (a7 : PySem.W.nsIn K mainGlobals "scale_beside" = some (some (.ref f7))) (l7 : K.lookup f7 = some ⟨oc7, od7, .func (PySem.W.fnOf "scale_beside" "scale_beside" (defArgs (topS 16)) (defBody (topS 16)) (defScope (topS 16)) .none kV7 dc7 pm7 an7 cd7 ct7), sl7⟩) (c7 : PySem.W.codeIn K cd7 "scale_beside" = true) (k7 : PySem.W.keepIn K (.ref f7) = true)
    (a8 : PySem.W.nsIn K mainGlobals "scales_of" = some (some (.ref f8))) (l8 : K.lookup f8 = some ⟨oc8, od8, .func (PySem.W.fnOf "scales_of" "scales_of" (defArgs (topS 17)) (defBody (topS 17)) (defScope (topS 17)) .none kV8 dc8 pm8 an8 cd8 ct8), sl8⟩) (c8 : PySem.W.codeIn K cd8 "scales_of" = true) (k8 : PySem.W.keepIn K (.ref f8) = true)
    (a9 : PySem.W.nsIn K mainGlobals "need_scales" = some (some (.ref f9))) (l9 : K.lookup f9 = some ⟨oc9, od9, .func (PySem.W.fnOf "need_scales" "need_scales" (defArgs (topS 18)) (defBody (topS 18)) (defScope (topS 18)) .none kV9 dc9 pm9 an9 cd9 ct9), sl9⟩) (c9 : PySem.W.codeIn K cd9 "need_scales" = true) (k9 : PySem.W.keepIn K (.ref f9) = true)
    (a10 : PySem.W.nsIn K mainGlobals "energy_rows" = some (some (.ref f10))) (l10 : K.lookup f10 = some ⟨oc10, od10, .func (PySem.W.fnOf "energy_rows" "energy_rows" (defArgs (topS 19)) (defBody (topS 19)) (defScope (topS 19)) .none kV10 dc10 pm10 an10 cd10 ct10), sl10⟩) (c10 : PySem.W.codeIn K cd10 "energy_rows" = true) (k10 : PySem.W.keepIn K (.ref f10) = true)
    (a11 : PySem.W.nsIn K mainGlobals "energy" = some (some (.ref f11))) (l11 : K.lookup f11 = some ⟨oc11, od11, .func (PySem.W.fnOf "energy" "energy" (defArgs (topS 20)) (defBody (topS 20)) (defScope (topS 20)) .none kV11 dc11 pm11 an11 cd11 ct11), sl11⟩) (c11 : PySem.W.codeIn K cd11 "energy" = true) (k11 : PySem.W.keepIn K (.ref f11) = true)
    (a12 : PySem.W.nsIn K mainGlobals "squares_until" = some (some (.ref f12))) (l12 : K.lookup f12 = some ⟨oc12, od12, .func (PySem.W.fnOf "squares_until" "squares_until" (defArgs (topS 21)) (defBody (topS 21)) (defScope (topS 21)) .none kV12 dc12 pm12 an12 cd12 ct12), sl12⟩) (c12 : PySem.W.codeIn K cd12 "squares_until" = true) (k12 : PySem.W.keepIn K (.ref f12) = true)
    (a13 : PySem.W.nsIn K mainGlobals "squares_of" = some (some (.ref f13))) (l13 : K.lookup f13 = some ⟨oc13, od13, .func (PySem.W.fnOf "squares_of" "squares_of" (defArgs (topS 22)) (defBody (topS 22)) (defScope (topS 22)) .none kV13 dc13 pm13 an13 cd13 ct13), sl13⟩) (c13 : PySem.W.codeIn K cd13 "squares_of" = true) (k13 : PySem.W.keepIn K (.ref f13) = true)
    (a14 : PySem.W.nsIn K mainGlobals "low_values" = some (some (.ref f14))) (l14 : K.lookup f14 = some ⟨oc14, od14, .func (PySem.W.fnOf "low_values" "low_values" (defArgs (topS 23)) (defBody (topS 23)) (defScope (topS 23)) .none kV14 dc14 pm14 an14 cd14 ct14), sl14⟩) (c14 : PySem.W.codeIn K cd14 "low_values" = true) (k14 : PySem.W.keepIn K (.ref f14) = true)
    (a15 : PySem.W.nsIn K mainGlobals "_law_bag" = some (some (.ref f15))) (l15 : K.lookup f15 = some ⟨oc15, od15, .func (PySem.W.fnOf "_law_bag" "_law_bag" (defArgs (topS 25)) (defBody (topS 25)) (defScope (topS 25)) .none kV15 dc15 pm15 an15 cd15 ct15), sl15⟩) (c15 : PySem.W.codeIn K cd15 "_law_bag" = true) (k15 : PySem.W.keepIn K (.ref f15) = true)
    (a16 : PySem.W.nsIn K mainGlobals "_law_take" = some (some (.ref f16))) (l16 : K.lookup f16 = some ⟨oc16, od16, .func (PySem.W.fnOf "_law_take" "_law_take" (defArgs (topS 26)) (defBody (topS 26)) (defScope (topS 26)) .none kV16 dc16 pm16 an16 cd16 ct16), sl16⟩) (c16 : PySem.W.codeIn K cd16 "_law_take" = true) (k16 : PySem.W.keepIn K (.ref f16) = true)
    (a17 : PySem.W.nsIn K mainGlobals "_law_some" = some (some (.ref f17))) (l17 : K.lookup f17 = some ⟨oc17, od17, .func (PySem.W.fnOf "_law_some" "_law_some" (defArgs (topS 27)) (defBody (topS 27)) (defScope (topS 27)) .none kV17 dc17 pm17 an17 cd17 ct17), sl17⟩) (c17 : PySem.W.codeIn K cd17 "_law_some" = true) (k17 : PySem.W.keepIn K (.ref f17) = true)
    (a18 : PySem.W.nsIn K mainGlobals "_law_alike" = some (some (.ref f18))) (l18 : K.lookup f18 = some ⟨oc18, od18, .func (PySem.W.fnOf "_law_alike" "_law_alike" (defArgs (topS 28)) (defBody (topS 28)) (defScope (topS 28)) .none kV18 dc18 pm18 an18 cd18 ct18), sl18⟩) (c18 : PySem.W.codeIn K cd18 "_law_alike" = true) (k18 : PySem.W.keepIn K (.ref f18) = true)
    (a19 : PySem.W.nsIn K mainGlobals "_law_gcd" = some (some (.ref f19))) (l19 : K.lookup f19 = some ⟨oc19, od19, .func (PySem.W.fnOf "_law_gcd" "_law_gcd" (defArgs (topS 29)) (defBody (topS 29)) (defScope (topS 29)) .none kV19 dc19 pm19 an19 cd19 ct19), sl19⟩) (c19 : PySem.W.codeIn K cd19 "_law_gcd" = true) (k19 : PySem.W.keepIn K (.ref f19) = true)
    (a20 : PySem.W.nsIn K mainGlobals "_law_f" = some (some (.ref f20))) (l20 : K.lookup f20 = some ⟨oc20, od20, .func (PySem.W.fnOf "_law_f" "_law_f" (defArgs (topS 30)) (defBody (topS 30)) (defScope (topS 30)) .none kV20 dc20 pm20 an20 cd20 ct20), sl20⟩) (c20 : PySem.W.codeIn K cd20 "_law_f" = true) (k20 : PySem.W.keepIn K (.ref f20) = true)
    (a21 : PySem.W.nsIn K mainGlobals "_law_plus" = some (some (.ref f21))) (l21 : K.lookup f21 = some ⟨oc21, od21, .func (PySem.W.fnOf "_law_plus" "_law_plus" (defArgs (topS 31)) (defBody (topS 31)) (defScope (topS 31)) .none kV21 dc21 pm21 an21 cd21 ct21), sl21⟩) (c21 : PySem.W.codeIn K cd21 "_law_plus" = true) (k21 : PySem.W.keepIn K (.ref f21) = true)
    (a22 : PySem.W.nsIn K mainGlobals "_law_minus" = some (some (.ref f22))) (l22 : K.lookup f22 = some ⟨oc22, od22, .func (PySem.W.fnOf "_law_minus" "_law_minus" (defArgs (topS 32)) (defBody (topS 32)) (defScope (topS 32)) .none kV22 dc22 pm22 an22 cd22 ct22), sl22⟩) (c22 : PySem.W.codeIn K cd22 "_law_minus" = true) (k22 : PySem.W.keepIn K (.ref f22) = true)
    (a23 : PySem.W.nsIn K mainGlobals "_law_by" = some (some (.ref f23))) (l23 : K.lookup f23 = some ⟨oc23, od23, .func (PySem.W.fnOf "_law_by" "_law_by" (defArgs (topS 33)) (defBody (topS 33)) (defScope (topS 33)) .none kV23 dc23 pm23 an23 cd23 ct23), sl23⟩) (c23 : PySem.W.codeIn K cd23 "_law_by" = true) (k23 : PySem.W.keepIn K (.ref f23) = true)
    (a24 : PySem.W.nsIn K mainGlobals "_law_total" = some (some (.ref f24))) (l24 : K.lookup f24 = some ⟨oc24, od24, .func (PySem.W.fnOf "_law_total" "_law_total" (defArgs (topS 34)) (defBody (topS 34)) (defScope (topS 34)) .none kV24 dc24 pm24 an24 cd24 ct24), sl24⟩) (c24 : PySem.W.codeIn K cd24 "_law_total" = true) (k24 : PySem.W.keepIn K (.ref f24) = true)
    (a25 : PySem.W.nsIn K mainGlobals "_law_value" = some (some (.ref f25))) (l25 : K.lookup f25 = some ⟨oc25, od25, .func (PySem.W.fnOf "_law_value" "_law_value" (defArgs (topS 35)) (defBody (topS 35)) (defScope (topS 35)) .none kV25 dc25 pm25 an25 cd25 ct25), sl25⟩) (c25 : PySem.W.codeIn K cd25 "_law_value" = true) (k25 : PySem.W.keepIn K (.ref f25) = true)
    (a26 : PySem.W.nsIn K mainGlobals "_law_some_fraction" = some (some (.ref f26))) (l26 : K.lookup f26 = some ⟨oc26, od26, .func (PySem.W.fnOf "_law_some_fraction" "_law_some_fraction" (defArgs (topS 36)) (defBody (topS 36)) (defScope (topS 36)) .none kV26 dc26 pm26 an26 cd26 ct26), sl26⟩) (c26 : PySem.W.codeIn K cd26 "_law_some_fraction" = true) (k26 : PySem.W.keepIn K (.ref f26) = true)
    (a27 : PySem.W.nsIn K mainGlobals "_law_even_book" = some (some (.ref f27))) (l27 : K.lookup f27 = some ⟨oc27, od27, .func (PySem.W.fnOf "_law_even_book" "_law_even_book" (defArgs (topS 37)) (defBody (topS 37)) (defScope (topS 37)) .none kV27 dc27 pm27 an27 cd27 ct27), sl27⟩) (c27 : PySem.W.codeIn K cd27 "_law_even_book" = true) (k27 : PySem.W.keepIn K (.ref f27) = true)
    (a28 : PySem.W.nsIn K mainGlobals "_law_over" = some (some (.ref f28))) (l28 : K.lookup f28 = some ⟨oc28, od28, .func (PySem.W.fnOf "_law_over" "_law_over" (defArgs (topS 38)) (defBody (topS 38)) (defScope (topS 38)) .none kV28 dc28 pm28 an28 cd28 ct28), sl28⟩) (c28 : PySem.W.codeIn K cd28 "_law_over" = true) (k28 : PySem.W.keepIn K (.ref f28) = true)
    (a29 : PySem.W.nsIn K mainGlobals "_law_is_int" = some (some (.ref f29))) (l29 : K.lookup f29 = some ⟨oc29, od29, .func (PySem.W.fnOf "_law_is_int" "_law_is_int" (defArgs (topS 39)) (defBody (topS 39)) (defScope (topS 39)) .none kV29 dc29 pm29 an29 cd29 ct29), sl29⟩) (c29 : PySem.W.codeIn K cd29 "_law_is_int" = true) (k29 : PySem.W.keepIn K (.ref f29) = true)
    (a30 : PySem.W.nsIn K mainGlobals "_law_is_fraction" = some (some (.ref f30))) (l30 : K.lookup f30 = some ⟨oc30, od30, .func (PySem.W.fnOf "_law_is_fraction" "_law_is_fraction" (defArgs (topS 40)) (defBody (topS 40)) (defScope (topS 40)) .none kV30 dc30 pm30 an30 cd30 ct30), sl30⟩) (c30 : PySem.W.codeIn K cd30 "_law_is_fraction" = true) (k30 : PySem.W.keepIn K (.ref f30) = true)
    (a31 : PySem.W.nsIn K mainGlobals "_law_scales" = some (some (.ref f31))) (l31 : K.lookup f31 = some ⟨oc31, od31, .func (PySem.W.fnOf "_law_scales" "_law_scales" (defArgs (topS 41)) (defBody (topS 41)) (defScope (topS 41)) .none kV31 dc31 pm31 an31 cd31 ct31), sl31⟩) (c31 : PySem.W.codeIn K cd31 "_law_scales" = true) (k31 : PySem.W.keepIn K (.ref f31) = true)
    (a32 : PySem.W.nsIn K mainGlobals "_law_energy" = some (some (.ref f32))) (l32 : K.lookup f32 = some ⟨oc32, od32, .func (PySem.W.fnOf "_law_energy" "_law_energy" (defArgs (topS 42)) (defBody (topS 42)) (defScope (topS 42)) .none kV32 dc32 pm32 an32 cd32 ct32), sl32⟩) (c32 : PySem.W.codeIn K cd32 "_law_energy" = true) (k32 : PySem.W.keepIn K (.ref f32) = true)
    (a33 : PySem.W.nsIn K mainGlobals "_law_squares" = some (some (.ref f33))) (l33 : K.lookup f33 = some ⟨oc33, od33, .func (PySem.W.fnOf "_law_squares" "_law_squares" (defArgs (topS 43)) (defBody (topS 43)) (defScope (topS 43)) .none kV33 dc33 pm33 an33 cd33 ct33), sl33⟩) (c33 : PySem.W.codeIn K cd33 "_law_squares" = true) (k33 : PySem.W.keepIn K (.ref f33) = true)
    (a34 : PySem.W.nsIn K mainGlobals "_law_few_values" = some (some (.ref f34))) (l34 : K.lookup f34 = some ⟨oc34, od34, .func (PySem.W.fnOf "_law_few_values" "_law_few_values" (defArgs (topS 44)) (defBody (topS 44)) (defScope (topS 44)) .none kV34 dc34 pm34 an34 cd34 ct34), sl34⟩) (c34 : PySem.W.codeIn K cd34 "_law_few_values" = true) (k34 : PySem.W.keepIn K (.ref f34) = true)
    (a35 : PySem.W.nsIn K mainGlobals "_law_just_even" = some (some (.ref f35))) (l35 : K.lookup f35 = some ⟨oc35, od35, .func (PySem.W.fnOf "_law_just_even" "_law_just_even" (defArgs (topS 45)) (defBody (topS 45)) (defScope (topS 45)) .none kV35 dc35 pm35 an35 cd35 ct35), sl35⟩) (c35 : PySem.W.codeIn K cd35 "_law_just_even" = true) (k35 : PySem.W.keepIn K (.ref f35) = true)
    (a36 : PySem.W.nsIn K mainGlobals "_law_by_squares" = some (some (.ref f36))) (l36 : K.lookup f36 = some ⟨oc36, od36, .func (PySem.W.fnOf "_law_by_squares" "_law_by_squares" (defArgs (topS 46)) (defBody (topS 46)) (defScope (topS 46)) .none kV36 dc36 pm36 an36 cd36 ct36), sl36⟩) (c36 : PySem.W.codeIn K cd36 "_law_by_squares" = true) (k36 : PySem.W.keepIn K (.ref f36) = true)
    (a37 : PySem.W.nsIn K mainGlobals "law" = some (some (.ref f37))) (l37 : K.lookup f37 = some ⟨oc37, od37, .func (PySem.W.fnOf "law" "law" (defArgs (topS 47)) (defBody (topS 47)) (defScope (topS 47)) .none kV37 dc37 pm37 an37 cd37 ct37), sl37⟩) (c37 : PySem.W.codeIn K cd37 "law" = true) (k37 : PySem.W.keepIn K (.ref f37) = true)
    (zcONE : PySem.W.nsIn K mainGlobals "ONE" = some (some (.ref gONE))) (zlONE : K.lookup gONE = some ogONE) (ziONE : isTupI ogONE [1, 1] = true)
    (zcZERO : PySem.W.nsIn K mainGlobals "ZERO" = some (some (.ref gZERO))) (zlZERO : K.lookup gZERO = some ogZERO) (ziZERO : isTupI ogZERO [0, 1] = true)
    (zg : PySem.W.nsIn K mainGlobals "gcd" = some (some (.builtin "math.gcd")))
    (zabs : PySem.W.nsIn K mainGlobals "abs" = some none)
    (zany : PySem.W.nsIn K mainGlobals "any" = some none)
    (zbool : PySem.W.nsIn K mainGlobals "bool" = some none)
    (zenumerate : PySem.W.nsIn K mainGlobals "enumerate" = some none)
    (zint : PySem.W.nsIn K mainGlobals "int" = some none)
    (zisinstance : PySem.W.nsIn K mainGlobals "isinstance" = some none)
    (zlen : PySem.W.nsIn K mainGlobals "len" = some none)
    (zlist : PySem.W.nsIn K mainGlobals "list" = some none)
    (zrange : PySem.W.nsIn K mainGlobals "range" = some none)
    (zrepr : PySem.W.nsIn K mainGlobals "repr" = some none)
    (ztuple : PySem.W.nsIn K mainGlobals "tuple" = some none)
    (zzip : PySem.W.nsIn K mainGlobals "zip" = some none)
    : ∃ fd : FuncData, (∀ (s : Shared) (v : Value), BindsTo s fd ⟨[v], []⟩ [("_law_script", v)]) ∧ ∀ base : Heap, K.In base → base.Ns mainGlobals mg → FK l.prog w K mg base 8 fa fd ["_law_script"] (spS K 1 F_law) := by
  have e := hfa.symm.trans (PySem.W.mg_of X G a37)
  cases e
  have F0 := fun_mk (st := topS 8) l0 c0 k0
  have F1 := fun_mk (st := topS 9) l1 c1 k1
  have F2 := fun_mk (st := topS 10) l2 c2 k2
  have F3 := fun_mk (st := topS 11) l3 c3 k3
  have F4 := fun_mk (st := topS 12) l4 c4 k4
  have F5 := fun_mk (st := topS 13) l5 c5 k5
  have F6 := fun_mk (st := topS 15) l6 c6 k6
  have F7 := fun_mk (st := topS 16) l7 c7 k7
  have F8 := fun_mk (st := topS 17) l8 c8 k8
  have F9 := fun_mk (st := topS 18) l9 c9 k9
  have F10 := fun_mk (st := topS 19) l10 c10 k10
  have F11 := fun_mk (st := topS 20) l11 c11 k11
  have F12 := fun_mk (st := topS 21) l12 c12 k12
  have F13 := fun_mk (st := topS 22) l13 c13 k13
  have F14 := fun_mk (st := topS 23) l14 c14 k14
  have F15 := fun_mk (st := topS 25) l15 c15 k15
  have F16 := fun_mk (st := topS 26) l16 c16 k16
  have F17 := fun_mk (st := topS 27) l17 c17 k17
  have F18 := fun_mk (st := topS 28) l18 c18 k18
  have F19 := fun_mk (st := topS 29) l19 c19 k19
  have F20 := fun_mk (st := topS 30) l20 c20 k20
  have F21 := fun_mk (st := topS 31) l21 c21 k21
  have F22 := fun_mk (st := topS 32) l22 c22 k22
  have F23 := fun_mk (st := topS 33) l23 c23 k23
  have F24 := fun_mk (st := topS 34) l24 c24 k24
  have F25 := fun_mk (st := topS 35) l25 c25 k25
  have F26 := fun_mk (st := topS 36) l26 c26 k26
  have F27 := fun_mk (st := topS 37) l27 c27 k27
  have F28 := fun_mk (st := topS 38) l28 c28 k28
  have F29 := fun_mk (st := topS 39) l29 c29 k29
  have F30 := fun_mk (st := topS 40) l30 c30 k30
  have F31 := fun_mk (st := topS 41) l31 c31 k31
  have F32 := fun_mk (st := topS 42) l32 c32 k32
  have F33 := fun_mk (st := topS 43) l33 c33 k33
  have F34 := fun_mk (st := topS 44) l34 c34 k34
  have F35 := fun_mk (st := topS 45) l35 c35 k35
  have F36 := fun_mk (st := topS 46) l36 c36 k36
  have F37 := fun_mk (st := topS 47) l37 c37 k37
  have fr : Free mg := ⟨PySem.W.mg_none_of X G zabs, PySem.W.mg_none_of X G zany, PySem.W.mg_none_of X G zbool, PySem.W.mg_none_of X G zenumerate, PySem.W.mg_none_of X G zint, PySem.W.mg_none_of X G zisinstance, PySem.W.mg_none_of X G zlen, PySem.W.mg_none_of X G zlist, PySem.W.mg_none_of X G zrange, PySem.W.mg_none_of X G zrepr, PySem.W.mg_none_of X G ztuple, PySem.W.mg_none_of X G zzip⟩
  have k_ONE : CK K mg "ONE" ONEd := ck_tupI (PySem.W.mg_of X G zcONE) zlONE ziONE
  have k_ZERO : CK K mg "ZERO" ZEROd := ck_tupI (PySem.W.mg_of X G zcZERO) zlZERO ziZERO
  have k_gcd := PySem.W.mg_of X G zg
  refine ⟨PySem.W.fnOf "law" "law" (defArgs (topS 47)) (defBody (topS 47)) (defScope (topS 47)) .none kV37 dc37 pm37 an37 cd37 ct37, fun s v => .of_eq rfl, fun base _ _ => ?_⟩
  have d0 := ok_fraction (P := l.prog) (w := w) (base := base) fr k_gcd F0 (PySem.W.mg_of X G a0)
  have d1 := ok_plus (P := l.prog) (w := w) (base := base) fr d0 F1 (PySem.W.mg_of X G a1)
  have d2 := ok_less (P := l.prog) (w := w) (base := base) fr d0 F2 (PySem.W.mg_of X G a2)
  have d3 := ok_times (P := l.prog) (w := w) (base := base) fr d0 F3 (PySem.W.mg_of X G a3)
  have d4 := ok_over (P := l.prog) (w := w) (base := base) fr d0 F4 (PySem.W.mg_of X G a4)
  have d5 := ok_compare (P := l.prog) (w := w) (base := base) fr F5 (PySem.W.mg_of X G a5)
  have d6 := ok_factor_of (P := l.prog) (w := w) (base := base) fr F6 (PySem.W.mg_of X G a6)
  have d7 := ok_scale_beside (P := l.prog) (w := w) (base := base) fr k_ZERO d5 d6 d4 d3 F7 (PySem.W.mg_of X G a7)
  have d8 := ok_scales_of (P := l.prog) (w := w) (base := base) fr k_ONE k_ZERO d6 d7 F8 (PySem.W.mg_of X G a8)
  have d9 := ok_need_scales (P := l.prog) (w := w) (base := base) fr d8 F9 (PySem.W.mg_of X G a9)
  have d10 := ok_energy_rows (P := l.prog) (w := w) (base := base) fr k_ZERO d2 d9 d3 F10 (PySem.W.mg_of X G a10)
  have d11 := ok_energy (P := l.prog) (w := w) (base := base) fr k_ZERO d10 d1 d3 F11 (PySem.W.mg_of X G a11)
  have d12 := ok_squares_until (P := l.prog) (w := w) (base := base) fr k_ZERO d5 d2 d4 d3 F12 (PySem.W.mg_of X G a12)
  have d13 := ok_squares_of (P := l.prog) (w := w) (base := base) fr k_ZERO d5 d10 d12 F13 (PySem.W.mg_of X G a13)
  have d14 := ok_low_values (P := l.prog) (w := w) (base := base) fr k_ONE k_ZERO d5 d10 d2 d12 d3 F14 (PySem.W.mg_of X G a14)
  have d15 := ok__law_bag (P := l.prog) (w := w) (base := base) fr F15 (PySem.W.mg_of X G a15)
  have d16 := ok__law_take (P := l.prog) (w := w) (base := base) fr F16 (PySem.W.mg_of X G a16)
  have d17 := ok__law_some (P := l.prog) (w := w) (base := base) fr d16 F17 (PySem.W.mg_of X G a17)
  have d18 := ok__law_alike (P := l.prog) (w := w) (base := base) fr F18 (PySem.W.mg_of X G a18)
  have d19 := ok__law_gcd (P := l.prog) (w := w) (base := base) fr F19 (PySem.W.mg_of X G a19)
  have d20 := ok__law_f (P := l.prog) (w := w) (base := base) fr d19 F20 (PySem.W.mg_of X G a20)
  have d21 := ok__law_plus (P := l.prog) (w := w) (base := base) fr d20 F21 (PySem.W.mg_of X G a21)
  have d22 := ok__law_minus (P := l.prog) (w := w) (base := base) fr d20 F22 (PySem.W.mg_of X G a22)
  have d23 := ok__law_by (P := l.prog) (w := w) (base := base) fr d20 F23 (PySem.W.mg_of X G a23)
  have d24 := ok__law_total (P := l.prog) (w := w) (base := base) fr d21 F24 (PySem.W.mg_of X G a24)
  have d25 := ok__law_value (P := l.prog) (w := w) (base := base) fr d23 d24 F25 (PySem.W.mg_of X G a25)
  have d26 := ok__law_some_fraction (P := l.prog) (w := w) (base := base) fr d17 d16 F26 (PySem.W.mg_of X G a26)
  have d27 := ok__law_even_book (P := l.prog) (w := w) (base := base) fr d20 d17 d26 d16 F27 (PySem.W.mg_of X G a27)
  have d28 := ok__law_over (P := l.prog) (w := w) (base := base) fr d20 F28 (PySem.W.mg_of X G a28)
  have d29 := ok__law_is_int (P := l.prog) (w := w) (base := base) fr F29 (PySem.W.mg_of X G a29)
  have d30 := ok__law_is_fraction (P := l.prog) (w := w) (base := base) fr d19 d29 F30 (PySem.W.mg_of X G a30)
  have d31 := ok__law_scales (P := l.prog) (w := w) (base := base) fr d23 d28 F31 (PySem.W.mg_of X G a31)
  have d32 := ok__law_energy (P := l.prog) (w := w) (base := base) fr d23 d22 d24 d25 F32 (PySem.W.mg_of X G a32)
  have d33 := ok__law_squares (P := l.prog) (w := w) (base := base) fr d23 d22 d28 F33 (PySem.W.mg_of X G a33)
  have d34 := ok__law_few_values (P := l.prog) (w := w) (base := base) fr d17 F34 (PySem.W.mg_of X G a34)
  have d35 := ok__law_just_even (P := l.prog) (w := w) (base := base) fr d23 d17 d16 F35 (PySem.W.mg_of X G a35)
  have d36 := ok__law_by_squares (P := l.prog) (w := w) (base := base) fr d23 d24 F36 (PySem.W.mg_of X G a36)
  exact fk_law fr d18 d15 d36 d32 d27 d34 d30 d35 d31 d33 d11 d14 d13 F37
end P55

set_option Elab.async false
set_option linter.all false
set_option maxRecDepth 100000
set_option maxHeartbeats 4000000
namespace P55
open PySem PySem.Spec PyProof.Rows L2 Zd
noncomputable def p_law_even_book_0 : EvS := (sSet (.nm 2) (eAdd (eC (.int 1)) (eCallS F__law_take (aCons (eVar 0) (aCons (eVar 1) aNil)))))
noncomputable def p_law_even_book_1 : EvS := (sPar [(.nm 3), (.nm 4)] (aCons (eFrz (asF (eLcD [11] (.nm 11) (iRg1 (eVar 2)) tYesE (eAdd (eC (.int 1)) (eCallS F__law_take (aCons (eVar 0) (aCons (eC (.int 3)) aNil))))))) (aCons eDicT aNil)))
noncomputable def p_law_even_book_2 : EvS := (sSet (.nm 5) (eCallS F__law_some (aCons (eVar 0) (aCons (eFrz (eLst (aCons (eC (.int 2)) (aCons (eC (.int 1)) (aCons (eC (.int 3)) aNil))))) aNil))))
noncomputable def p_law_even_book_3_b_b_0 : EvS := (sTPut (eVar 4) (aCons (eVar 6) (aCons (eVar 7) aNil)) (eCallS F__law_some (aCons (eVar 0) (aCons (eFrz (eLst (aCons (eC (.int 0)) (aCons (eC (.int 1)) (aCons (eNeg (eC (.int 1))) (aCons (eC (.int 2)) (aCons (eNeg (eC (.int 2))) (aCons (eC (.int 0)) aNil)))))))) aNil))))
noncomputable def p_law_even_book_3_b_b_1 : EvS := (sTPut (eVar 4) (aCons (eVar 7) (aCons (eVar 6) aNil)) (eTGet (eVar 4) (aCons (eVar 6) (aCons (eVar 7) aNil))))
noncomputable def p_law_even_book_3_b_b : EvS := (sForget [7] (sCons p_law_even_book_3_b_b_0 p_law_even_book_3_b_b_1))
noncomputable def p_law_even_book_3_b : EvS := (sFor (.nm 7) (iRg1 (eVar 6)) p_law_even_book_3_b_b)
noncomputable def p_law_even_book_3_bx : EvS := (sForget [7] p_law_even_book_3_b)
noncomputable def p_law_even_book_3 : EvS := (sFor (.nm 6) (iRg1 (eVar 2)) p_law_even_book_3_bx)
noncomputable def p_law_even_book_4 : EvS := (sSet (.nm 8) (eOwn (eLst aNil)))
noncomputable def p_law_even_book_5_b_0 : EvS := (sSet (.nm 10) (eFrz (asF (eLcD [6] (.nm 6) (iRg1 (eVar 2)) tYesE (eIf (eTst (eOp2 fEq (eVar 6) (eVar 9))) (eTup (aCons (eC (.int 0)) (aCons (eC (.int 1)) aNil))) (eCallP F__law_f (aCons (eTGet (eVar 4) (aCons (eVar 9) (aCons (eVar 6) aNil))) (aCons (eMul (eVar 5) (eIx (eVar 3) (eVar 9))) aNil))))))))
noncomputable def p_law_even_book_5_b_1 : EvS := (sExp (eMeth mAppend (eVar 8) (aCons (eTup (aCons (eTup (aCons (eCallS F__law_some_fraction (aCons (eVar 0) aNil)) (aCons (eCall fTuple (aCons (eVar 10) aNil)) aNil))) aNil)) aNil)))
noncomputable def p_law_even_book_5_b : EvS := (sForget [9, 10] (sCons p_law_even_book_5_b_0 p_law_even_book_5_b_1))
noncomputable def p_law_even_book_5 : EvS := (sFor (.nm 9) (iRg1 (eVar 2)) p_law_even_book_5_b)
noncomputable def p_law_even_book_6 : EvS := (sRet (eTup (aCons (eCall fTuple (aCons (eVar 8) aNil)) (aCons (eCall fTuple (aCons (eVar 3) aNil)) aNil))))
theorem parts_law_even_book : ev__law_even_book = (sCons p_law_even_book_0 (sCons p_law_even_book_1 (sCons p_law_even_book_2 (sCons p_law_even_book_3 (sCons p_law_even_book_4 (sCons p_law_even_book_5 p_law_even_book_6)))))) := by
  delta ev__law_even_book p_law_even_book_0 p_law_even_book_1 p_law_even_book_2 p_law_even_book_3_b_b_0 p_law_even_book_3_b_b_1 p_law_even_book_3_b_b p_law_even_book_3_b p_law_even_book_3_bx p_law_even_book_3 p_law_even_book_4 p_law_even_book_5_b_0 p_law_even_book_5_b_1 p_law_even_book_5_b p_law_even_book_5 p_law_even_book_6
  exact Eq.refl _
noncomputable def p_law_scales_0t : EvS := (sRet (eC .none))
noncomputable def p_law_scales_0 : EvS := (sIf (eTst (eOp2 fNe (eFrz (asF (eLcD [3, 8] (.tp [(.nm 3), (.nm 8)]) (iEn (eVar 0)) (eOrT (eTst (eOp2 fNe (eCall fLen (aCons (eVar 8) aNil)) (eC (.int 1)))) (eTst (eOp2 fNe (eIx (eIx (eIx (eIx (eVar 8) (eC (.int 0))) (eC (.int 1))) (eVar 3)) (eC (.int 0))) (eC (.int 0))))) (eVar 3)))) (eFrz (eLst aNil)))) p_law_scales_0t sNil)
noncomputable def p_law_scales_1 : EvS := (sPar [(.nm 1), (.nm 2)] (aCons (eFrz (asF (eLcD [8] (.nm 8) (iTp (eVar 0)) tYesE (eIx (eIx (eVar 8) (eC (.int 0))) (eC (.int 1)))))) (aCons eDicK aNil)))
noncomputable def p_law_scales_2_b_0 : EvS := (sSet (.nm 4) (eIf (eTst (eDNotIn (eVar 3) (eVar 2))) (eOwn (eLst (aCons (eVar 3) aNil))) (eOwn (eLst aNil))))
noncomputable def p_law_scales_2_b_1 : EvS := (sExp (eSetd (eVar 2) (eVar 3) (eTup (aCons (eC (.int 1)) (aCons (eC (.int 1)) aNil)))))
noncomputable def p_law_scales_2_b_2_b_0 : EvS := (sSet (.nm 5) (eMeth mPop (eVar 4) aNil))
noncomputable def p_law_scales_2_b_2_b_1_b_0 : EvS := (sIf (eAndT (eTst (eOp2 fEq (eIx (eIx (eIx (eVar 1) (eVar 5)) (eVar 6)) (eC (.int 0))) (eC (.int 0)))) (eTst (eOp2 fEq (eIx (eIx (eIx (eVar 1) (eVar 6)) (eVar 5)) (eC (.int 0))) (eC (.int 0))))) sCnt sNil)
noncomputable def p_law_scales_2_b_2_b_1_b_1t : EvS := (sRet (eC .none))
noncomputable def p_law_scales_2_b_2_b_1_b_1 : EvS := (sIf (eTst (eOp2 fLe (eMul (eIx (eIx (eIx (eVar 1) (eVar 5)) (eVar 6)) (eC (.int 0))) (eIx (eIx (eIx (eVar 1) (eVar 6)) (eVar 5)) (eC (.int 0)))) (eC (.int 0)))) p_law_scales_2_b_2_b_1_b_1t sNil)
noncomputable def p_law_scales_2_b_2_b_1_b_2 : EvS := (sSet (.nm 7) (eCallP F__law_over (aCons (eCallP F__law_by (aCons (eIx (eIx (eVar 1) (eVar 5)) (eVar 6)) (aCons (eDGet (eVar 2) (eVar 5)) aNil))) (aCons (eIx (eIx (eVar 1) (eVar 6)) (eVar 5)) aNil))))
noncomputable def p_law_scales_2_b_2_b_1_b_3t_0 : EvS := (sDPutE (eVar 2) (eVar 6) (eVar 7))
noncomputable def p_law_scales_2_b_2_b_1_b_3t_1 : EvS := (sExp (eMeth mAppend (eVar 4) (aCons (eVar 6) aNil)))
noncomputable def p_law_scales_2_b_2_b_1_b_3et : EvS := (sRet (eC .none))
noncomputable def p_law_scales_2_b_2_b_1_b_3e : EvS := (sIf (eTst (eOp2 fNe (eDGet (eVar 2) (eVar 6)) (eVar 7))) p_law_scales_2_b_2_b_1_b_3et sNil)
noncomputable def p_law_scales_2_b_2_b_1_b_3 : EvS := (sIf (eTst (eDNotIn (eVar 6) (eVar 2))) (sCons p_law_scales_2_b_2_b_1_b_3t_0 p_law_scales_2_b_2_b_1_b_3t_1) p_law_scales_2_b_2_b_1_b_3e)
noncomputable def p_law_scales_2_b_2_b_1_b : EvS := (sForget [6, 7] (sCons p_law_scales_2_b_2_b_1_b_0 (sCons p_law_scales_2_b_2_b_1_b_1 (sCons p_law_scales_2_b_2_b_1_b_2 p_law_scales_2_b_2_b_1_b_3))))
noncomputable def p_law_scales_2_b_2_b_1 : EvS := (sFor (.nm 6) (iRg1 (eCall fLen (aCons (eVar 0) aNil))) p_law_scales_2_b_2_b_1_b)
noncomputable def p_law_scales_2_b_2_b : EvS := (sForget [5, 6, 7] (sCons p_law_scales_2_b_2_b_0 p_law_scales_2_b_2_b_1))
noncomputable def p_law_scales_2_b_2_c : EvT := (eTst (eOp2 fNe (eVar 4) (eFrz (eLst aNil))))
noncomputable def p_law_scales_2_b_2 : EvS := (sWhile p_law_scales_2_b_2_c p_law_scales_2_b_2_b)
noncomputable def p_law_scales_2_b : EvS := (sForget [4, 5, 6, 7] (sCons p_law_scales_2_b_0 (sCons p_law_scales_2_b_1 p_law_scales_2_b_2)))
noncomputable def p_law_scales_2 : EvS := (sFor (.nm 3) (iRg1 (eCall fLen (aCons (eVar 0) aNil))) p_law_scales_2_b)
noncomputable def p_law_scales_3 : EvS := (sRet (eCall fTuple (aCons (eFrz (asF (eLcD [3] (.nm 3) (iRg1 (eCall fLen (aCons (eVar 0) aNil))) tYesE (eDGet (eVar 2) (eVar 3))))) aNil)))
theorem parts_law_scales : ev__law_scales = (sCons p_law_scales_0 (sCons p_law_scales_1 (sCons p_law_scales_2 p_law_scales_3))) := by
  delta ev__law_scales p_law_scales_0t p_law_scales_0 p_law_scales_1 p_law_scales_2_b_0 p_law_scales_2_b_1 p_law_scales_2_b_2_b_0 p_law_scales_2_b_2_b_1_b_0 p_law_scales_2_b_2_b_1_b_1t p_law_scales_2_b_2_b_1_b_1 p_law_scales_2_b_2_b_1_b_2 p_law_scales_2_b_2_b_1_b_3t_0 p_law_scales_2_b_2_b_1_b_3t_1 p_law_scales_2_b_2_b_1_b_3et p_law_scales_2_b_2_b_1_b_3e p_law_scales_2_b_2_b_1_b_3 p_law_scales_2_b_2_b_1_b p_law_scales_2_b_2_b_1 p_law_scales_2_b_2_b p_law_scales_2_b_2_c p_law_scales_2_b_2 p_law_scales_2_b p_law_scales_2 p_law_scales_3
  exact Eq.refl _
noncomputable def p_scales_of_0t : EvS := (sRet (eC .none))
noncomputable def p_scales_of_0 : EvS := (sIf (eOrT (eTst (eCall fAny (aCons (eFrz (asF (eLcD [7] (.nm 7) (iTp (eVar 0)) tYesE (eOp2 fGt (eCall fLen (aCons (eVar 7) aNil)) (eC (.int 1)))))) aNil))) (eTst (eCall fAny (aCons (eFrz (asF (eLcD [8] (.nm 8) (iRg1 (eCall fLen (aCons (eVar 0) aNil))) tYesE (eOp2 fNe (eCallP F_factor_of (aCons (eVar 0) (aCons (eVar 8) (aCons (eVar 8) aNil)))) (eC ZEROd))))) aNil)))) p_scales_of_0t sNil)
noncomputable def p_scales_of_1 : EvS := (sSet (.nm 1) eDicK)
noncomputable def p_scales_of_2_b_0 : EvS := (sSet (.nm 3) (eIf (eTst (eDIn (eVar 2) (eVar 1))) (eOwn (eLst aNil)) (eOwn (eLst (aCons (eVar 2) aNil)))))
noncomputable def p_scales_of_2_b_1 : EvS := (sExp (eSetd (eVar 1) (eVar 2) (eC ONEd)))
noncomputable def p_scales_of_2_b_2_b_0 : EvS := (sSet (.nm 4) (eMeth mPop (eVar 3) aNil))
noncomputable def p_scales_of_2_b_2_b_1_bt_0 : EvS := (sSet (.nm 6) (eCallP F_scale_beside (aCons (eVar 0) (aCons (eVar 4) (aCons (eVar 5) (aCons (eDGet (eVar 1) (eVar 4)) aNil))))))
noncomputable def p_scales_of_2_b_2_b_1_bt_1t : EvS := (sRet (eC .none))
noncomputable def p_scales_of_2_b_2_b_1_bt_1 : EvS := (sIf (eOrT (eTst (eIsN (eVar 6))) (eTst (eOp2 fNe (eDGet2 (eVar 1) (eVar 5) (eVar 6)) (eVar 6)))) p_scales_of_2_b_2_b_1_bt_1t sNil)
noncomputable def p_scales_of_2_b_2_b_1_bt_2t_0 : EvS := (sDPutE (eVar 1) (eVar 5) (eVar 6))
noncomputable def p_scales_of_2_b_2_b_1_bt_2t_1 : EvS := (sExp (eMeth mAppend (eVar 3) (aCons (eVar 5) aNil)))
noncomputable def p_scales_of_2_b_2_b_1_bt_2 : EvS := (sIf (eTst (eDNotIn (eVar 5) (eVar 1))) (sCons p_scales_of_2_b_2_b_1_bt_2t_0 p_scales_of_2_b_2_b_1_bt_2t_1) sNil)
noncomputable def p_scales_of_2_b_2_b_1_bet : EvS := (sRet (eC .none))
noncomputable def p_scales_of_2_b_2_b_1_be : EvS := (sIf (eTst (eOp2 fNe (eCallP F_factor_of (aCons (eVar 0) (aCons (eVar 5) (aCons (eVar 4) aNil)))) (eC ZEROd))) p_scales_of_2_b_2_b_1_bet sNil)
noncomputable def p_scales_of_2_b_2_b_1_b : EvS := (sIf (eTst (eOp2 fNe (eCallP F_factor_of (aCons (eVar 0) (aCons (eVar 4) (aCons (eVar 5) aNil)))) (eC ZEROd))) (sCons p_scales_of_2_b_2_b_1_bt_0 (sCons p_scales_of_2_b_2_b_1_bt_1 p_scales_of_2_b_2_b_1_bt_2)) p_scales_of_2_b_2_b_1_be)
noncomputable def p_scales_of_2_b_2_b_1_bx : EvS := (sForget [5, 6] p_scales_of_2_b_2_b_1_b)
noncomputable def p_scales_of_2_b_2_b_1 : EvS := (sFor (.nm 5) (iRg1 (eCall fLen (aCons (eVar 0) aNil))) p_scales_of_2_b_2_b_1_bx)
noncomputable def p_scales_of_2_b_2_b : EvS := (sForget [4, 5, 6] (sCons p_scales_of_2_b_2_b_0 p_scales_of_2_b_2_b_1))
noncomputable def p_scales_of_2_b_2_c : EvT := (eTru (eVar 3))
noncomputable def p_scales_of_2_b_2 : EvS := (sWhile p_scales_of_2_b_2_c p_scales_of_2_b_2_b)
noncomputable def p_scales_of_2_b : EvS := (sForget [2, 3, 4, 5, 6] (sCons p_scales_of_2_b_0 (sCons p_scales_of_2_b_1 p_scales_of_2_b_2)))
noncomputable def p_scales_of_2 : EvS := (sFor (.nm 2) (iRg1 (eCall fLen (aCons (eVar 0) aNil))) p_scales_of_2_b)
noncomputable def p_scales_of_3 : EvS := (sRet (eCall fTuple (aCons (eFrz (asF (eLcD [7] (.nm 7) (iRg1 (eCall fLen (aCons (eVar 0) aNil))) tYesE (eDGet (eVar 1) (eVar 7))))) aNil)))
theorem parts_scales_of : ev_scales_of = (sCons p_scales_of_0 (sCons p_scales_of_1 (sCons p_scales_of_2 p_scales_of_3))) := by
  delta ev_scales_of p_scales_of_0t p_scales_of_0 p_scales_of_1 p_scales_of_2_b_0 p_scales_of_2_b_1 p_scales_of_2_b_2_b_0 p_scales_of_2_b_2_b_1_bt_0 p_scales_of_2_b_2_b_1_bt_1t p_scales_of_2_b_2_b_1_bt_1 p_scales_of_2_b_2_b_1_bt_2t_0 p_scales_of_2_b_2_b_1_bt_2t_1 p_scales_of_2_b_2_b_1_bt_2 p_scales_of_2_b_2_b_1_bet p_scales_of_2_b_2_b_1_be p_scales_of_2_b_2_b_1_b p_scales_of_2_b_2_b_1_bx p_scales_of_2_b_2_b_1 p_scales_of_2_b_2_b p_scales_of_2_b_2_c p_scales_of_2_b_2 p_scales_of_2_b p_scales_of_2 p_scales_of_3
  exact Eq.refl _
noncomputable def p_energy_rows_0 : EvS := (sSet (.nm 1) (eOwn (eLst aNil)))
noncomputable def p_energy_rows_1_b_0 : EvS := (sSet (.nm 4) (eOwn (asF (eLcD [5] (.nm 5) (iTp (eIx (eIx (eIx (eVar 0) (eVar 2)) (eC (.int 0))) (eC (.int 1)))) tYesE (eCallP F_less (aCons (eC ZEROd) (aCons (eCallP F_times (aCons (eVar 3) (aCons (eVar 5) aNil))) aNil)))))))
noncomputable def p_energy_rows_1_b_1 : EvS := (sSetIx (eVar 4) (eVar 2) (eVar 3))
noncomputable def p_energy_rows_1_b_2 : EvS := (sExp (eAppL (eVar 1) (eVar 4)))
noncomputable def p_energy_rows_1_b : EvS := (sForget [2, 3, 4] (sCons p_energy_rows_1_b_0 (sCons p_energy_rows_1_b_1 p_energy_rows_1_b_2)))
noncomputable def p_energy_rows_1 : EvS := (sFor (.tp [(.nm 2), (.nm 3)]) (iEn (eCallP F_need_scales (aCons (eVar 0) aNil))) p_energy_rows_1_b)
noncomputable def p_energy_rows_2 : EvS := (sRet (eVar 1))
theorem parts_energy_rows : ev_energy_rows = (sCons p_energy_rows_0 (sCons p_energy_rows_1 p_energy_rows_2)) := by
  delta ev_energy_rows p_energy_rows_0 p_energy_rows_1_b_0 p_energy_rows_1_b_1 p_energy_rows_1_b_2 p_energy_rows_1_b p_energy_rows_1 p_energy_rows_2
  exact Eq.refl _
noncomputable def p_energy_0 : EvS := (sSet (.nm 2) (eC ZEROd))
noncomputable def p_energy_1_b_b : EvS := (sSet (.nm 2) (eCallP F_plus (aCons (eVar 2) (aCons (eCallP F_times (aCons (eVar 5) (aCons (eCallP F_times (aCons (eVar 4) (aCons (eVar 6) aNil))) aNil))) aNil))))
noncomputable def p_energy_1_b_bx : EvS := (sForget [5, 6] p_energy_1_b_b)
noncomputable def p_energy_1_b : EvS := (sFor (.tp [(.nm 5), (.nm 6)]) (iZp (eVar 3) (eVar 1)) p_energy_1_b_bx)
noncomputable def p_energy_1_bx : EvS := (sForget [3, 4, 5, 6] p_energy_1_b)
noncomputable def p_energy_1 : EvS := (sFor (.tp [(.nm 3), (.nm 4)]) (iZp (eCallP F_energy_rows (aCons (eVar 0) aNil)) (eVar 1)) p_energy_1_bx)
noncomputable def p_energy_2 : EvS := (sRet (eVar 2))
theorem parts_energy : ev_energy = (sCons p_energy_0 (sCons p_energy_1 p_energy_2)) := by
  delta ev_energy p_energy_0 p_energy_1_b_b p_energy_1_b_bx p_energy_1_b p_energy_1_bx p_energy_1 p_energy_2
  exact Eq.refl _
noncomputable def p_squares_until_0 : EvS := (sPar [.nm 0, .nm 1] (aCons (eOwnL (eLcD [8] (.nm 8) (iLst (eVar 0)) tYesE (eOwn (eCallN gList (aCons (eVar 8) aNil))))) (aCons (eOwn (eLst aNil)) aNil)))
noncomputable def p_squares_until_1_b_0 : EvS := (sSet (.nm 3) (eIx (eIx (eVar 0) (eVar 2)) (eVar 2)))
noncomputable def p_squares_until_1_b_1t : EvS := (sRet (eFrz (eNew2 gAdd (eVar 1) (eFrz (eLst (aCons (eTup (aCons (eVar 3) (aCons (eTup aNil) aNil))) aNil))))))
noncomputable def p_squares_until_1_b_1 : EvS := (sIf (eTst (eOp2 fLe (eCallP F_compare (aCons (eVar 3) (aCons (eC ZEROd) aNil))) (eC (.int 0)))) p_squares_until_1_b_1t sNil)
noncomputable def p_squares_until_1_b_2 : EvS := (sSet (.nm 4) (eFrz (asF (eLcD [9] (.nm 9) (iLst (eFrz (eSlL (eIx (eVar 0) (eVar 2)) (oSome (eAdd (eVar 2) (eC (.int 1)))) oNone))) tYesE (eCallP F_over (aCons (eVar 9) (aCons (eVar 3) aNil)))))))
noncomputable def p_squares_until_1_b_3 : EvS := (sExp (eMeth mAppend (eVar 1) (aCons (eTup (aCons (eVar 3) (aCons (eCall fTuple (aCons (eVar 4) aNil)) aNil))) aNil)))
noncomputable def p_squares_until_1_b_4_b_0 : EvS := (sSet (.nm 6) (eIx (eIx (eVar 0) (eVar 5)) (eVar 2)))
noncomputable def p_squares_until_1_b_4_b_1_b : EvS := (sSetIx (eIx (eVar 0) (eVar 5)) (eVar 7) (eCallP F_less (aCons (eIx (eIx (eVar 0) (eVar 5)) (eVar 7)) (aCons (eCallP F_times (aCons (eVar 6) (aCons (eIx (eVar 4) (eSub (eSub (eVar 7) (eVar 2)) (eC (.int 1)))) aNil))) aNil))))
noncomputable def p_squares_until_1_b_4_b_1_bx : EvS := (sForget [7] p_squares_until_1_b_4_b_1_b)
noncomputable def p_squares_until_1_b_4_b_1 : EvS := (sFor (.nm 7) (iRg2 (eAdd (eVar 2) (eC (.int 1))) (eLenL (eVar 0))) p_squares_until_1_b_4_b_1_bx)
noncomputable def p_squares_until_1_b_4_b : EvS := (sForget [5, 6, 7] (sCons p_squares_until_1_b_4_b_0 p_squares_until_1_b_4_b_1))
noncomputable def p_squares_until_1_b_4 : EvS := (sFor (.nm 5) (iRg2 (eAdd (eVar 2) (eC (.int 1))) (eLenL (eVar 0))) p_squares_until_1_b_4_b)
noncomputable def p_squares_until_1_b : EvS := (sForget [2, 3, 4, 5, 6, 7] (sCons p_squares_until_1_b_0 (sCons p_squares_until_1_b_1 (sCons p_squares_until_1_b_2 (sCons p_squares_until_1_b_3 p_squares_until_1_b_4)))))
noncomputable def p_squares_until_1 : EvS := (sFor (.nm 2) (iRg1 (eLenL (eVar 0))) p_squares_until_1_b)
noncomputable def p_squares_until_2 : EvS := (sRet (eVar 1))
theorem parts_squares_until : ev_squares_until = (sCons p_squares_until_0 (sCons p_squares_until_1 p_squares_until_2)) := by
  delta ev_squares_until p_squares_until_0 p_squares_until_1_b_0 p_squares_until_1_b_1t p_squares_until_1_b_1 p_squares_until_1_b_2 p_squares_until_1_b_3 p_squares_until_1_b_4_b_0 p_squares_until_1_b_4_b_1_b p_squares_until_1_b_4_b_1_bx p_squares_until_1_b_4_b_1 p_squares_until_1_b_4_b p_squares_until_1_b_4 p_squares_until_1_b p_squares_until_1 p_squares_until_2
  exact Eq.refl _
noncomputable def p_low_values_0 : EvS := (sSet (.nm 1) (eCallP F_squares_until (aCons (eCallP F_energy_rows (aCons (eVar 0) aNil)) aNil)))
noncomputable def p_low_values_1t : EvS := (sRet (eC .none))
noncomputable def p_low_values_1 : EvS := (sIf (eTst (eOp2 fGt (eCallP F_compare (aCons (eIx (eIx (eVar 1) (eNeg (eC (.int 1)))) (eC (.int 0))) (aCons (eC ZEROd) aNil))) (eC (.int 0)))) p_low_values_1t sNil)
noncomputable def p_low_values_2 : EvS := (sSet (.nm 2) (eOwn (eNew2 gMul (eFrz (eLst (aCons (eC ZEROd) aNil))) (eCall fLen (aCons (eVar 0) aNil)))))
noncomputable def p_low_values_3 : EvS := (sSet (.nm 3) (eSub (eCall fLen (aCons (eVar 1) aNil)) (eC (.int 1))))
noncomputable def p_low_values_4 : EvS := (sSetIx (eVar 2) (eVar 3) (eC ONEd))
noncomputable def p_low_values_5_b_b : EvS := (sSetIx (eVar 2) (eVar 4) (eCallP F_less (aCons (eIx (eVar 2) (eVar 4)) (aCons (eCallP F_times (aCons (eVar 5) (aCons (eVar 6) aNil))) aNil))))
noncomputable def p_low_values_5_b_bx : EvS := (sForget [5, 6] p_low_values_5_b_b)
noncomputable def p_low_values_5_b : EvS := (sFor (.tp [(.nm 5), (.nm 6)]) (iZp (eIx (eIx (eVar 1) (eVar 4)) (eC (.int 1))) (eFrz (eSlL (eVar 2) (oSome (eAdd (eVar 4) (eC (.int 1)))) oNone))) p_low_values_5_b_bx)
noncomputable def p_low_values_5_bx : EvS := (sForget [4, 5, 6] p_low_values_5_b)
noncomputable def p_low_values_5 : EvS := (sFor (.nm 4) (iRgD (eSub (eVar 3) (eC (.int 1))) (eNeg (eC (.int 1)))) p_low_values_5_bx)
noncomputable def p_low_values_6 : EvS := (sRet (eCall fTuple (aCons (eVar 2) aNil)))
theorem parts_low_values : ev_low_values = (sCons p_low_values_0 (sCons p_low_values_1 (sCons p_low_values_2 (sCons p_low_values_3 (sCons p_low_values_4 (sCons p_low_values_5 p_low_values_6)))))) := by
  delta ev_low_values p_low_values_0 p_low_values_1t p_low_values_1 p_low_values_2 p_low_values_3 p_low_values_4 p_low_values_5_b_b p_low_values_5_b_bx p_low_values_5_b p_low_values_5_bx p_low_values_5 p_low_values_6
  exact Eq.refl _
noncomputable def p_law_squares_0 : EvS := (sPar [(.nm 2), (.nm 3), (.nm 4)] (aCons (eCall fLen (aCons (eVar 0) aNil)) (aCons (eOwn (eLst aNil)) (aCons (eOwn (eLst aNil)) aNil))))
noncomputable def p_law_squares_1_b_0 : EvS := (sSet (.nm 6) (eOwn (asF (eLcD [11] (.nm 11) (iTp (eIx (eIx (eIx (eVar 0) (eVar 5)) (eC (.int 0))) (eC (.int 1)))) tYesE (eCallP F__law_minus (aCons (eTup (aCons (eC (.int 0)) (aCons (eC (.int 1)) aNil))) (aCons (eCallP F__law_by (aCons (eIx (eVar 1) (eVar 5)) (aCons (eVar 11) aNil))) aNil)))))))
noncomputable def p_law_squares_1_b_1 : EvS := (sSetIx (eVar 6) (eVar 5) (eIx (eVar 1) (eVar 5)))
noncomputable def p_law_squares_1_b_2 : EvS := (sExp (eAppL (eVar 4) (eVar 6)))
noncomputable def p_law_squares_1_b : EvS := (sForget [5, 6] (sCons p_law_squares_1_b_0 (sCons p_law_squares_1_b_1 p_law_squares_1_b_2)))
noncomputable def p_law_squares_1 : EvS := (sFor (.nm 5) (iRg1 (eVar 2)) p_law_squares_1_b)
noncomputable def p_law_squares_2_b_0 : EvS := (sSet (.nm 8) (eIx (eIx (eVar 4) (eVar 7)) (eVar 7)))
noncomputable def p_law_squares_2_b_1t : EvS := (sRet (eC .none))
noncomputable def p_law_squares_2_b_1 : EvS := (sIf (eTst (eOp2 fLe (eIx (eVar 8) (eC (.int 0))) (eC (.int 0)))) p_law_squares_2_b_1t sNil)
noncomputable def p_law_squares_2_b_2 : EvS := (sSet (.nm 9) (eFrz (asF (eLcD [12] (.nm 12) (iLst (eIx (eVar 4) (eVar 7))) tYesE (eCallP F__law_over (aCons (eVar 12) (aCons (eVar 8) aNil)))))))
noncomputable def p_law_squares_2_b_3 : EvS := (sExp (eMeth mAppend (eVar 3) (aCons (eTup (aCons (eVar 8) (aCons (eCall fTuple (aCons (eFrz (eSlL (eVar 9) (oSome (eAdd (eVar 7) (eC (.int 1)))) oNone)) aNil)) aNil))) aNil)))
noncomputable def p_law_squares_2_b_4_b : EvS := (sSetIxL (eVar 4) (eVar 10) (eOwn (asF (eLcD [12, 13] (.tp [(.nm 12), (.nm 13)]) (iZp (eIx (eVar 4) (eVar 10)) (eVar 9)) tYesE (eCallP F__law_minus (aCons (eVar 12) (aCons (eCallP F__law_by (aCons (eIx (eIx (eVar 4) (eVar 10)) (eVar 7)) (aCons (eVar 13) aNil))) aNil)))))))
noncomputable def p_law_squares_2_b_4_bx : EvS := (sForget [10] p_law_squares_2_b_4_b)
noncomputable def p_law_squares_2_b_4 : EvS := (sFor (.nm 10) (iRg2 (eAdd (eVar 7) (eC (.int 1))) (eVar 2)) p_law_squares_2_b_4_bx)
noncomputable def p_law_squares_2_b : EvS := (sForget [7, 8, 9, 10] (sCons p_law_squares_2_b_0 (sCons p_law_squares_2_b_1 (sCons p_law_squares_2_b_2 (sCons p_law_squares_2_b_3 p_law_squares_2_b_4)))))
noncomputable def p_law_squares_2 : EvS := (sFor (.nm 7) (iRg1 (eVar 2)) p_law_squares_2_b)
noncomputable def p_law_squares_3 : EvS := (sRet (eCall fTuple (aCons (eVar 3) aNil)))
theorem parts_law_squares : ev__law_squares = (sCons p_law_squares_0 (sCons p_law_squares_1 (sCons p_law_squares_2 p_law_squares_3))) := by
  delta ev__law_squares p_law_squares_0 p_law_squares_1_b_0 p_law_squares_1_b_1 p_law_squares_1_b_2 p_law_squares_1_b p_law_squares_1 p_law_squares_2_b_0 p_law_squares_2_b_1t p_law_squares_2_b_1 p_law_squares_2_b_2 p_law_squares_2_b_3 p_law_squares_2_b_4_b p_law_squares_2_b_4_bx p_law_squares_2_b_4 p_law_squares_2_b p_law_squares_2 p_law_squares_3
  exact Eq.refl _
noncomputable def p_law_energy_0 : EvS := (sSet (.nm 3) (eOwn (eLst aNil)))
noncomputable def p_law_energy_1_b_0 : EvS := (sSet (.nm 6) (eCallP F__law_value (aCons (eTup (aCons (eTup (aCons (eC (.int 0)) (aCons (eC (.int 1)) aNil))) (aCons (eIx (eIx (eVar 5) (eC (.int 0))) (eC (.int 1))) aNil))) (aCons (eVar 2) aNil))))
noncomputable def p_law_energy_1_b_1 : EvS := (sExp (eMeth mAppend (eVar 3) (aCons (eCallP F__law_by (aCons (eCallP F__law_by (aCons (eIx (eVar 1) (eVar 4)) (aCons (eIx (eVar 2) (eVar 4)) aNil))) (aCons (eCallP F__law_minus (aCons (eIx (eVar 2) (eVar 4)) (aCons (eVar 6) aNil))) aNil))) aNil)))
noncomputable def p_law_energy_1_b : EvS := (sForget [4, 5, 6] (sCons p_law_energy_1_b_0 p_law_energy_1_b_1))
noncomputable def p_law_energy_1 : EvS := (sFor (.tp [(.nm 4), (.nm 5)]) (iEn (eVar 0)) p_law_energy_1_b)
noncomputable def p_law_energy_2 : EvS := (sRet (eCallP F__law_total (aCons (eVar 3) aNil)))
theorem parts_law_energy : ev__law_energy = (sCons p_law_energy_0 (sCons p_law_energy_1 p_law_energy_2)) := by
  delta ev__law_energy p_law_energy_0 p_law_energy_1_b_0 p_law_energy_1_b_1 p_law_energy_1_b p_law_energy_1 p_law_energy_2
  exact Eq.refl _
noncomputable def p_law_by_squares_0 : EvS := (sSet (.nm 2) (eOwn (eLst aNil)))
noncomputable def p_law_by_squares_1_b_0 : EvS := (sSet (.nm 5) (eCallP F__law_total (aCons (eFrz (eNew2 gAdd (eFrz (eLst (aCons (eIx (eVar 1) (eVar 3)) aNil))) (eFrz (asF (eLcD [6, 7] (.tp [(.nm 6), (.nm 7)]) (iZp (eIx (eVar 4) (eC (.int 1))) (eSlT (eVar 1) (oSome (eAdd (eVar 3) (eC (.int 1)))) oNone)) tYesE (eCallP F__law_by (aCons (eVar 6) (aCons (eVar 7) aNil)))))))) aNil)))
noncomputable def p_law_by_squares_1_b_1 : EvS := (sExp (eMeth mAppend (eVar 2) (aCons (eCallP F__law_by (aCons (eIx (eVar 4) (eC (.int 0))) (aCons (eCallP F__law_by (aCons (eVar 5) (aCons (eVar 5) aNil))) aNil))) aNil)))
noncomputable def p_law_by_squares_1_b : EvS := (sForget [3, 4, 5] (sCons p_law_by_squares_1_b_0 p_law_by_squares_1_b_1))
noncomputable def p_law_by_squares_1 : EvS := (sFor (.tp [(.nm 3), (.nm 4)]) (iEn (eVar 0)) p_law_by_squares_1_b)
noncomputable def p_law_by_squares_2 : EvS := (sRet (eCallP F__law_total (aCons (eVar 2) aNil)))
theorem parts_law_by_squares : ev__law_by_squares = (sCons p_law_by_squares_0 (sCons p_law_by_squares_1 p_law_by_squares_2)) := by
  delta ev__law_by_squares p_law_by_squares_0 p_law_by_squares_1_b_0 p_law_by_squares_1_b_1 p_law_by_squares_1_b p_law_by_squares_1 p_law_by_squares_2
  exact Eq.refl _
noncomputable def p_law_total_0 : EvS := (sSet (.nm 1) (eTup (aCons (eC (.int 0)) (aCons (eC (.int 1)) aNil))))
noncomputable def p_law_total_1_b : EvS := (sSet (.nm 1) (eCallP F__law_plus (aCons (eVar 1) (aCons (eVar 2) aNil))))
noncomputable def p_law_total_1_bx : EvS := (sForget [2] p_law_total_1_b)
noncomputable def p_law_total_1 : EvS := (sFor (.nm 2) (iLst (eVar 0)) p_law_total_1_bx)
noncomputable def p_law_total_2 : EvS := (sRet (eVar 1))
theorem parts_law_total : ev__law_total = (sCons p_law_total_0 (sCons p_law_total_1 p_law_total_2)) := by
  delta ev__law_total p_law_total_0 p_law_total_1_b p_law_total_1_bx p_law_total_1 p_law_total_2
  exact Eq.refl _
noncomputable def p_law_0 : EvS := (sSet (.nm 1) (eCallS F__law_bag (aCons (eVar 0) aNil)))
noncomputable def p_law_1_b_0 : EvS := (sSet (.nm 3) (eIf (eTst (eOp2 fLt (eVar 2) (eC (.int 5)))) (eIx (eCallS F__law_even_book (aCons (eVar 1) (aCons (eC (.int 5)) aNil))) (eC (.int 0))) (eCallS F__law_just_even (aCons (eVar 1) aNil))))
noncomputable def p_law_1_b_1 : EvS := (sPar [.nm 4, .nm 5] (aCons (eCallP F__law_scales (aCons (eVar 3) aNil)) (aCons (eCall fRepr (aCons (eVar 3) aNil)) aNil)))
noncomputable def p_law_1_b_2 : EvS := (sSet (.nm 6) (eCallP F__law_squares (aCons (eVar 3) (aCons (eVar 4) aNil))))
noncomputable def p_law_1_b_3 : EvS := (sSet (.nm 7) (eCallP F_low_values (aCons (eVar 3) aNil)))
noncomputable def p_law_1_b_4t : EvS := (sRet (eC (.bool false)))
noncomputable def p_law_1_b_4 : EvS := (sIf (eOrT (eNotT (eTst (eCallP F__law_alike (aCons (eCallP F_squares_of (aCons (eVar 3) aNil)) (aCons (eVar 6) aNil))))) (eOrT (eTst (eOp2 fNe (eIsN (eVar 7)) (eNotN (eVar 6)))) (eNotT (eTst (eCallP F__law_alike (aCons (eCallP F_low_values (aCons (eVar 3) aNil)) (aCons (eVar 7) aNil))))))) p_law_1_b_4t sNil)
noncomputable def p_law_1_b_5t_0t : EvS := (sRet (eC (.bool false)))
noncomputable def p_law_1_b_5t_0 : EvS := (sIf (eOrT (eNotT (eTst (eIsi "tuple" (eVar 7)))) (eOrT (eTst (eOp2 fNe (eCall fLen (aCons (eVar 7) aNil)) (eCall fLen (aCons (eVar 3) aNil)))) (eOrT (eTst (eOp2 fNe (eFrz (asF (eLcD [9] (.nm 9) (iTp (eVar 7)) (eNotT (eTst (eCallP F__law_is_fraction (aCons (eVar 9) aNil)))) (eVar 9)))) (eFrz (eLst aNil)))) (eTst (eOp2 fEq (eFrz (asF (eLcD [9] (.nm 9) (iTp (eVar 7)) (eTst (eOp2 fNe (eIx (eVar 9) (eC (.int 0))) (eC (.int 0)))) (eVar 9)))) (eFrz (eLst aNil))))))) p_law_1_b_5t_0t sNil)
noncomputable def p_law_1_b_5t_1t : EvS := (sRet (eC (.bool false)))
noncomputable def p_law_1_b_5t_1 : EvS := (sIf (eTst (eOp2 fGt (eIx (eCallP F__law_energy (aCons (eVar 3) (aCons (eVar 4) (aCons (eVar 7) aNil)))) (eC (.int 0))) (eC (.int 0)))) p_law_1_b_5t_1t sNil)
noncomputable def p_law_1_b_5 : EvS := (sIf (eTst (eNotN (eVar 7))) (sCons p_law_1_b_5t_0 p_law_1_b_5t_1) sNil)
noncomputable def p_law_1_b_6 : EvS := (sSet (.nm 8) (eCallS F__law_few_values (aCons (eVar 1) (aCons (eCall fLen (aCons (eVar 3) aNil)) aNil))))
noncomputable def p_law_1_b_7t : EvS := (sRet (eC (.bool false)))
noncomputable def p_law_1_b_7 : EvS := (sIf (eAndT (eTst (eNotN (eVar 6))) (eNotT (eTst (eCallP F__law_alike (aCons (eCallP F_energy (aCons (eVar 3) (aCons (eVar 8) aNil))) (aCons (eCallP F__law_by_squares (aCons (eVar 6) (aCons (eVar 8) aNil))) aNil)))))) p_law_1_b_7t sNil)
noncomputable def p_law_1_b_8t : EvS := (sRet (eC (.bool false)))
noncomputable def p_law_1_b_8 : EvS := (sIf (eTst (eOp2 fNe (eCall fRepr (aCons (eVar 3) aNil)) (eVar 5))) p_law_1_b_8t sNil)
noncomputable def p_law_1_b : EvS := (sForget [2, 3, 4, 5, 6, 7, 8] (sCons p_law_1_b_0 (sCons p_law_1_b_1 (sCons p_law_1_b_2 (sCons p_law_1_b_3 (sCons p_law_1_b_4 (sCons p_law_1_b_5 (sCons p_law_1_b_6 (sCons p_law_1_b_7 p_law_1_b_8)))))))))
noncomputable def p_law_1 : EvS := (sFor (.nm 2) (iRg1 (eC (.int 6))) p_law_1_b)
noncomputable def p_law_2 : EvS := (sRet (eC (.bool true)))
theorem parts_law : ev_law = (sCons p_law_0 (sCons p_law_1 p_law_2)) := by
  delta ev_law p_law_0 p_law_1_b_0 p_law_1_b_1 p_law_1_b_2 p_law_1_b_3 p_law_1_b_4t p_law_1_b_4 p_law_1_b_5t_0t p_law_1_b_5t_0 p_law_1_b_5t_1t p_law_1_b_5t_1 p_law_1_b_5 p_law_1_b_6 p_law_1_b_7t p_law_1_b_7 p_law_1_b_8t p_law_1_b_8 p_law_1_b p_law_1 p_law_2
  exact Eq.refl _
noncomputable def p_need_scales_0 : EvS := (sSet (.nm 1) (eCallP F_scales_of (aCons (eVar 0) aNil)))
noncomputable def p_need_scales_1 : EvS := (sIf (eTst (eIsN (eVar 1))) sStuck sNil)
noncomputable def p_need_scales_2 : EvS := (sRet (eVar 1))
theorem parts_need_scales : ev_need_scales = (sCons p_need_scales_0 (sCons p_need_scales_1 p_need_scales_2)) := by
  delta ev_need_scales p_need_scales_0 p_need_scales_1 p_need_scales_2
  exact Eq.refl _
noncomputable def p_squares_of_0 : EvS := (sSet (.nm 1) (eCallP F_squares_until (aCons (eCallP F_energy_rows (aCons (eVar 0) aNil)) aNil)))
noncomputable def p_squares_of_1 : EvS := (sRet (eIf (eTst (eOp2 fGt (eCallP F_compare (aCons (eIx (eIx (eVar 1) (eNeg (eC (.int 1)))) (eC (.int 0))) (aCons (eC ZEROd) aNil))) (eC (.int 0)))) (eCall fTuple (aCons (eVar 1) aNil)) (eC .none)))
theorem parts_squares_of : ev_squares_of = (sCons p_squares_of_0 p_squares_of_1) := by
  delta ev_squares_of p_squares_of_0 p_squares_of_1
  exact Eq.refl _
noncomputable def p_law_is_fraction_0t : EvS := (sRet (eC (.bool false)))
noncomputable def p_law_is_fraction_0 : EvS := (sIf (eOrT (eNotT (eTst (eIsi "tuple" (eVar 0)))) (eOrT (eTst (eOp2 fNe (eCall fLen (aCons (eVar 0) aNil)) (eC (.int 2)))) (eTst (eOp2 fNe (eFrz (asF (eLcD [1] (.nm 1) (iTp (eVar 0)) (eNotT (eTst (eCallP F__law_is_int (aCons (eVar 1) aNil)))) (eC (.int 1))))) (eFrz (eLst aNil)))))) p_law_is_fraction_0t sNil)
noncomputable def p_law_is_fraction_1 : EvS := (sRet (eAndV (eOp2 fGe (eIx (eVar 0) (eC (.int 1))) (eC (.int 1))) (eOp2 fEq (eCallP F__law_gcd (aCons (eIx (eVar 0) (eC (.int 0))) (aCons (eIx (eVar 0) (eC (.int 1))) aNil))) (eC (.int 1)))))
theorem parts_law_is_fraction : ev__law_is_fraction = (sCons p_law_is_fraction_0 p_law_is_fraction_1) := by
  delta ev__law_is_fraction p_law_is_fraction_0t p_law_is_fraction_0 p_law_is_fraction_1
  exact Eq.refl _
noncomputable def p_law_just_even_0 : EvS := (sSet (.nm 1) (eCallS F__law_take (aCons (eVar 0) (aCons (eC (.int 3)) aNil))))
noncomputable def p_law_just_even_1 : EvS := (sPar [.nm 2, .nm 3] (aCons (eTup (aCons (eC (.int 0)) (aCons (eC (.int 1)) aNil))) (aCons (eCallS F__law_some (aCons (eVar 0) (aCons (eFrz (eLst (aCons (eTup (aCons (eC (.int 1)) (aCons (eC (.int 1)) aNil))) (aCons (eTup (aCons (eNeg (eC (.int 1))) (aCons (eC (.int 1)) aNil))) aNil)))) aNil))) aNil)))
noncomputable def p_law_just_even_2t : EvS := (sRet (eTup (aCons (eTup (aCons (eTup (aCons (eVar 2) (aCons (eTup (aCons (eVar 2) (aCons (eVar 3) aNil))) aNil))) aNil)) (aCons (eTup (aCons (eTup (aCons (eVar 2) (aCons (eTup (aCons (eVar 3) (aCons (eVar 2) aNil))) aNil))) aNil)) aNil))))
noncomputable def p_law_just_even_2 : EvS := (sIf (eTst (eOp2 fEq (eVar 1) (eC (.int 0)))) p_law_just_even_2t sNil)
noncomputable def p_law_just_even_3 : EvS := (sSet (.nm 4) (eCallP F__law_by (aCons (eVar 3) (aCons (eTup (aCons (eC (.int 1)) (aCons (eC (.int 2)) aNil))) aNil))))
noncomputable def p_law_just_even_4t : EvS := (sRet (eTup (aCons (eTup (aCons (eTup (aCons (eVar 2) (aCons (eTup (aCons (eVar 2) (aCons (eVar 4) (aCons (eVar 4) aNil)))) aNil))) aNil)) (aCons (eTup (aCons (eTup (aCons (eVar 2) (aCons (eTup (aCons (eVar 4) (aCons (eVar 2) (aCons (eVar 4) aNil)))) aNil))) aNil)) (aCons (eTup (aCons (eTup (aCons (eVar 2) (aCons (eTup (aCons (eVar 4) (aCons (eVar 4) (aCons (eVar 2) aNil)))) aNil))) aNil)) aNil)))))
noncomputable def p_law_just_even_4 : EvS := (sIf (eTst (eOp2 fEq (eVar 1) (eC (.int 1)))) p_law_just_even_4t sNil)
noncomputable def p_law_just_even_5 : EvS := (sRet (eTup (aCons (eTup (aCons (eTup (aCons (eVar 2) (aCons (eTup (aCons (eVar 2) (aCons (eTup (aCons (eC (.int 2)) (aCons (eC (.int 1)) aNil))) aNil))) aNil))) aNil)) (aCons (eTup (aCons (eTup (aCons (eVar 2) (aCons (eTup (aCons (eTup (aCons (eC (.int 1)) (aCons (eC (.int 2)) aNil))) (aCons (eVar 2) aNil))) aNil))) aNil)) aNil))))
theorem parts_law_just_even : ev__law_just_even = (sCons p_law_just_even_0 (sCons p_law_just_even_1 (sCons p_law_just_even_2 (sCons p_law_just_even_3 (sCons p_law_just_even_4 p_law_just_even_5))))) := by
  delta ev__law_just_even p_law_just_even_0 p_law_just_even_1 p_law_just_even_2t p_law_just_even_2 p_law_just_even_3 p_law_just_even_4t p_law_just_even_4 p_law_just_even_5
  exact Eq.refl _
noncomputable def p_law_few_values : EvS := (sRet (eCall fTuple (aCons (eFrz (asF (eLcD [2] (.nm 2) (iRg1 (eVar 1)) tYesE (eCallS F__law_some (aCons (eVar 0) (aCons (eFrz (eLst (aCons (eTup (aCons (eC (.int 0)) (aCons (eC (.int 1)) aNil))) (aCons (eTup (aCons (eC (.int 1)) (aCons (eC (.int 1)) aNil))) (aCons (eTup (aCons (eNeg (eC (.int 1))) (aCons (eC (.int 1)) aNil))) (aCons (eTup (aCons (eC (.int 1)) (aCons (eC (.int 2)) aNil))) (aCons (eTup (aCons (eC (.int 3)) (aCons (eC (.int 1)) aNil))) (aCons (eTup (aCons (eNeg (eC (.int 5))) (aCons (eC (.int 2)) aNil))) aNil)))))))) aNil)))))) aNil)))
theorem parts_law_few_values : ev__law_few_values = p_law_few_values := by
  delta ev__law_few_values p_law_few_values
  exact Eq.refl _
noncomputable def p_law_value : EvS := (sRet (eCallP F__law_total (aCons (eFrz (eNew2 gAdd (eFrz (eLst (aCons (eIx (eVar 0) (eC (.int 0))) aNil))) (eFrz (asF (eLcD [2, 3] (.tp [(.nm 2), (.nm 3)]) (iZp (eIx (eVar 0) (eC (.int 1))) (eVar 1)) (eTst (eOp2 fNe (eIx (eVar 2) (eC (.int 0))) (eC (.int 0)))) (eCallP F__law_by (aCons (eVar 2) (aCons (eVar 3) aNil)))))))) aNil)))
theorem parts_law_value : ev__law_value = p_law_value := by
  delta ev__law_value p_law_value
  exact Eq.refl _
end P55

set_option Elab.async false
set_option linter.all false
set_option maxRecDepth 100000
set_option maxHeartbeats 4000000
/-! Fractions: what the program's and the law's own arithmetic answer. -/
namespace P55
open PySem PySem.Spec PyProof.Rows L2 Zd

def fr (q : Rat) : PyData := .tuple [.int q.num, .int (q.den : Int)]
/-- small enough for every step -/
def Sm (q : Rat) : Prop := q.num.natAbs < 2 ^ 4000 ∧ q.den < 2 ^ 4000
theorem log_lt {n k : Nat} (hk : 0 < k) (h : n < 2 ^ k) : n.log2 < k := by
  by_cases hn : n = 0
  · subst hn
    simpa using hk
  · exact (Nat.log2_lt hn).mpr h
theorem cmul {i j : Int} (h1 : i.natAbs < 2 ^ 9000) (h2 : j.natAbs < 2 ^ 9000) : CMulW i j := by
  have a := log_lt (by decide) h1
  have b := log_lt (by decide) h2
  unfold CMulW
  omega
theorem cdiv {i j : Int} (h0 : j ≠ 0) (h : j.natAbs < 2 ^ 9000) : CDivZ i j := ⟨h0, log_lt (by decide) h⟩
theorem divInt_frac (n d : Int) (hd : d ≠ 0) :
    (Rat.divInt n d).num = n.fdiv (if 0 < d then (Nat.gcd n.natAbs d.natAbs : Int) else -(Nat.gcd n.natAbs d.natAbs : Int)) ∧
    ((Rat.divInt n d).den : Int) = d.fdiv (if 0 < d then (Nat.gcd n.natAbs d.natAbs : Int) else -(Nat.gcd n.natAbs d.natAbs : Int)) := by
  rw [Rat.num_divInt, Rat.den_divInt, if_neg hd]
  have hg : Int.gcd d n = Nat.gcd n.natAbs d.natAbs := by rw [Int.gcd_comm]; rfl
  rw [hg]
  have g0 : (0 : Int) ≤ (Nat.gcd n.natAbs d.natAbs : Int) := Int.natCast_nonneg _
  by_cases h : 0 < d
  · rw [if_pos h, Int.fdiv_eq_ediv_of_nonneg _ g0, Int.fdiv_eq_ediv_of_nonneg _ g0, Int.sign_eq_one_of_pos h, Int.one_mul]
    refine ⟨rfl, ?_⟩
    rw [Int.natCast_ediv, Int.natAbs_of_nonneg (Int.le_of_lt h)]
  · have h' : d < 0 := by omega
    have e1 : ∀ z : Int, z.fdiv (-(Nat.gcd n.natAbs d.natAbs : Int)) = (-z).fdiv (Nat.gcd n.natAbs d.natAbs : Int) := fun z => by
      have := Int.neg_fdiv_neg (-z) (Nat.gcd n.natAbs d.natAbs : Int)
      rw [Int.neg_neg] at this
      exact this
    rw [if_neg h, e1, e1, Int.fdiv_eq_ediv_of_nonneg _ g0, Int.fdiv_eq_ediv_of_nonneg _ g0, Int.sign_eq_neg_one_of_neg h']
    refine ⟨by rw [Int.neg_one_mul], ?_⟩
    rw [Int.natCast_ediv]
    congr 1
    omega
theorem gcd_small {n d : Int} (hd : d ≠ 0) (h : d.natAbs < 2 ^ 9000) : (if 0 < d then (Nat.gcd n.natAbs d.natAbs : Int) else -(Nat.gcd n.natAbs d.natAbs : Int)) ≠ 0 ∧ (if 0 < d then (Nat.gcd n.natAbs d.natAbs : Int) else -(Nat.gcd n.natAbs d.natAbs : Int)).natAbs < 2 ^ 9000 := by
  have h0 : 0 < d.natAbs := by omega
  have h1 : Nat.gcd n.natAbs d.natAbs ≤ d.natAbs := Nat.gcd_le_right _ h0
  have h2 : 0 < Nat.gcd n.natAbs d.natAbs := Nat.gcd_pos_of_pos_right _ h0
  split
  · omega
  · omega
theorem F_fraction_ok {n d : Int} (hd : d ≠ 0) (h : d.natAbs < 2 ^ 9000) : F_fraction [.int n, .int d] = .ok (fr (Rat.divInt n d)) := by
  obtain ⟨g0, g1⟩ := gcd_small (n := n) hd h
  obtain ⟨e1, e2⟩ := divInt_frac n d hd
  unfold F_fraction fnP ev_fraction fr
  rw [e1, e2]
  by_cases hp : 0 < d
  · simp only [hp, if_true] at g0 g1 ⊢
    simp [hd, hp, bindT, cdiv g0 g1, frz, sizeLine_ge]
  · simp only [hp, if_false] at g0 g1 ⊢
    simp [hd, hp, bindT, cdiv g0 g1, frz, sizeLine_ge]

theorem Sm.num {q : Rat} (h : Sm q) : q.num.natAbs < 2 ^ 4000 := h.1
theorem Sm.den {q : Rat} (h : Sm q) : (q.den : Int).natAbs < 2 ^ 4000 := h.2
theorem small9 {i : Int} (h : i.natAbs < 2 ^ 4000) : i.natAbs < 2 ^ 9000 := Nat.lt_trans h (Nat.pow_lt_pow_right (by decide) (by decide))
theorem mul_small {i j : Int} (h1 : i.natAbs < 2 ^ 4000) (h2 : j.natAbs < 2 ^ 4000) : (i * j).natAbs < 2 ^ 8000 := by
  rw [Int.natAbs_mul, show (8000 : Nat) = 4000 + 4000 from rfl, Nat.pow_add]
  exact Nat.mul_lt_mul'' h1 h2
theorem mul_small9 {i j : Int} (h1 : i.natAbs < 2 ^ 4000) (h2 : j.natAbs < 2 ^ 4000) : (i * j).natAbs < 2 ^ 9000 := Nat.lt_trans (mul_small h1 h2) (Nat.pow_lt_pow_right (by decide) (by decide))
@[simp] theorem fr_0 (q : Rat) : fIx (fr q) (.int 0) = some (.int q.num) := by simp [fr]
@[simp] theorem fr_1 (q : Rat) : fIx (fr q) (.int 1) = some (.int (q.den : Int)) := by simp [fr]
@[simp] theorem noL_fr (q : Rat) : noL (fr q) = true := by simp [fr, noL, noLs]
theorem den_ne (q : Rat) : (q.den : Int) ≠ 0 := by have := q.den_nz; omega
theorem den_mul_ne (a b : Rat) : (a.den : Int) * (b.den : Int) ≠ 0 := Int.mul_ne_zero (den_ne a) (den_ne b)
theorem cm {i j : Int} (h1 : i.natAbs < 2 ^ 4000) (h2 : j.natAbs < 2 ^ 4000) : CMulW i j := cmul (small9 h1) (small9 h2)
theorem divInt_add (a b : Rat) : Rat.divInt (a.num * b.den + b.num * a.den) (a.den * b.den) = a + b := by
  rw [Rat.add_def', ← Int.natCast_mul, Rat.divInt_ofNat]
theorem divInt_sub (a b : Rat) : Rat.divInt (a.num * b.den - b.num * a.den) (a.den * b.den) = a - b := by
  rw [Rat.sub_def', ← Int.natCast_mul, Rat.divInt_ofNat]
theorem divInt_mul (a b : Rat) : Rat.divInt (a.num * b.num) (a.den * b.den) = a * b := by
  rw [Rat.mul_def', ← Int.natCast_mul, Rat.divInt_ofNat]
theorem divInt_div (a b : Rat) : Rat.divInt (a.num * b.den) (a.den * b.num) = a / b := by
  conv => rhs; rw [← Rat.num_divInt_den a, Rat.div_def, Rat.inv_def, Rat.divInt_mul_divInt]
theorem F_plus_ok {a b : Rat} (ha : Sm a) (hb : Sm b) : F_plus [fr a, fr b] = .ok (fr (a + b)) := by
  unfold F_plus fnP ev_plus
  simp [frz, cm ha.num hb.den, cm hb.num ha.den, cm ha.den hb.den, F_fraction_ok (den_mul_ne a b) (mul_small9 ha.den hb.den), divInt_add]
theorem F_less_ok {a b : Rat} (ha : Sm a) (hb : Sm b) : F_less [fr a, fr b] = .ok (fr (a - b)) := by
  unfold F_less fnP ev_less
  simp [frz, cm ha.num hb.den, cm hb.num ha.den, cm ha.den hb.den, F_fraction_ok (den_mul_ne a b) (mul_small9 ha.den hb.den), divInt_sub]
theorem F_times_ok {a b : Rat} (ha : Sm a) (hb : Sm b) : F_times [fr a, fr b] = .ok (fr (a * b)) := by
  unfold F_times fnP ev_times
  simp [frz, cm ha.num hb.num, cm ha.den hb.den, F_fraction_ok (den_mul_ne a b) (mul_small9 ha.den hb.den), divInt_mul]
theorem num_ne {b : Rat} (h : b ≠ 0) : b.num ≠ 0 := fun z => h (Rat.num_eq_zero.mp z)
theorem F_over_ok {a b : Rat} (ha : Sm a) (hb : Sm b) (h0 : b ≠ 0) : F_over [fr a, fr b] = .ok (fr (a / b)) := by
  unfold F_over fnP ev_over
  simp [frz, cm ha.num hb.den, cm ha.den hb.num, F_fraction_ok (Int.mul_ne_zero (den_ne a) (num_ne h0)) (mul_small9 ha.den hb.num), divInt_div]
/-- the sign of the difference -/
def sgn (a b : Rat) : Int := (if b < a then 1 else 0) - (if a < b then 1 else 0)
theorem lt_iff (a b : Rat) : a < b ↔ a.num * (b.den : Int) - b.num * (a.den : Int) < 0 := by
  rw [Rat.lt_iff]
  omega
theorem F_compare_ok {a b : Rat} (ha : Sm a) (hb : Sm b) : F_compare [fr a, fr b] = .ok (.int (sgn a b)) := by
  unfold F_compare fnP ev_compare
  have e1 : (b < a) = (0 < a.num * (b.den : Int) - b.num * (a.den : Int)) := by
    rw [Rat.lt_iff]
    exact propext (by omega)
  have e2 : (a < b) = (a.num * (b.den : Int) - b.num * (a.den : Int) < 0) := propext (lt_iff a b)
  simp [frz, bindT, cm ha.num hb.den, cm hb.num ha.den, sgn, e1, e2]

/-! ### the law's own -/
theorem gcd_loop {g : Nat} : ∀ m env μ, (∃ x y : Nat, env = [some (.pd (.int (x : Int))), some (.pd (.int (y : Int)))] ∧ μ = ([] : Store) ∧ m = y ∧ Nat.gcd x y = g ∧ x < 2 ^ 9000 ∧ y < 2 ^ 9000) →
    ∃ env' μ', sWhile (eTst (eOp2 fGt (eVar 1) (eC (.int 0)))) (sPar [.nm 0, .nm 1] (aCons (eVar 1) (aCons (eSub (eVar 0) (eMul (eDiv (eVar 0) (eVar 1)) (eVar 1))) aNil))) env μ = .ok ((.nx, env'), μ') ∧
      (μ' = [] ∧ ∃ d, env' = [some (.pd (.int (g : Int))), d]) := by
  refine while_rel _ _ fun y env μ h => ?_
  obtain ⟨x, _, rfl, rfl, rfl, hg, hx, hy⟩ := h
  by_cases h0 : y = 0
  · subst h0
    refine .inl ⟨[], by simp, rfl, some (.pd (.int 0)), ?_⟩
    rw [← hg, Nat.gcd_zero_right]
    rfl
  · have hp : (0 : Int) < (y : Int) := by omega
    have e1 : (x : Int).fdiv (y : Int) = ((x / y : Nat) : Int) := (Int.ofNat_fdiv x y).symm
    have q1 : x / y < 2 ^ 9000 := Nat.lt_of_le_of_lt (Nat.div_le_self x y) hx
    have c1 : CDivZ (x : Int) (y : Int) := cdiv (by omega) (by rw [Int.natAbs_natCast]; exact hy)
    have c2 : CMulW ((x / y : Nat) : Int) (y : Int) := cmul (by rw [Int.natAbs_natCast]; exact q1) (by rw [Int.natAbs_natCast]; exact hy)
    have e2 : (x : Int) - ((x / y : Nat) : Int) * (y : Int) = ((x % y : Nat) : Int) := by
      have h := Nat.div_add_mod x y
      have h2 : y * (x / y) = (x / y) * y := Nat.mul_comm _ _
      rw [← Int.natCast_mul]
      omega
    have e3 : Nat.gcd y (x % y) = g := by rw [← hg, Nat.gcd_comm x y, Nat.gcd_rec y x, Nat.gcd_comm]
    have lr : x % y < y := Nat.mod_lt _ (by omega)
    revert e1 q1 c2 e2 e3 lr
    generalize x / y = q
    generalize x % y = r
    intro e1 q1 c2 e2 e3 lr
    refine .inr ⟨[], [some (.pd (.int (y : Int))), some (.pd (.int (r : Int)))], [], r, by simp; omega, .inl ?_, lr, y, r, rfl, rfl, rfl, e3, hy, by omega⟩
    simp [bindTs, bindT, c1, e1, c2, e2]
theorem abs_eq (a : Int) : (if a < 0 then -a else a) = ((a.natAbs : Nat) : Int) := by
  split <;> omega
theorem F_gcd_ok {a b : Int} (ha : a.natAbs < 2 ^ 9000) (hb : b.natAbs < 2 ^ 9000) : F__law_gcd [.int a, .int b] = .ok (.int (Nat.gcd a.natAbs b.natAbs : Nat)) := by
  obtain ⟨env', μ', h1, rfl, d, rfl⟩ := gcd_loop (g := Nat.gcd a.natAbs b.natAbs) b.natAbs [some (.pd (.int (a.natAbs : Int))), some (.pd (.int (b.natAbs : Int)))] [] ⟨a.natAbs, b.natAbs, rfl, rfl, rfl, rfl, ha, hb⟩
  unfold F__law_gcd fnP ev__law_gcd
  simp [bindTs, bindT, abs_eq, frz, h1]
theorem F_f_ok {n d : Int} (hd : d ≠ 0) (hn : n.natAbs < 2 ^ 9000) (h : d.natAbs < 2 ^ 9000) : F__law_f [.int n, .int d] = .ok (fr (Rat.divInt n d)) := by
  obtain ⟨g0, g1⟩ := gcd_small (n := n) hd h
  obtain ⟨e1, e2⟩ := divInt_frac n d hd
  have hg : Nat.gcd n.natAbs d.natAbs < 2 ^ 9000 := Nat.lt_of_le_of_lt (Nat.gcd_le_right _ (by omega)) h
  unfold F__law_f fnP ev__law_f fr
  rw [e1, e2]
  by_cases hp : 0 < d
  · simp only [hp, if_true] at g0 g1 ⊢
    have c : CMulW ((Nat.gcd n.natAbs d.natAbs : Nat) : Int) 1 := cmul (by rw [Int.natAbs_natCast]; exact hg) (by decide)
    simp [F_gcd_ok hn h, hp, c, bindT, cdiv g0 g1, frz, sizeLine_ge]
  · simp only [hp, if_false] at g0 g1 ⊢
    have c : CMulW ((Nat.gcd n.natAbs d.natAbs : Nat) : Int) (-1) := cmul (by rw [Int.natAbs_natCast]; exact hg) (by decide)
    simp [F_gcd_ok hn h, hp, c, bindT, cdiv g0 g1, frz, sizeLine_ge]
theorem add_small9 {i j : Int} (h1 : i.natAbs < 2 ^ 8000) (h2 : j.natAbs < 2 ^ 8000) : (i + j).natAbs < 2 ^ 9000 := by
  have h3 : (i + j).natAbs ≤ i.natAbs + j.natAbs := Int.natAbs_add_le i j
  have h4 : (2 : Nat) ^ 8001 ≤ 2 ^ 9000 := Nat.pow_le_pow_right (by decide) (by decide)
  have h5 : (2 : Nat) ^ 8001 = 2 * 2 ^ 8000 := by rw [Nat.pow_succ]; omega
  omega
theorem sub_small9 {i j : Int} (h1 : i.natAbs < 2 ^ 8000) (h2 : j.natAbs < 2 ^ 8000) : (i - j).natAbs < 2 ^ 9000 := by
  rw [Int.sub_eq_add_neg]
  exact add_small9 h1 (by rw [Int.natAbs_neg]; exact h2)
theorem L_plus_ok {a b : Rat} (ha : Sm a) (hb : Sm b) : F__law_plus [fr a, fr b] = .ok (fr (a + b)) := by
  unfold F__law_plus fnP ev__law_plus
  simp [frz, cm ha.num hb.den, cm hb.num ha.den, cm ha.den hb.den, F_f_ok (den_mul_ne a b) (add_small9 (mul_small ha.num hb.den) (mul_small hb.num ha.den)) (mul_small9 ha.den hb.den), divInt_add]
theorem L_minus_ok {a b : Rat} (ha : Sm a) (hb : Sm b) : F__law_minus [fr a, fr b] = .ok (fr (a - b)) := by
  unfold F__law_minus fnP ev__law_minus
  simp [frz, cm ha.num hb.den, cm hb.num ha.den, cm ha.den hb.den, F_f_ok (den_mul_ne a b) (sub_small9 (mul_small ha.num hb.den) (mul_small hb.num ha.den)) (mul_small9 ha.den hb.den), divInt_sub]
theorem L_by_ok {a b : Rat} (ha : Sm a) (hb : Sm b) : F__law_by [fr a, fr b] = .ok (fr (a * b)) := by
  unfold F__law_by fnP ev__law_by
  simp [frz, cm ha.num hb.num, cm ha.den hb.den, F_f_ok (den_mul_ne a b) (mul_small9 ha.num hb.num) (mul_small9 ha.den hb.den), divInt_mul]
theorem L_over_ok {a b : Rat} (ha : Sm a) (hb : Sm b) (h0 : b ≠ 0) : F__law_over [fr a, fr b] = .ok (fr (a / b)) := by
  unfold F__law_over fnP ev__law_over
  simp [frz, cm ha.num hb.den, cm ha.den hb.num, F_f_ok (Int.mul_ne_zero (den_ne a) (num_ne h0)) (mul_small9 ha.num hb.den) (mul_small9 ha.den hb.num), divInt_div]
end P55

set_option Elab.async false
set_option linter.all false
set_option maxRecDepth 100000
set_option maxHeartbeats 4000000
/-! The bag: what is drawn. -/
namespace P55
open PySem PySem.Spec PyProof.Rows L2 Zd

/-- the bag's cell, behind at most k draws -/
def Bg (k : Nat) (c : Cell) : Prop := ∃ (a b n : Int) (ns : List Int), c = .lst [.int a, .int b, .int n, .list (ns.map .int)] ∧ 0 ≤ a ∧ 0 ≤ b ∧ b < 2147483647 ∧ 0 ≤ n ∧ n ≤ k ∧ ns.length ≤ 63 ∧ ∀ z ∈ ns, 0 ≤ z
theorem Bg.mono {j k : Nat} {c : Cell} (h : Bg j c) (hk : j ≤ k) : Bg k c := by
  obtain ⟨a, b, n, ns, h1, h2, h3, h4, h5, h6, h7⟩ := h
  exact ⟨a, b, n, ns, h1, h2, h3, h4, h5, by omega, h7⟩
def isLls : Cell → Bool
  | .lls _ => true
  | _ => false
def NL (r : Store) : Prop := ∀ c ∈ r, isLls c = false
theorem NL.nil : NL [] := fun c h => by simp at h
theorem NL.cons {c : Cell} {r : Store} (h : isLls c = false) (hr : NL r) : NL (c :: r) := fun d hd => by
  rcases List.mem_cons.mp hd with rfl | hd
  · exact h
  · exact hr d hd
theorem NL.snoc {c : Cell} {r : Store} (h : isLls c = false) (hr : NL r) : NL (r ++ [c]) := fun d hd => by
  rcases List.mem_append.mp hd with hd | hd
  · exact hr d hd
  · rw [List.mem_singleton.mp hd]; exact h
theorem Bg.nl {k : Nat} {c : Cell} (h : Bg k c) : isLls c = false := by
  obtain ⟨a, b, n, ns, rfl, _⟩ := h
  rfl
theorem clo_of {c : Cell} (n : Nat) (h : isLls c = false) : cloC n c = true := by
  cases c <;> first | rfl | cases h
/-- behind a def that hands out data, places made within dropped -/
theorem fnS_pd {n m : Nat} {ev : EvS} {ds : List D} {c c' : Cell} {r ex : Store} {d : PyData} (h : fnL n m ev ds (c :: r) = .ok (.pd d, c' :: (r ++ ex))) (hc : isLls c' = false) (hr : NL r) : fnS n m ev ds (c :: r) = .ok (.pd d, c' :: r) := by
  unfold fnS
  rw [h]
  have e : (c' :: (r ++ ex)).take (c :: r).length = c' :: r := by simp
  have hall : (c' :: r).all (cloC (c :: r).length) = true := by
    rw [List.all_eq_true]
    intro x hx
    exact clo_of _ (NL.cons hc hr x hx)
  simp only [Out.ok_bind, frzO]
  rw [e, if_pos hall]
theorem cut_from (ns : List Int) (k : Int) (hk : 0 ≤ k) : Zd.cutD (ns.map PyData.int) (some k) none = (ns.map .int).drop k.toNat := by
  obtain ⟨j, rfl⟩ := Int.eq_ofNat_of_zero_le hk
  unfold Zd.cutD
  rw [HT.sIx_nat, HT.sIx_none, Int.toNat_natCast, List.length_map]
  rw [List.take_of_length_le (by simp)]
  by_cases h : j ≤ ns.length
  · rw [Nat.min_eq_left h]
  · rw [Nat.min_eq_right (by omega), List.drop_eq_nil_of_le (by simp), List.drop_eq_nil_of_le (by simp; omega)]
theorem head_or {ns : List Int} (h : ∀ z ∈ ns, 0 ≤ z) (j : Nat) : ∃ z : Int, 0 ≤ z ∧ atI ((ns.map PyData.int).drop j ++ [.int 0]) 0 = some (.int z) := by
  rw [← List.map_drop]
  cases e : ns.drop j with
  | nil => exact ⟨0, Int.le_refl _, by simp⟩
  | cons z r => exact ⟨z, h z (List.mem_of_mem_drop (i := j) (by rw [e]; simp)), by simp⟩
theorem bag_ok {ns : List Int} (hl : ns.length ≤ 63) : ∃ c, F__law_bag [.scr ns] [] = .ok (.ref 0, [c]) ∧ Bg 0 c := by
  refine ⟨.lst [.int 0, .int 1234567891, .int 0, .list ((ns.map fun z => ((z.natAbs : Nat) : Int)).map .int)], ?_, 0, 1234567891, 0, ns.map fun z => ((z.natAbs : Nat) : Int), rfl, by decide, by decide, by decide, by decide, by decide, by simpa using hl, fun z hz => ?_⟩
  · have hcut : Zd.cutD (ns.map PyData.int) none (some 63) = ns.map PyData.int := by
      unfold Zd.cutD
      rw [show (63 : Int) = ((63 : Nat) : Int) from rfl, HT.sIx_nat, HT.sIx_none, List.length_map, Nat.min_eq_right hl, List.drop_zero, Nat.sub_zero, List.take_of_length_le (by simp)]
    have hi : iLst (eFrz (eSlL (eVar 0) oNone (oSome (eC (.int 63))))) [some (.scr ns), none] [] = .ok ((ns.map fun z => D.pd (.int z), []), []) := by
      simp [iLst, eSlL, srcL, hcut]
    have hc := comp_mapA (g := []) (T := .nm 1) (elt := eCall fAbs (aCons (eVar 1) aNil)) (env := wipeE [some (.scr ns), none] [1]) (μ := []) held_nil (fun z : Int => D.pd (.int z)) (fun z => D.pd (.int ((z.natAbs : Nat) : Int))) ns fun z _ =>
      ⟨[some (.scr ns), some (.pd (.int z))], by simp [bindT, wipeE], by simp [abs_eq]⟩
    unfold F__law_bag fnL ev__law_bag
    simp [lcD_eq hi (by simp; exact sizeLine_ge (by omega)) hc, sizeLine_ge]
  · obtain ⟨y, _, rfl⟩ := List.mem_map.mp hz
    omega

theorem pow18 : fPow (.int 10) (.int 18) = some (.int (10 ^ 18)) := by
  have h : CPow 10 18 := by decide
  simp [fPow, fIc, h]
theorem cmS {i j : Int} (h1 : i.natAbs < 2 ^ 100) (h2 : j.natAbs < 2 ^ 100) : CMulW i j := by
  have a := log_lt (by decide) h1
  have b := log_lt (by decide) h2
  unfold CMulW
  omega
theorem fmod_ok {i j : Int} (h : 0 < j) : 0 ≤ i.fmod j ∧ i.fmod j < j := ⟨Int.fmod_nonneg_of_pos i h, Int.fmod_lt_of_pos i h⟩
def evTa : EvS := (sIf (eTst (eOp2 fEq (eIx (eVar 0) (eC (.int 0))) (eC (.int 0)))) (sCons (sSet (.nm 2) (eIx (eFrz (eNew2 gAdd (eFrz (eSlL (eIx (eVar 0) (eC (.int 3))) (oSome (eIx (eVar 0) (eC (.int 2)))) oNone)) (eFrz (eLst (aCons (eC (.int 0)) aNil))))) (eC (.int 0)))) (sCons (sAugIx (· + ·) (eVar 0) (eC (.int 2)) (eC (.int 1))) (sCons (sIf (eTst (eOp2 fGe (eVar 2) (ePow (eC (.int 10)) (eC (.int 18))))) (sSetIx (eVar 0) (eC (.int 0)) (eVar 2)) sNil) (sCons (sSet (.nm 3) (eAdd (eAdd (eMul (eIx (eVar 0) (eC (.int 1))) (eC (.int 48271))) (eMod (eCall fInt (aCons (eVar 2) aNil)) (eC (.int 2147483647)))) (eMul (eC (.int 7919)) (eIx (eVar 0) (eC (.int 2)))))) (sSetIx (eVar 0) (eC (.int 1)) (eMod (eCall fInt (aCons (eVar 3) aNil)) (eC (.int 2147483647)))))))) sNil)
def evTb : EvS := (sIf (eTst (eOp2 fGt (eIx (eVar 0) (eC (.int 0))) (eC (.int 0)))) (sCons (sSet (.nm 4) (eMod (eCall fInt (aCons (eIx (eVar 0) (eC (.int 0))) aNil)) (eVar 1))) (sCons (sSetIx (eVar 0) (eC (.int 0)) (eDiv (eCall fInt (aCons (eIx (eVar 0) (eC (.int 0))) aNil)) (eVar 1))) (sRet (eVar 4)))) sNil)
def evTc : EvS := (sCons (sSet (.nm 5) (eMod (eCall fInt (aCons (eMul (eAdd (eIx (eVar 0) (eC (.int 1))) (eC (.int 1))) (eC (.int 39373))) aNil)) (eC (.int 1000000007)))) (sCons (sSet (.nm 6) (eMod (eCall fInt (aCons (eMul (eMod (eCall fInt (aCons (eMul (eVar 5) (eVar 5)) aNil)) (eC (.int 998244353))) (eC (.int 30011))) aNil)) (eC (.int 998244353)))) (sRet (eMod (eCall fInt (aCons (eDiv (eVar 6) (eC (.int 7))) aNil)) (eVar 1)))))
theorem evT_eq : ev__law_take = sCons evTa (sCons evTb evTc) := rfl
theorem m60 {m : Int} (hm : 0 < m) (hm2 : m < 2 ^ 60) : m.natAbs < 2 ^ 9000 := by
  have h : m.natAbs < 2 ^ 60 := by omega
  exact Nat.lt_trans h (Nat.pow_lt_pow_right (by decide) (by decide))
theorem take_b {k : Nat} {a b n : Int} {ns : List Int} {r : Store} {e2 e3 : Option D} (ha : 0 ≤ a) (hb0 : 0 ≤ b) (hb1 : b < 2147483647) (hn : 0 ≤ n) (hnk : n ≤ k) (hl : ns.length ≤ 63) (hz : ∀ z ∈ ns, 0 ≤ z) {m : Int} (hm : 0 < m) (hm2 : m < 2 ^ 60) :
    ∃ c' v env', sCons evTb evTc [some (.ref 0), some (.pd (.int m)), e2, e3, none, none, none] (.lst [.int a, .int b, .int n, .list (ns.map .int)] :: r) = .ok ((.rt (.pd (.int v)), env'), c' :: r) ∧ Bg k c' ∧ 0 ≤ v ∧ v < m := by
  have m0 : m ≠ 0 := by omega
  by_cases h : 0 < a
  · obtain ⟨f1, f2⟩ := fmod_ok (i := a) hm
    have cd : CDivZ a m := cdiv m0 (m60 hm hm2)
    refine ⟨.lst [.int (a.fdiv m), .int b, .int n, .list (ns.map .int)], a.fmod m, [some (.ref 0), some (.pd (.int m)), e2, e3, some (.pd (.int (a.fmod m))), none, none], ?_, ⟨_, _, _, _, rfl, Int.fdiv_nonneg ha (by omega), hb0, hb1, hn, hnk, hl, hz⟩, f1, f2⟩
    simp [evTb, bindT, h, m0, cd]
  · have f0 := fmod_ok (i := (b + 1) * 39373) (j := 1000000007) (by decide)
    have c1 : CMulW (b + 1) 39373 := cmS (by have : (2 : Nat) ^ 31 < 2 ^ 100 := by decide
                                             omega) (by decide)
    revert f0
    generalize hx : Int.fmod ((b + 1) * 39373) 1000000007 = x
    intro f0
    have c2 : CMulW x x := cmS (by have : (2 : Nat) ^ 31 < 2 ^ 100 := by decide
                                   omega) (by have : (2 : Nat) ^ 31 < 2 ^ 100 := by decide
                                              omega)
    have f1 := fmod_ok (i := x * x) (j := 998244353) (by decide)
    revert f1
    generalize hy : Int.fmod (x * x) 998244353 = y
    intro f1
    have c3 : CMulW y 30011 := cmS (by have : (2 : Nat) ^ 31 < 2 ^ 100 := by decide
                                       omega) (by decide)
    have c4 : ∀ z : Int, CDivZ z 7 := fun z => ⟨by decide, by decide⟩
    obtain ⟨f2, f3⟩ := fmod_ok (i := Int.fdiv (Int.fmod (y * 30011) 998244353) 7) hm
    refine ⟨.lst [.int a, .int b, .int n, .list (ns.map .int)], _, [some (.ref 0), some (.pd (.int m)), e2, e3, none, some (.pd (.int x)), some (.pd (.int (Int.fmod (y * 30011) 998244353)))], ?_, ⟨_, _, _, _, rfl, ha, hb0, hb1, hn, hnk, hl, hz⟩, f2, f3⟩
    simp [evTb, evTc, bindT, h, m0, c1, hx, c2, hy, c3, c4]
theorem take_ok {k : Nat} {c : Cell} {r : Store} (hb : Bg k c) (hr : NL r) (hk : k ≤ 100000) {m : Int} (hm : 0 < m) (hm2 : m < 2 ^ 60) :
    ∃ c' v, F__law_take [.ref 0, .pd (.int m)] (c :: r) = .ok (.pd (.int v), c' :: r) ∧ Bg (k + 1) c' ∧ 0 ≤ v ∧ v < m := by
  obtain ⟨a, b, n, ns, rfl, ha, hb0, hb1, hn, hnk, hl, hz⟩ := hb
  -- what is left when the first part has run
  have fin : ∀ (a b n : Int) (e2 e3 : Option D), 0 ≤ a → 0 ≤ b → b < 2147483647 → 0 ≤ n → n ≤ (k + 1 : Nat) → ∀ s1, evTa [some (.ref 0), some (.pd (.int m)), none, none, none, none, none] s1 = .ok ((.nx, [some (.ref 0), some (.pd (.int m)), e2, e3, none, none, none]), .lst [.int a, .int b, .int n, .list (ns.map .int)] :: r) → ∀ c r', s1 = c :: r' → r' = r →
      ∃ c' v, F__law_take [.ref 0, .pd (.int m)] s1 = .ok (.pd (.int v), c' :: r) ∧ Bg (k + 1) c' ∧ 0 ≤ v ∧ v < m := by
    intro a b n e2 e3 ha hb0 hb1 hn hnk s1 he c r' hs hr'
    subst hs hr'
    obtain ⟨c', v, env', h1, h2, h3, h4⟩ := take_b (r := r') (e2 := e2) (e3 := e3) ha hb0 hb1 hn hnk hl hz hm hm2
    refine ⟨c', v, fnS_pd (ex := []) ?_ h2.nl hr, h2, h3, h4⟩
    unfold fnL
    rw [evT_eq]
    simp only [v_cons] at h1
    simp [he, h1]
  by_cases h0 : a = 0
  · subst h0
    obtain ⟨z, z0, hz1⟩ := head_or hz n.toNat
    have c1 : CMulW b 48271 := cmS (by have : (2 : Nat) ^ 31 < 2 ^ 100 := by decide
                                       omega) (by decide)
    have c2 : CMulW 7919 (n + 1) := cmS (by decide) (by have : (2 : Nat) ^ 31 < 2 ^ 100 := by decide
                                                        omega)
    have g0 := fmod_ok (i := b * 48271 + z.fmod 2147483647 + 7919 * (n + 1)) (j := 2147483647) (by decide)
    by_cases hc : (1000000000000000000 : Int) ≤ z
    · refine fin z _ (n + 1) (some (.pd (.int z))) (some (.pd (.int (b * 48271 + z.fmod 2147483647 + 7919 * (n + 1))))) z0 g0.1 g0.2 (by omega) (by omega) _ ?_ _ _ rfl rfl
      have hs : ns.length - n.toNat + 1 ≤ sizeLine := sizeLine_ge (by omega)
      simp [evTa, bindT, cut_from ns n hn, hs, hz1, pow18, hc, c1, c2, sizeLine_ge]
    · refine fin 0 _ (n + 1) (some (.pd (.int z))) (some (.pd (.int (b * 48271 + z.fmod 2147483647 + 7919 * (n + 1))))) (Int.le_refl _) g0.1 g0.2 (by omega) (by omega) _ ?_ _ _ rfl rfl
      have hs : ns.length - n.toNat + 1 ≤ sizeLine := sizeLine_ge (by omega)
      simp [evTa, bindT, cut_from ns n hn, hs, hz1, pow18, hc, c1, c2, sizeLine_ge]
  · exact fin a b n none none ha hb0 hb1 hn (by omega) _ (by simp [evTa, h0]) _ _ rfl rfl

theorem some_ok {k : Nat} {c : Cell} {r : Store} (hb : Bg k c) (hr : NL r) (hk : k ≤ 100000) {ds : List PyData} (h0 : 0 < ds.length) (h1 : ds.length ≤ 1000) :
    ∃ c' d, F__law_some [.ref 0, .pd (.list ds)] (c :: r) = .ok (.pd d, c' :: r) ∧ Bg (k + 1) c' ∧ d ∈ ds := by
  obtain ⟨c', v, e1, e2, e3, e4⟩ := take_ok hb hr hk (m := (ds.length : Int)) (by omega) (by omega)
  obtain ⟨j, rfl⟩ := Int.eq_ofNat_of_zero_le e3
  have hj : j < ds.length := by omega
  refine ⟨c', ds[j], fnS_pd (ex := []) ?_ e2.nl hr, e2, List.getElem_mem hj⟩
  unfold fnL ev__law_some
  simp [e1, at_nat, hj]
/-- a fraction as it is written -/
theorem fr_mk (n : Int) (d : Nat) (h0 : d ≠ 0) (h1 : Nat.gcd n.natAbs d = 1) : PyData.tuple [.int n, .int (d : Int)] = fr ⟨n, d, h0, h1⟩ := rfl
/-- a told number -/
def Told (q : Rat) : Prop := q.num.natAbs ≤ 99 ∧ q.den ≤ 4
def menuD : List PyData := [.tuple [.int 0, .int 1], .tuple [.int 1, .int 1], .tuple [.int (-1), .int 1], .tuple [.int 1, .int 2], .tuple [.int (-3), .int 2], .tuple [.int 2, .int 1], .tuple [.int 5, .int 3], .tuple [.int (-7), .int 4]]
theorem menu_told : ∀ d ∈ menuD, ∃ q, d = fr q ∧ Told q := by
  intro d hd
  simp only [menuD, List.mem_cons, List.not_mem_nil, or_false] at hd
  rcases hd with rfl | rfl | rfl | rfl | rfl | rfl | rfl | rfl
  · exact ⟨_, fr_mk 0 1 (by decide) (by decide), by decide, by decide⟩
  · exact ⟨_, fr_mk 1 1 (by decide) (by decide), by decide, by decide⟩
  · exact ⟨_, fr_mk (-1) 1 (by decide) (by decide), by decide, by decide⟩
  · exact ⟨_, fr_mk 1 2 (by decide) (by decide), by decide, by decide⟩
  · exact ⟨_, fr_mk (-3) 2 (by decide) (by decide), by decide, by decide⟩
  · exact ⟨_, fr_mk 2 1 (by decide) (by decide), by decide, by decide⟩
  · exact ⟨_, fr_mk 5 3 (by decide) (by decide), by decide, by decide⟩
  · exact ⟨_, fr_mk (-7) 4 (by decide) (by decide), by decide, by decide⟩
theorem told_ok {k : Nat} {c : Cell} {r : Store} (hb : Bg k c) (hr : NL r) (hk : k ≤ 99999) :
    ∃ c' q, F__law_some_fraction [.ref 0] (c :: r) = .ok (.pd (fr q), c' :: r) ∧ Bg (k + 2) c' ∧ Told q := by
  obtain ⟨c1, v, e1, e2, e3, e4⟩ := take_ok hb hr (by omega) (m := 199) (by decide) (by decide)
  obtain ⟨c2, d, g1, g2, g3⟩ := some_ok e2 hr (by omega) (ds := menuD ++ [.tuple [.int (v - 99), .int 1]]) (by simp [menuD]) (by simp [menuD])
  have hd : ∃ q, d = fr q ∧ Told q := by
    rcases List.mem_append.mp g3 with h | h
    · exact menu_told d h
    · rw [List.mem_singleton.mp h]
      exact ⟨_, fr_mk (v - 99) 1 (by decide) (by simp), by show (v - 99).natAbs ≤ 99; omega, by show 1 ≤ 4; decide⟩
  obtain ⟨q, rfl, tq⟩ := hd
  refine ⟨c2, q, fnS_pd (ex := []) ?_ g2.nl hr, g2, tq⟩
  unfold fnL ev__law_some_fraction
  simp only [menuD] at g1
  simp only [List.cons_append, List.nil_append] at g1
  simp [bindT, e1, sizeLine_ge, g1]
end P55

set_option Elab.async false
set_option linter.all false
set_option maxRecDepth 100000
set_option maxHeartbeats 4000000
/-! The drawn book. -/
namespace P55
open PySem PySem.Spec PyProof.Rows L2 Zd

/-- a book of n cells, one rule a cell -/
def bk (n : Nat) (told : Nat → Rat) (f : Nat → Nat → Rat) : PyData := .tuple ((List.range n).map fun i => .tuple [.tuple [fr (told i), .tuple ((List.range n).map fun j => fr (f i j))]])
/-- even: factors by scales and ties -/
structure Even (n : Nat) (f : Nat → Nat → Rat) : Prop where
  n1 : 1 ≤ n
  n5 : n ≤ 5
  ex : ∃ (s : Nat → Int) (top : Int) (t : Nat → Nat → Int), 1 ≤ top ∧ top ≤ 3 ∧ (∀ i, i < n → 1 ≤ s i ∧ s i ≤ 4) ∧ (∀ i j, i < n → j < n → t i j = t j i) ∧ (∀ i, i < n → t i i = 0) ∧ (∀ i j, i < n → j < n → (t i j).natAbs ≤ 2) ∧
    ∀ i j, i < n → j < n → f i j = Rat.divInt (t i j) (top * s i)

/-- the ties told so far: pairs below one, and one with those below j -/
def Ties (kvs : List (List Key × PyData)) (one j : Nat) : Prop := ∀ a b : Nat, ((b < a ∧ a < one) ∨ (a = one ∧ b < j)) → ∃ v : Int, v.natAbs ≤ 2 ∧ lk kvs [.inl (a : Int), .inl (b : Int)] = some (.int v) ∧ lk kvs [.inl (b : Int), .inl (a : Int)] = some (.int v)
def tieMenu : List PyData := [.int 0, .int 1, .int (-1), .int 2, .int (-2), .int 0]
theorem tie_menu : ∀ d ∈ tieMenu, ∃ v : Int, d = .int v ∧ v.natAbs ≤ 2 := by
  intro d hd
  simp only [tieMenu, List.mem_cons, List.not_mem_nil, or_false] at hd
  rcases hd with rfl | rfl | rfl | rfl | rfl | rfl <;> exact ⟨_, rfl, by decide⟩
theorem key_eq {a b c d : Nat} : ([.inl (a : Int), .inl (b : Int)] : List Key) = [.inl (c : Int), .inl (d : Int)] ↔ a = c ∧ b = d := by
  constructor
  · intro h
    simp only [List.cons.injEq, Sum.inl.injEq, and_true] at h
    omega
  · rintro ⟨rfl, rfl⟩
    rfl
theorem ties_put {kvs : List (List Key × PyData)} {one j : Nat} {v : Int} (h : Ties kvs one j) (hj : j < one) (hv : v.natAbs ≤ 2) :
    Ties (pt (pt kvs [.inl (one : Int), .inl (j : Int)] (.int v)) [.inl (j : Int), .inl (one : Int)] (.int v)) one (j + 1) := by
  intro a b hab
  simp only [lk_pt, key_eq]
  by_cases e : a = one ∧ b = j
  · obtain ⟨rfl, rfl⟩ := e
    exact ⟨v, hv, by simp, by simp⟩
  · obtain ⟨u, h1, h2, h3⟩ := h a b (by omega)
    refine ⟨u, h1, ?_, ?_⟩
    · rw [if_neg (by omega), if_neg (by omega)]
      exact h2
    · rw [if_neg (by omega), if_neg (by omega)]
      exact h3
/-- the inner turn -/
theorem even_inner {k one j : Nat} {c : Cell} {r : Store} {kvs : List (List Key × PyData)} {x2 x3 x5 y1 : D} {rest : Zd.Env} (hb : Bg k c) (hr : NL r) (hk : k ≤ 99999) (ht : Ties kvs one j) (hj : j < one) (hl : kvs.length ≤ 1000) (ho : one ≤ 5) :
    ∃ c' kvs', (sForget [7] (sCons p_law_even_book_3_b_b_0 p_law_even_book_3_b_b_1)) (some (.ref 0) :: some y1 :: some x2 :: some x3 :: some (.ref (r.length + 1)) :: some x5 :: some (.pd (.int (one : Int))) :: some (.pd (.int (j : Int))) :: rest) (c :: (r ++ [.dit kvs])) =
      .ok ((.nx, some (.ref 0) :: some y1 :: some x2 :: some x3 :: some (.ref (r.length + 1)) :: some x5 :: some (.pd (.int (one : Int))) :: none :: rest), c' :: (r ++ [.dit kvs'])) ∧ Bg (k + 1) c' ∧ Ties kvs' one (j + 1) ∧ kvs'.length ≤ kvs.length + 2 := by
  obtain ⟨c1, d, g1, g2, g3⟩ := some_ok hb (NL.snoc (c := .dit kvs) rfl hr) (by omega) (ds := tieMenu) (by decide) (by decide)
  obtain ⟨v, rfl, hv⟩ := tie_menu d g3
  simp only [tieMenu] at g1
  have l1 := pt_len kvs ([.inl (one : Int), .inl (j : Int)] : List Key) (.int v)
  have l2 := pt_len (pt kvs ([.inl (one : Int), .inl (j : Int)] : List Key) (.int v)) ([.inl (j : Int), .inl (one : Int)] : List Key) (.int v)
  have s1 : kvs.length < sizeLine := small1000 hl
  have s2 : (pt kvs ([.inl (one : Int), .inl (j : Int)] : List Key) (.int v)).length < sizeLine := by
    have : (1001 : Nat) < sizeLine := by decide
    omega
  have at0 : ∀ c', ditAt (c' :: (r ++ [.dit kvs])) (.ref (r.length + 1)) = some (r.length + 1, kvs) := fun c' => ditAt_of (by simp)
  have at1 : ∀ c' kv, ditAt (c' :: (r ++ [.dit kv])) (.ref (r.length + 1)) = some (r.length + 1, kv) := fun c' kv => ditAt_of (by simp)
  refine ⟨c1, _, ?_, g2, ties_put ht hj hv, by omega⟩
  simp [p_law_even_book_3_b_b_0, p_law_even_book_3_b_b_1, g1, sizeLine_ge, at1, s1, s2, lk_pt, wipeE]

theorem ties_next {kvs : List (List Key × PyData)} {one : Nat} (h : Ties kvs one one) : Ties kvs (one + 1) 0 := fun a b hab => h a b (by omega)
theorem even_ties {k n : Nat} {c : Cell} {r : Store} {x3 x5 y1 : D} {rest : Zd.Env} (hb : Bg k c) (hr : NL r) (hk : k ≤ 99900) (hn : n ≤ 5) :
    ∃ c' kvs' e6, p_law_even_book_3 (some (.ref 0) :: some y1 :: some (.pd (.int (n : Int))) :: some x3 :: some (.ref (r.length + 1)) :: some x5 :: none :: none :: rest) (c :: (r ++ [.dit []])) =
      .ok ((.nx, some (.ref 0) :: some y1 :: some (.pd (.int (n : Int))) :: some x3 :: some (.ref (r.length + 1)) :: some x5 :: e6 :: none :: rest), c' :: (r ++ [.dit kvs'])) ∧ Bg (k + 25) c' ∧ Ties kvs' n 0 := by
  obtain ⟨env', μ', h1, c', kvs', e6, rfl, rfl, h2, h3, h4⟩ := for_rel (T := .nm 6) (b := p_law_even_book_3_bx) (ei := iRg1 (eVar 2))
    (env := some (.ref 0) :: some y1 :: some (.pd (.int (n : Int))) :: some x3 :: some (.ref (r.length + 1)) :: some x5 :: none :: none :: rest) (μ := c :: (r ++ [.dit []]))
    (fun i env μ => ∃ c' kvs' e6, env = some (.ref 0) :: some y1 :: some (.pd (.int (n : Int))) :: some x3 :: some (.ref (r.length + 1)) :: some x5 :: e6 :: none :: rest ∧ μ = c' :: (r ++ [.dit kvs']) ∧ Bg (k + 5 * i) c' ∧ Ties kvs' i 0 ∧ kvs'.length ≤ 10 * i)
    (rg1_ok (n := n) (by simp) (by omega)) ⟨c, [], none, rfl, rfl, hb, fun a b hab => by omega, by simp⟩ (fun _ _ _ _ => held_nil) (fun i d env μ hd hp => by
      obtain ⟨c1, kv1, e6, rfl, rfl, g1, g2, g3⟩ := hp
      simp only [List.getElem?_map, Option.map_eq_some_iff] at hd
      obtain ⟨i', hi, rfl⟩ := hd
      obtain ⟨hi1, hi2⟩ := List.getElem?_eq_some_iff.mp hi
      simp at hi1 hi2
      subst hi2
      obtain ⟨env', μ', f1, c2, kv2, rfl, rfl, f2, f3, f4⟩ := for_rel (T := .nm 7) (b := p_law_even_book_3_b_b) (ei := iRg1 (eVar 6))
        (env := some (.ref 0) :: some y1 :: some (.pd (.int (n : Int))) :: some x3 :: some (.ref (r.length + 1)) :: some x5 :: some (.pd (.int (i : Int))) :: none :: rest) (μ := c1 :: (r ++ [.dit kv1]))
        (fun j env μ => ∃ c' kvs', env = some (.ref 0) :: some y1 :: some (.pd (.int (n : Int))) :: some x3 :: some (.ref (r.length + 1)) :: some x5 :: some (.pd (.int (i : Int))) :: none :: rest ∧ μ = c' :: (r ++ [.dit kvs']) ∧ Bg (k + 5 * i + j) c' ∧ Ties kvs' i j ∧ kvs'.length ≤ 10 * i + 2 * j)
        (rg1_ok (n := i) (by simp) (by omega)) ⟨c1, kv1, rfl, rfl, g1, g2, by omega⟩ (fun _ _ _ _ => held_nil) (fun j d env μ hd hp => by
          obtain ⟨c3, kv3, rfl, rfl, q1, q2, q3⟩ := hp
          simp only [List.getElem?_map, Option.map_eq_some_iff] at hd
          obtain ⟨j', hj, rfl⟩ := hd
          obtain ⟨hj1, hj2⟩ := List.getElem?_eq_some_iff.mp hj
          simp at hj1 hj2
          subst hj2
          obtain ⟨c4, kv4, u1, u2, u3, u4⟩ := even_inner (x2 := .pd (.int (n : Int))) (x3 := x3) (x5 := x5) (y1 := y1) (rest := rest) q1 hr (by omega) q2 hj1 (by omega) (by omega)
          exact ⟨_, _, _, rfl, .inl u1, c4, kv4, rfl, rfl, u2, u3, by omega⟩)
      simp at f2 f3 f4
      refine ⟨some (.ref 0) :: some y1 :: some (.pd (.int (n : Int))) :: some x3 :: some (.ref (r.length + 1)) :: some x5 :: some (.pd (.int (i : Int))) :: none :: rest, some (.ref 0) :: some y1 :: some (.pd (.int (n : Int))) :: some x3 :: some (.ref (r.length + 1)) :: some x5 :: some (.pd (.int (i : Int))) :: none :: rest, c2 :: (r ++ [.dit kv2]), by simp [bindT], .inl ?_, c2, kv2, _, rfl, rfl, Bg.mono f2 (by omega), ties_next f3, by omega⟩
      show sForget [7] (sFor (.nm 7) (iRg1 (eVar 6)) p_law_even_book_3_b_b) _ _ = _
      simp [f1, wipeE])
  simp at h2 h3
  exact ⟨c', kvs', e6, h1, Bg.mono h2 (by omega), h3⟩

def tval (kvs : List (List Key × PyData)) (i j : Nat) : Int := if i = j then 0 else match lk kvs [.inl (i : Int), .inl (j : Int)] with
  | some (.int v) => v
  | _ => 0
theorem tval_lk {kvs : List (List Key × PyData)} {n i j : Nat} (h : Ties kvs n 0) (hi : i < n) (hj : j < n) (hne : i ≠ j) : lk kvs [.inl (i : Int), .inl (j : Int)] = some (.int (tval kvs i j)) ∧ tval kvs i j = tval kvs j i ∧ (tval kvs i j).natAbs ≤ 2 := by
  have key : ∀ a b : Nat, b < a → a < n → ∃ v : Int, v.natAbs ≤ 2 ∧ lk kvs [.inl (a : Int), .inl (b : Int)] = some (.int v) ∧ lk kvs [.inl (b : Int), .inl (a : Int)] = some (.int v) := fun a b h1 h2 => h a b (.inl ⟨h1, h2⟩)
  unfold tval
  rw [if_neg hne, if_neg (Ne.symm hne)]
  rcases Nat.lt_or_gt_of_ne hne with g | g
  · obtain ⟨v, h1, h2, h3⟩ := key j i g hj
    rw [h2, h3]
    exact ⟨rfl, rfl, h1⟩
  · obtain ⟨v, h1, h2, h3⟩ := key i j g hi
    rw [h2, h3]
    exact ⟨rfl, rfl, h1⟩
/-- the factors of the drawn book -/
def fac (kvs : List (List Key × PyData)) (s : Nat → Int) (top : Int) (i j : Nat) : Rat := if i = j then 0 else Rat.divInt (tval kvs i j) (top * s i)
theorem fr_zero : fr 0 = .tuple [.int 0, .int 1] := rfl
theorem nine {z : Int} (h : z.natAbs ≤ 1000) : z.natAbs < 2 ^ 9000 := Nat.lt_of_le_of_lt h (Nat.lt_of_lt_of_le (by decide : 1000 < 2 ^ 10) (Nat.pow_le_pow_right (by decide) (by decide)))
theorem even_row {n i : Nat} {ss : List Int} {top : Int} {kvs : List (List Key × PyData)} {c x : Cell} {r : Store} {y1 : D} {e6 e7 e8 e10 e11 : Option D} (ht : Ties kvs n 0) (hn : n ≤ 5) (hi : i < n) (hs : ss.length = n) (hs1 : ∀ z ∈ ss, 1 ≤ z ∧ z ≤ 3) (h1 : 1 ≤ top) (h3 : top ≤ 3) :
    p_law_even_book_5_b_0 [some (.ref 0), some y1, some (.pd (.int (n : Int))), some (.pd (.list (ss.map .int))), some (.ref (r.length + 1)), some (.pd (.int top)), e6, e7, e8, some (.pd (.int (i : Int))), e10, e11] (c :: (r ++ [.dit kvs, x])) =
      .ok ((.nx, [some (.ref 0), some y1, some (.pd (.int (n : Int))), some (.pd (.list (ss.map .int))), some (.ref (r.length + 1)), some (.pd (.int top)), e6, e7, e8, some (.pd (.int (i : Int))), some (.pd (.list ((List.range n).map fun j => fr (fac kvs (fun i => ss.getD i 1) top i j)))), e11]), c :: (r ++ [.dit kvs, x])) := by
  have hii : i < ss.length := by omega
  have hsi := hs1 _ (List.getElem_mem hii)
  have e1 : ss.getD i 1 = ss[i] := by simp [List.getD, hii]
  have p1 : 1 ≤ top * ss[i] := by
    have := Int.mul_le_mul h1 hsi.1 (by decide) (by omega)
    omega
  have p2 : top * ss[i] ≤ 9 := by
    have := Int.mul_le_mul h3 hsi.2 (by omega) (by decide)
    omega
  have cmm : CMulW top ss[i] := cmul (nine (by omega)) (nine (by omega))
  have hc := comp_mapA (g := []) (T := .nm 6) (μ := c :: (r ++ [.dit kvs, x])) (elt := eIf (eTst (eOp2 fEq (eVar 6) (eVar 9))) (eTup (aCons (eC (.int 0)) (aCons (eC (.int 1)) aNil))) (eCallP F__law_f (aCons (eTGet (eVar 4) (aCons (eVar 9) (aCons (eVar 6) aNil))) (aCons (eMul (eVar 5) (eIx (eVar 3) (eVar 9))) aNil))))
    (env := wipeE [some (.ref 0), some y1, some (.pd (.int (n : Int))), some (.pd (.list (ss.map .int))), some (.ref (r.length + 1)), some (.pd (.int top)), e6, e7, e8, some (.pd (.int (i : Int))), e10, e11] [6]) held_nil
    (fun j : Nat => D.pd (.int (j : Int))) (fun j => D.pd (fr (fac kvs (fun i => ss.getD i 1) top i j))) (List.range n) (fun j hj => by
      simp at hj
      refine ⟨[some (.ref 0), some y1, some (.pd (.int (n : Int))), some (.pd (.list (ss.map .int))), some (.ref (r.length + 1)), some (.pd (.int top)), some (.pd (.int (j : Int))), e7, e8, some (.pd (.int (i : Int))), e10, e11], by simp [bindT, wipeE], ?_⟩
      by_cases hij : j = i
      · subst hij
        simp [fac, fr_zero, sizeLine_ge]
      · obtain ⟨t1, t2, t3⟩ := tval_lk ht hi hj (Ne.symm hij)
        have at1 : ditAt (c :: (r ++ [.dit kvs, x])) (.ref (r.length + 1)) = some (r.length + 1, kvs) := ditAt_of (by simp)
        have fe := F_f_ok (n := tval kvs i j) (d := top * ss[i]) (by omega) (nine (by omega)) (nine (by omega))
        have hne : ¬ ((j : Int) = (i : Int)) := by omega
        simp [hne, at1, t1, sizeLine_ge, at_nat, hii, cmm, fe, fac, Ne.symm hij, e1])
  have hr1 := rg1_ok (a := eVar 2) (env := [some (.ref 0), some y1, some (.pd (.int (n : Int))), some (.pd (.list (ss.map .int))), some (.ref (r.length + 1)), some (.pd (.int top)), e6, e7, e8, some (.pd (.int (i : Int))), e10, e11]) (μ := c :: (r ++ [.dit kvs, x])) (μ1 := c :: (r ++ [.dit kvs, x])) (n := n) (by simp) (by omega)
  unfold p_law_even_book_5_b_0
  simp [lcD_eq hr1 (by simp; exact sizeLine_ge (by omega)) hc, bindT]

end P55

set_option Elab.async false
set_option linter.all false
set_option maxRecDepth 100000
set_option maxHeartbeats 400000
namespace P55
open PySem PySem.Spec PyProof.Rows L2 Zd
/-- a cell's rule as it is laid -/
def cellD (told : Rat) (row : List PyData) : PyData := .tuple [.tuple [fr told, .tuple row]]
theorem cell_step {c1 c2 x : Cell} {r : Store} {cells row : List PyData} {q : Rat} {d0 d1 d2 d3 d4 d5 d6 d7 : Option D} {k : PyData} {e11 : Option D} (h0 : d0 = some (.ref 0))
    (hrow : p_law_even_book_5_b_0 [d0, d1, d2, d3, d4, d5, d6, d7, some (.ref (r.length + 2)), some (.pd k), none, e11] (c1 :: (r ++ [x, .lst cells])) = .ok ((.nx, [d0, d1, d2, d3, d4, d5, d6, d7, some (.ref (r.length + 2)), some (.pd k), some (.pd (.list row)), e11]), c1 :: (r ++ [x, .lst cells])))
    (hq : F__law_some_fraction [.ref 0] (c1 :: (r ++ [x, .lst cells])) = .ok (.pd (fr q), c2 :: (r ++ [x, .lst cells]))) (hl : cells.length < sizeLine) :
    p_law_even_book_5_b [d0, d1, d2, d3, d4, d5, d6, d7, some (.ref (r.length + 2)), some (.pd k), none, e11] (c1 :: (r ++ [x, .lst cells])) = .ok ((.nx, [d0, d1, d2, d3, d4, d5, d6, d7, some (.ref (r.length + 2)), none, none, e11]), c2 :: (r ++ [x, .lst (cells ++ [cellD q row])])) := by
  subst h0
  unfold p_law_even_book_5_b
  simp only [v_forget, v_cons, hrow, Out.ok_bind]
  simp [p_law_even_book_5_b_1, hq, sizeLine_ge, hl, wipeE, cellD]

def rowF (kvs : List (List Key × PyData)) (ss : List Int) (top : Int) (n a : Nat) : List PyData := (List.range n).map fun j => fr (fac kvs (fun i => ss.getD i 1) top a j)
def cellsF (told : Nat → Rat) (row : Nat → List PyData) (m : Nat) : List PyData := (List.range m).map fun a => cellD (told a) (row a)
theorem cells_snoc (told : Nat → Rat) (row : Nat → List PyData) (q : Rat) (i : Nat) : cellsF (fun a => if a = i then q else told a) row (i + 1) = cellsF told row i ++ [cellD q (row i)] := by
  unfold cellsF
  rw [List.range_succ, List.map_append]
  congr 1
  · apply List.map_congr_left
    intro a ha
    simp at ha
    simp [show a ≠ i from by omega]
  · simp
theorem even_cells {k n : Nat} {ss : List Int} {top : Int} {kvs : List (List Key × PyData)} {c : Cell} {r : Store} {y1 : D} {e6 e11 : Option D} (hb : Bg k c) (hr : NL r) (hk : k ≤ 99900) (ht : Ties kvs n 0) (hn : n ≤ 5) (hs : ss.length = n) (hs1 : ∀ z ∈ ss, 1 ≤ z ∧ z ≤ 3) (h1 : 1 ≤ top) (h3 : top ≤ 3) :
    ∃ c' told, p_law_even_book_5 [some (.ref 0), some y1, some (.pd (.int (n : Int))), some (.pd (.list (ss.map .int))), some (.ref (r.length + 1)), some (.pd (.int top)), e6, none, some (.ref (r.length + 2)), none, none, e11] (c :: (r ++ [.dit kvs, .lst []])) =
      .ok ((.nx, [some (.ref 0), some y1, some (.pd (.int (n : Int))), some (.pd (.list (ss.map .int))), some (.ref (r.length + 1)), some (.pd (.int top)), e6, none, some (.ref (r.length + 2)), none, none, e11]),
        c' :: (r ++ [.dit kvs, .lst (cellsF told (rowF kvs ss top n) n)])) ∧ Bg (k + 10) c' ∧ ∀ i, Told (told i) := by
  obtain ⟨env', μ', f1, c', told, rfl, rfl, f2, f3⟩ := for_rel (T := .nm 9) (b := p_law_even_book_5_b) (ei := iRg1 (eVar 2))
    (env := [some (.ref 0), some y1, some (.pd (.int (n : Int))), some (.pd (.list (ss.map .int))), some (.ref (r.length + 1)), some (.pd (.int top)), e6, none, some (.ref (r.length + 2)), none, none, e11]) (μ := c :: (r ++ [.dit kvs, .lst []])) (μ1 := c :: (r ++ [.dit kvs, .lst []]))
    (fun i env μ => ∃ c' told, env = [some (.ref 0), some y1, some (.pd (.int (n : Int))), some (.pd (.list (ss.map .int))), some (.ref (r.length + 1)), some (.pd (.int top)), e6, none, some (.ref (r.length + 2)), none, none, e11] ∧
      μ = c' :: (r ++ [.dit kvs, .lst (cellsF told (rowF kvs ss top n) i)]) ∧ Bg (k + 2 * i) c' ∧ ∀ i, Told (told i))
    (rg1_ok (n := n) (by simp) (by omega)) ⟨c, fun _ => 0, rfl, rfl, hb, fun _ => ⟨by show (0 : Rat).num.natAbs ≤ 99; decide, by show (0 : Rat).den ≤ 4; decide⟩⟩ (fun _ _ _ _ => held_nil) (fun i d env μ hd hp => by
      obtain ⟨c1, told, rfl, rfl, g1, g2⟩ := hp
      simp only [List.getElem?_map, Option.map_eq_some_iff] at hd
      obtain ⟨i', hi, rfl⟩ := hd
      obtain ⟨hi1, hi2⟩ := List.getElem?_eq_some_iff.mp hi
      simp at hi1 hi2
      subst hi2
      have hrow := even_row (r := r) (c := c1) (x := .lst (cellsF told (rowF kvs ss top n) i)) (y1 := y1) (e6 := e6) (e7 := none) (e8 := some (.ref (r.length + 2))) (e10 := none) (e11 := e11) ht hn hi1 hs hs1 h1 h3
      have nl2 : NL (r ++ [.dit kvs, .lst (cellsF told (rowF kvs ss top n) i)]) := fun d hd => by
        simp only [List.mem_append, List.mem_cons, List.not_mem_nil, or_false] at hd
        rcases hd with hd | rfl | rfl
        · exact hr d hd
        · rfl
        · rfl
      obtain ⟨c2, q, q1, q2, q3⟩ := told_ok g1 nl2 (by omega)
      have hlen : (cellsF told (rowF kvs ss top n) i).length < sizeLine := by
        unfold cellsF
        rw [List.length_map, List.length_range]
        exact small1000 (by omega)
      have st := cell_step (e11 := e11) rfl hrow q1 hlen
      refine ⟨[some (.ref 0), some y1, some (.pd (.int (n : Int))), some (.pd (.list (ss.map .int))), some (.ref (r.length + 1)), some (.pd (.int top)), e6, none, some (.ref (r.length + 2)), some (.pd (.int (i : Int))), none, e11], _, _, rfl, .inl st, c2, fun a => if a = i then q else told a, rfl, ?_, Bg.mono q2 (by omega), fun a => ?_⟩
      · rw [cells_snoc]
        rfl
      · show Told (if a = i then q else told a)
        split
        · exact q3
        · exact g2 a)
  refine ⟨c', told, ?_, ?_, f3⟩
  · rw [List.length_map, List.length_range] at f1
    exact f1
  · rw [List.length_map, List.length_range] at f2
    exact Bg.mono f2 (by omega)

theorem even_scales {k n : Nat} {c : Cell} {r : Store} {y1 : D} {e3 e4 e5 e6 e7 e8 e9 e10 e11 : Option D} (hb : Bg k c) (hr : NL r) (hk : k ≤ 99900) (hn : n ≤ 5) :
    ∃ (c' : Cell) (ss : List Int), eLcD [11] (.nm 11) (iRg1 (eVar 2)) tYesE (eAdd (eC (.int 1)) (eCallS F__law_take (aCons (eVar 0) (aCons (eC (.int 3)) aNil)))) [some (.ref 0), some y1, some (.pd (.int (n : Int))), e3, e4, e5, e6, e7, e8, e9, e10, e11] (c :: r) = .ok (ss.map fun z : Int => D.pd (.int z), c' :: r) ∧
      Bg (k + 5) c' ∧ ss.length = n ∧ ∀ z ∈ ss, 1 ≤ z ∧ z ≤ 3 := by
  obtain ⟨rs, μ', h1, c', ss, h2, rfl, h3, h4, h5⟩ := comp_rel (g := []) (T := .nm 11) (tst := tYesE) (elt := eAdd (eC (.int 1)) (eCallS F__law_take (aCons (eVar 0) (aCons (eC (.int 3)) aNil))))
    (env := wipeE [some (.ref 0), some y1, some (.pd (.int (n : Int))), e3, e4, e5, e6, e7, e8, e9, e10, e11] [11])
    (fun j acc μ => ∃ (c' : Cell) (ss : List Int), acc = (ss.map fun z : Int => D.pd (.int z)) ∧ μ = c' :: r ∧ Bg (k + j) c' ∧ ss.length = j ∧ ∀ z ∈ ss, 1 ≤ z ∧ z ≤ 3)
    ((List.range n).map fun (k : Nat) => D.pd (.int (k : Int))) 0 [] (c :: r) ⟨c, [], rfl, rfl, hb, rfl, fun z hz => by simp at hz⟩ (fun _ _ _ _ => held_nil) (fun j d a μ hd hp => by
      obtain ⟨c1, ss, rfl, rfl, g1, g2, g3⟩ := hp
      simp only [List.getElem?_map, Option.map_eq_some_iff] at hd
      obtain ⟨j', hj, rfl⟩ := hd
      obtain ⟨hj1, hj2⟩ := List.getElem?_eq_some_iff.mp hj
      simp at hj1 hj2
      subst hj2
      obtain ⟨c2, v, q1, q2, q3, q4⟩ := take_ok g1 hr (by omega) (m := 3) (by decide) (by decide)
      refine ⟨[some (.ref 0), some y1, some (.pd (.int (n : Int))), e3, e4, e5, e6, e7, e8, e9, e10, some (.pd (.int (j : Int)))], c1 :: r, by simp [bindT, wipeE], .inl ⟨.pd (.int (1 + v)), c2 :: r, rfl, by simp [q1], c2, ss ++ [1 + v], by simp, rfl, q2, by simp [g2], fun z hz => ?_⟩⟩
      rcases List.mem_append.mp hz with hz | hz
      · exact g3 z hz
      · rw [List.mem_singleton.mp hz]
        omega)
  simp only [List.nil_append, List.length_map, List.length_range, Nat.zero_add] at h2 h3 h4
  subst h2
  refine ⟨c', ss, ?_, Bg.mono h3 (by omega), h4, h5⟩
  exact lcD_eq (rg1_ok (n := n) (by simp) (by omega)) (by simp; exact sizeLine_ge (by omega)) h1
theorem even_ok {k : Nat} {c : Cell} {r : Store} (hb : Bg k c) (hr : NL r) (hk : k ≤ 99000) :
    ∃ c' n told f x, F__law_even_book [.ref 0, .pd (.int 5)] (c :: r) = .ok (.pd (.tuple [bk n told f, x]), c' :: r) ∧ Bg (k + 100) c' ∧ Even n f ∧ ∀ i, Told (told i) := by
  -- how many
  obtain ⟨c1, v, a1, a2, a3, a4⟩ := take_ok hb hr (by omega) (m := 5) (by decide) (by decide)
  obtain ⟨m, rfl⟩ := Int.eq_ofNat_of_zero_le a3
  obtain ⟨n, hmn⟩ : ∃ n : Nat, n = m + 1 := ⟨_, rfl⟩
  have hm : (1 : Int) + (m : Int) = (n : Int) := by omega
  have hn1 : 1 ≤ n := by omega
  have hn : n ≤ 5 := by omega
  clear hmn
  -- the scales
  obtain ⟨c2, ss, b1, b2, b3, b4⟩ := even_scales (n := n) (y1 := .pd (.int 5)) (e3 := none) (e4 := none) (e5 := none) (e6 := none) (e7 := none) (e8 := none) (e9 := none) (e10 := none) (e11 := none) a2 hr (by omega) hn
  -- the top
  obtain ⟨c3, d, t1, t2, t3⟩ := some_ok b2 (NL.snoc (c := .dit []) rfl hr) (by omega) (ds := [.int 2, .int 1, .int 3]) (by decide) (by decide)
  have ht : ∃ top : Int, d = .int top ∧ 1 ≤ top ∧ top ≤ 3 := by
    simp only [List.mem_cons, List.not_mem_nil, or_false] at t3
    rcases t3 with rfl | rfl | rfl <;> exact ⟨_, rfl, by decide, by decide⟩
  obtain ⟨top, rfl, h1, h3⟩ := ht
  -- the ties
  obtain ⟨c4, kvs, e6, g1, g2, g3⟩ := even_ties (x3 := .pd (.list (ss.map .int))) (x5 := .pd (.int top)) (y1 := .pd (.int 5)) (rest := [none, none, none, none]) t2 hr (by omega) hn
  -- the cells
  obtain ⟨c5, told, q1, q2, q3⟩ := even_cells (y1 := .pd (.int 5)) (e6 := e6) (e11 := none) g2 hr (by omega) g3 hn b3 b4 h1 h3
  refine ⟨c5, n, told, fac kvs (fun i => ss.getD i 1) top, .tuple (ss.map .int), ?_, Bg.mono q2 (by omega), ⟨hn1, hn, fun i => ss.getD i 1, top, tval kvs, h1, h3, fun i hi => ?_, fun i j hi hj => ?_, fun i hi => by simp [tval], fun i j hi hj => ?_, fun i j hi hj => ?_⟩, q3⟩
  · refine fnS_pd (ex := [.dit kvs, .lst (cellsF told (rowF kvs ss top n) n)]) ?_ q2.nl hr
    have s0 : p_law_even_book_0 [some (.ref 0), some (.pd (.int 5)), none, none, none, none, none, none, none, none, none, none] (c :: r) = .ok ((.nx, [some (.ref 0), some (.pd (.int 5)), some (.pd (.int (n : Int))), none, none, none, none, none, none, none, none, none]), c1 :: r) := by
      simp [p_law_even_book_0, a1, bindT, hm]
    have s1 : p_law_even_book_1 [some (.ref 0), some (.pd (.int 5)), some (.pd (.int (n : Int))), none, none, none, none, none, none, none, none, none] (c1 :: r) =
        .ok ((.nx, [some (.ref 0), some (.pd (.int 5)), some (.pd (.int (n : Int))), some (.pd (.list (ss.map .int))), some (.ref (r.length + 1)), none, none, none, none, none, none, none]), c2 :: (r ++ [.dit []])) := by
      simp [p_law_even_book_1, b1, bindTs, bindT]
    have s2 : p_law_even_book_2 [some (.ref 0), some (.pd (.int 5)), some (.pd (.int (n : Int))), some (.pd (.list (ss.map .int))), some (.ref (r.length + 1)), none, none, none, none, none, none, none] (c2 :: (r ++ [.dit []])) =
        .ok ((.nx, [some (.ref 0), some (.pd (.int 5)), some (.pd (.int (n : Int))), some (.pd (.list (ss.map .int))), some (.ref (r.length + 1)), some (.pd (.int top)), none, none, none, none, none, none]), c3 :: (r ++ [.dit []])) := by
      simp [p_law_even_book_2, sizeLine_ge, t1, bindT]
    have s4 : p_law_even_book_4 [some (.ref 0), some (.pd (.int 5)), some (.pd (.int (n : Int))), some (.pd (.list (ss.map .int))), some (.ref (r.length + 1)), some (.pd (.int top)), e6, none, none, none, none, none] (c4 :: (r ++ [.dit kvs])) =
        .ok ((.nx, [some (.ref 0), some (.pd (.int 5)), some (.pd (.int (n : Int))), some (.pd (.list (ss.map .int))), some (.ref (r.length + 1)), some (.pd (.int top)), e6, none, some (.ref (r.length + 2)), none, none, none]), c4 :: (r ++ [.dit kvs, .lst []])) := by
      simp [p_law_even_book_4, bindT]
    have s6 : p_law_even_book_6 [some (.ref 0), some (.pd (.int 5)), some (.pd (.int (n : Int))), some (.pd (.list (ss.map .int))), some (.ref (r.length + 1)), some (.pd (.int top)), e6, none, some (.ref (r.length + 2)), none, none, none] (c5 :: (r ++ [.dit kvs, .lst (cellsF told (rowF kvs ss top n) n)])) =
        .ok ((.rt (.pd (.tuple [.tuple (cellsF told (rowF kvs ss top n) n), .tuple (ss.map .int)])), [some (.ref 0), some (.pd (.int 5)), some (.pd (.int (n : Int))), some (.pd (.list (ss.map .int))), some (.ref (r.length + 1)), some (.pd (.int top)), e6, none, some (.ref (r.length + 2)), none, none, none]), c5 :: (r ++ [.dit kvs, .lst (cellsF told (rowF kvs ss top n) n)])) := by
      simp [p_law_even_book_6, derefs, deref, sizeLine_ge]
    exact fnL_run ((congrFun (congrFun parts_law_even_book _) _).trans ((seq_nx s0).trans ((seq_nx s1).trans ((seq_nx s2).trans ((seq_nx g1).trans ((seq_nx s4).trans ((seq_nx q1).trans s6))))))) rfl
  · have hi' : i < ss.length := by omega
    have e1 : ss.getD i 1 = ss[i] := by simp [List.getD, hi']
    show 1 ≤ ss.getD i 1 ∧ ss.getD i 1 ≤ 4
    rw [e1]
    have := b4 _ (List.getElem_mem hi')
    omega
  · by_cases e : i = j
    · rw [e]
    · exact (tval_lk g3 hi hj e).2.1
  · by_cases e : i = j
    · simp [tval, e]
    · exact (tval_lk g3 hi hj e).2.2
  · unfold fac
    split
    · rename_i e
      simp [tval, e]
    · rfl
end P55

set_option Elab.async false
set_option linter.all false
set_option maxRecDepth 100000
set_option maxHeartbeats 1000000
/-! The other drawn things. -/
namespace P55
open PySem PySem.Spec PyProof.Rows L2 Zd

/-- a drawn value -/
def Val (q : Rat) : Prop := q.num.natAbs ≤ 5 ∧ q.den ≤ 2
def valMenu : List PyData := [.tuple [.int 0, .int 1], .tuple [.int 1, .int 1], .tuple [.int (-1), .int 1], .tuple [.int 1, .int 2], .tuple [.int 3, .int 1], .tuple [.int (-5), .int 2]]
theorem val_menu : ∀ d ∈ valMenu, ∃ q, d = fr q ∧ Val q := by
  intro d hd
  simp only [valMenu, List.mem_cons, List.not_mem_nil, or_false] at hd
  rcases hd with rfl | rfl | rfl | rfl | rfl | rfl
  · exact ⟨_, fr_mk 0 1 (by decide) (by decide), by decide, by decide⟩
  · exact ⟨_, fr_mk 1 1 (by decide) (by decide), by decide, by decide⟩
  · exact ⟨_, fr_mk (-1) 1 (by decide) (by decide), by decide, by decide⟩
  · exact ⟨_, fr_mk 1 2 (by decide) (by decide), by decide, by decide⟩
  · exact ⟨_, fr_mk 3 1 (by decide) (by decide), by decide, by decide⟩
  · exact ⟨_, fr_mk (-5) 2 (by decide) (by decide), by decide, by decide⟩
noncomputable def evVal : EvE := eCallS F__law_some (aCons (eVar 0) (aCons (eFrz (eLst (aCons (eTup (aCons (eC (.int 0)) (aCons (eC (.int 1)) aNil))) (aCons (eTup (aCons (eC (.int 1)) (aCons (eC (.int 1)) aNil))) (aCons (eTup (aCons (eNeg (eC (.int 1))) (aCons (eC (.int 1)) aNil))) (aCons (eTup (aCons (eC (.int 1)) (aCons (eC (.int 2)) aNil))) (aCons (eTup (aCons (eC (.int 3)) (aCons (eC (.int 1)) aNil))) (aCons (eTup (aCons (eNeg (eC (.int 5))) (aCons (eC (.int 2)) aNil))) aNil)))))))) aNil))
theorem val_elt {k : Nat} {c : Cell} {r : Store} {env : Zd.Env} (hb : Bg k c) (hr : NL r) (hk : k ≤ 99990) (h0 : env[0]? = some (some (.ref 0))) : ∃ c' q, evVal env (c :: r) = .ok (.pd (fr q), c' :: r) ∧ Bg (k + 1) c' ∧ Val q := by
  obtain ⟨c2, d, q1, q2, q3⟩ := some_ok hb hr (by omega) (ds := valMenu) (by decide) (by decide)
  obtain ⟨q, rfl, hq⟩ := val_menu d q3
  simp only [valMenu] at q1
  exact ⟨c2, q, by simp [evVal, h0, q1, sizeLine_ge], q2, hq⟩
theorem vals_comp {k n : Nat} {c : Cell} {r : Store} (hb : Bg k c) (hr : NL r) (hk : k ≤ 99900) (hn : n ≤ 5) :
    ∃ (c' : Cell) (vs : List Rat), compD [] (.nm 2) tYesE evVal [some (.ref 0), some (.pd (.int (n : Int))), none] ((List.range n).map fun (k : Nat) => D.pd (.int (k : Int))) (c :: r) = .ok (vs.map (fun q => D.pd (fr q)), c' :: r) ∧ Bg (k + 5) c' ∧ vs.length = n ∧ ∀ q ∈ vs, Val q := by
  obtain ⟨rs, μ', h1, c', vs, h2, rfl, h3, h4, h5⟩ := comp_rel (g := []) (T := .nm 2) (tst := tYesE) (elt := evVal) (env := [some (.ref 0), some (.pd (.int (n : Int))), none])
    (fun j acc μ => ∃ (c' : Cell) (vs : List Rat), acc = (vs.map fun q => D.pd (fr q)) ∧ μ = c' :: r ∧ Bg (k + j) c' ∧ vs.length = j ∧ ∀ q ∈ vs, Val q)
    ((List.range n).map fun (k : Nat) => D.pd (.int (k : Int))) 0 [] (c :: r) ⟨c, [], rfl, rfl, hb, rfl, fun z hz => by simp at hz⟩ (fun _ _ _ _ => held_nil) (fun j d a μ hd hp => by
      obtain ⟨c1, vs, rfl, rfl, g1, g2, g3⟩ := hp
      simp only [List.getElem?_map, Option.map_eq_some_iff] at hd
      obtain ⟨j', hj, rfl⟩ := hd
      obtain ⟨hj1, hj2⟩ := List.getElem?_eq_some_iff.mp hj
      simp at hj1 hj2
      subst hj2
      obtain ⟨c2, q, q1, q2, hq⟩ := val_elt (env := [some (.ref 0), some (.pd (.int (n : Int))), some (.pd (.int (j : Int)))]) g1 hr (by omega) rfl
      refine ⟨[some (.ref 0), some (.pd (.int (n : Int))), some (.pd (.int (j : Int)))], c1 :: r, by simp [bindT], .inl ⟨.pd (fr q), c2 :: r, rfl, q1, c2, vs ++ [q], by simp, rfl, q2, by simp [g2], fun z hz => ?_⟩⟩
      rcases List.mem_append.mp hz with hz | hz
      · exact g3 z hz
      · rw [List.mem_singleton.mp hz]
        exact hq)
  simp only [List.nil_append, List.length_map, List.length_range, Nat.zero_add] at h2 h3 h4
  subst h2
  exact ⟨c', vs, h1, Bg.mono h3 (by omega), h4, h5⟩
theorem few_eq : ev__law_few_values = sRet (eCall fTuple (aCons (eFrz (asF (eLcD [2] (.nm 2) (iRg1 (eVar 1)) tYesE evVal))) aNil)) := rfl
theorem vals_ok {k n : Nat} {c : Cell} {r : Store} (hb : Bg k c) (hr : NL r) (hk : k ≤ 99900) (hn : n ≤ 5) :
    ∃ (c' : Cell) (vs : List Rat), F__law_few_values [.ref 0, .pd (.int (n : Int))] (c :: r) = .ok (.pd (.tuple (vs.map fr)), c' :: r) ∧ Bg (k + 5) c' ∧ vs.length = n ∧ ∀ q ∈ vs, Val q := by
  obtain ⟨c', vs, h1, h3, h4, h5⟩ := vals_comp (n := n) hb hr hk hn
  have hl := lcD_eq (env := [some (.ref 0), some (.pd (.int (n : Int))), none]) (vs := [2]) (rg1_ok (a := eVar 1) (n := n) (μ := c :: r) (μ1 := c :: r) (by simp) (by omega)) (by simp; exact sizeLine_ge (by omega)) h1
  refine ⟨c', vs, fnS_pd (ex := []) ?_ h3.nl hr, h3, h4, h5⟩
  have s0 : ev__law_few_values [some (.ref 0), some (.pd (.int (n : Int))), none] (c :: r) = .ok ((.rt (.pd (.tuple (vs.map fr))), [some (.ref 0), some (.pd (.int (n : Int))), none]), c' :: r) := by
    rw [few_eq]
    simp [hl]
  rw [List.append_nil]
  exact fnL_run s0 rfl
/-- the books just at the edge -/
def jf (top : Int) (s : Nat → Int) (e : Int) (i j : Nat) : Rat := Rat.divInt (if i = j then 0 else e) (top * s i)
theorem jf_even {n : Nat} {top e : Int} {s : Nat → Int} (h1 : 1 ≤ n) (h5 : n ≤ 5) (ht : 1 ≤ top) (ht3 : top ≤ 3) (hs : ∀ i, i < n → 1 ≤ s i ∧ s i ≤ 4) (he : e.natAbs ≤ 2) : Even n (jf top s e) :=
  ⟨h1, h5, s, top, fun i j => if i = j then 0 else e, ht, ht3, hs, fun i j _ _ => by simp only [eq_comm], fun i _ => by simp, fun i j _ _ => by show (if i = j then (0 : Int) else e).natAbs ≤ 2; split <;> simp [he], fun i j _ _ => rfl⟩
theorem just_ok {k : Nat} {c : Cell} {r : Store} (hb : Bg k c) (hr : NL r) (hk : k ≤ 99900) :
    ∃ c' n told f, F__law_just_even [.ref 0] (c :: r) = .ok (.pd (bk n told f), c' :: r) ∧ Bg (k + 100) c' ∧ Even n f ∧ ∀ i, Told (told i) := by
  obtain ⟨c1, v, a1, a2, a3, a4⟩ := take_ok hb hr (by omega) (m := 3) (by decide) (by decide)
  obtain ⟨c2, d, b1, b2, b3⟩ := some_ok a2 hr (by omega) (ds := [.tuple [.int 1, .int 1], .tuple [.int (-1), .int 1]]) (by decide) (by decide)
  have told0 : ∀ i : Nat, Told ((fun _ => 0 : Nat → Rat) i) := fun _ => ⟨by show (0 : Rat).num.natAbs ≤ 99; decide, by show (0 : Rat).den ≤ 4; decide⟩
  have two : (4 : Nat) < 2 ^ 4000 := Nat.lt_of_lt_of_le (by decide : 4 < 2 ^ 10) (Nat.pow_le_pow_right (by decide) (by decide))
  have hd : ∃ e : Int, d = .tuple [.int e, .int 1] ∧ e.natAbs = 1 ∧ F__law_by [.tuple [.int e, .int 1], .tuple [.int 1, .int 2]] = .ok (.tuple [.int e, .int 2]) := by
    simp only [List.mem_cons, List.not_mem_nil, or_false] at b3
    have h1 := L_by_ok (a := ⟨1, 1, by decide, by decide⟩) (b := ⟨1, 2, by decide, by decide⟩) ⟨by show 1 < _; omega, by show 1 < _; omega⟩ ⟨by show 1 < _; omega, by show 2 < _; omega⟩
    have h2 := L_by_ok (a := ⟨-1, 1, by decide, by decide⟩) (b := ⟨1, 2, by decide, by decide⟩) ⟨by show 1 < _; omega, by show 1 < _; omega⟩ ⟨by show 1 < _; omega, by show 2 < _; omega⟩
    have g1 : fr ((⟨1, 1, by decide, by decide⟩ : Rat) * ⟨1, 2, by decide, by decide⟩) = .tuple [.int 1, .int 2] := by kernel_rfl
    have g2 : fr ((⟨-1, 1, by decide, by decide⟩ : Rat) * ⟨1, 2, by decide, by decide⟩) = .tuple [.int (-1), .int 2] := by kernel_rfl
    rw [g1] at h1
    rw [g2] at h2
    rcases b3 with rfl | rfl
    · exact ⟨1, rfl, rfl, h1⟩
    · exact ⟨-1, rfl, rfl, h2⟩
  obtain ⟨e, rfl, he, hby⟩ := hd
  have hv : v = 0 ∨ v = 1 ∨ v = 2 := by omega
  have e2 : e = 1 ∨ e = -1 := by omega
  have f1 : fr (Rat.divInt e 1) = .tuple [.int e, .int 1] := by rcases e2 with rfl | rfl <;> rfl
  have f2 : fr (Rat.divInt e 2) = .tuple [.int e, .int 2] := by rcases e2 with rfl | rfl <;> rfl
  have z1 : fr (Rat.divInt 0 1) = .tuple [.int 0, .int 1] := rfl
  have z2 : fr (Rat.divInt 0 2) = .tuple [.int 0, .int 1] := rfl
  have z4 : fr (Rat.divInt 0 4) = .tuple [.int 0, .int 1] := rfl
  have q1 : fr (Rat.divInt 2 1) = .tuple [.int 2, .int 1] := rfl
  have q2 : fr (Rat.divInt 2 4) = .tuple [.int 1, .int 2] := rfl
  rcases hv with rfl | rfl | rfl
  · refine ⟨c2, 2, fun _ => 0, jf 1 (fun _ => 1) e, fnS_pd (ex := []) ?_ b2.nl hr, Bg.mono b2 (by omega), jf_even (by decide) (by decide) (by decide) (by decide) (fun _ _ => by decide) (by omega), told0⟩
    have hbk : bk 2 (fun _ => 0) (jf 1 (fun _ => 1) e) = .tuple [.tuple [.tuple [.tuple [.int 0, .int 1], .tuple [.tuple [.int 0, .int 1], .tuple [.int e, .int 1]]]], .tuple [.tuple [.tuple [.int 0, .int 1], .tuple [.tuple [.int e, .int 1], .tuple [.int 0, .int 1]]]]] := by
      simp [bk, jf, List.range_succ, fr_zero, f1, z1]
    rw [hbk]
    unfold fnL ev__law_just_even
    simp [a1, b1, bindT, bindTs, sizeLine_ge]
  · refine ⟨c2, 3, fun _ => 0, jf 2 (fun _ => 1) e, fnS_pd (ex := []) ?_ b2.nl hr, Bg.mono b2 (by omega), jf_even (by decide) (by decide) (by decide) (by decide) (fun _ _ => by decide) (by omega), told0⟩
    have hbk : bk 3 (fun _ => 0) (jf 2 (fun _ => 1) e) = .tuple [.tuple [.tuple [.tuple [.int 0, .int 1], .tuple [.tuple [.int 0, .int 1], .tuple [.int e, .int 2], .tuple [.int e, .int 2]]]],
        .tuple [.tuple [.tuple [.int 0, .int 1], .tuple [.tuple [.int e, .int 2], .tuple [.int 0, .int 1], .tuple [.int e, .int 2]]]], .tuple [.tuple [.tuple [.int 0, .int 1], .tuple [.tuple [.int e, .int 2], .tuple [.int e, .int 2], .tuple [.int 0, .int 1]]]]] := by
      simp [bk, jf, List.range_succ, fr_zero, f2, z2]
    rw [hbk]
    unfold fnL ev__law_just_even
    simp [a1, b1, bindT, bindTs, sizeLine_ge, hby, noL, noLs]
  · refine ⟨c2, 2, fun _ => 0, jf 1 (fun i => if i = 0 then 1 else 4) 2, fnS_pd (ex := []) ?_ b2.nl hr, Bg.mono b2 (by omega), jf_even (by decide) (by decide) (by decide) (by decide) (fun i _ => by show 1 ≤ (if i = 0 then (1 : Int) else 4) ∧ (if i = 0 then (1 : Int) else 4) ≤ 4; split <;> decide) (by decide), told0⟩
    have hbk : bk 2 (fun _ => 0) (jf 1 (fun i => if i = 0 then 1 else 4) 2) = .tuple [.tuple [.tuple [.tuple [.int 0, .int 1], .tuple [.tuple [.int 0, .int 1], .tuple [.int 2, .int 1]]]], .tuple [.tuple [.tuple [.int 0, .int 1], .tuple [.tuple [.int 1, .int 2], .tuple [.int 0, .int 1]]]]] := by
      simp [bk, jf, List.range_succ, fr_zero, z1, z4, q1, q2]
    rw [hbk]
    unfold fnL ev__law_just_even
    simp [a1, b1, bindT, bindTs, sizeLine_ge, hby, noL, noLs]
end P55

set_option Elab.async false
set_option linter.all false
set_option maxRecDepth 100000
set_option maxHeartbeats 1000000
/-! Scales by going along the links: the plain computation and what it finds. -/
namespace P55

/-- positive numbers by which the factors are even -/
structure Pot (n : Nat) (f : Nat → Nat → Rat) (p : Nat → Rat) : Prop where
  pos : ∀ i, i < n → 0 < p i
  sym : ∀ i j, i < n → j < n → f i j * p i = f j i * p j
  diag : ∀ i, i < n → f i i = 0
abbrev Sg := Nat → Option Rat
def put (σ : Sg) (o : Nat) (q : Rat) : Sg := fun c => if c = o then some q else σ c
def stp (f : Nat → Nat → Rat) (h : Nat) (s : Sg × List Nat) (o : Nat) : Sg × List Nat := if f h o = 0 then s else match s.1 o with
  | some _ => s
  | none => (put s.1 o ((s.1 h).getD 1 * (f h o / f o h)), s.2 ++ [o])
def inn (f : Nat → Nat → Rat) (h : Nat) (s : Sg × List Nat) : Nat → Sg × List Nat
  | 0 => s
  | m + 1 => stp f h (inn f h s m) m
def whl (f : Nat → Nat → Rat) (n : Nat) : Nat → Sg × List Nat → Sg × List Nat
  | 0, s => s
  | k + 1, s => match s.2.getLast? with
    | none => s
    | some h => whl f n k (inn f h (s.1, s.2.dropLast) n)
def ini (σ : Sg) (m : Nat) : Sg × List Nat := match σ m with
  | some _ => (σ, [])
  | none => (put σ m 1, [m])
def scl (f : Nat → Nat → Rat) (n : Nat) : Nat → Sg
  | 0 => fun _ => none
  | m + 1 => (whl f n (2 * n) (ini (scl f n m) m)).1
/-- how many are not told yet -/
def unt (σ : Sg) : Nat → Nat
  | 0 => 0
  | m + 1 => unt σ m + (if (σ m).isNone then 1 else 0)
section
variable {n : Nat} {f : Nat → Nat → Rat} {p : Nat → Rat}
theorem Pot.zero (P : Pot n f p) {i j : Nat} (hi : i < n) (hj : j < n) (h : f i j = 0) : f j i = 0 := by
  have h1 := P.sym i j hi hj
  have h2 := P.pos j hj
  rw [h, Rat.zero_mul] at h1
  have h3 : p j ≠ 0 := by grind
  rcases Rat.mul_eq_zero.mp h1.symm with h | h
  · exact h
  · exact absurd h h3
theorem Pot.ratio (P : Pot n f p) {i j : Nat} (hi : i < n) (hj : j < n) (h : f i j ≠ 0) : f i j / f j i = p j / p i := by
  have h1 := P.sym i j hi hj
  have h2 := P.pos i hi
  have h3 := P.pos j hj
  have h4 : f j i ≠ 0 := fun z => h (P.zero hj hi z)
  have h5 : p i ≠ 0 := by grind
  grind
structure Iv (n : Nat) (f : Nat → Nat → Rat) (p : Nat → Rat) (κ : Rat) (e : Option Nat) (s : Sg × List Nat) : Prop where
  val : ∀ c w, c < n → s.1 c = some w → ∃ r, r < n ∧ w = p c / p r
  edge : ∀ c d w w', c < n → d < n → s.1 c = some w → s.1 d = some w' → f c d ≠ 0 → w' * p c = w * p d
  cur : ∀ c, c ∈ s.2 ∨ e = some c → c < n ∧ s.1 c = some (p c * κ)
  clo : ∀ c d, c < n → d < n → s.1 c ≠ none → c ∉ s.2 → e ≠ some c → f c d ≠ 0 → s.1 d ≠ none
  kap : ∃ r, r < n ∧ κ = 1 / p r
theorem stp_iv (P : Pot n f p) {κ : Rat} {h o : Nat} {s : Sg × List Nat} (I : Iv n f p κ (some h) s) (ho : o < n) : Iv n f p κ (some h) (stp f h s o) := by
  obtain ⟨hh, hv⟩ := I.cur h (.inr rfl)
  have ph := P.pos h hh
  have po := P.pos o ho
  unfold stp
  by_cases hz : f h o = 0
  · rw [if_pos hz]
    exact I
  · rw [if_neg hz]
    cases hs : s.1 o with
    | some w => exact I
    | none =>
      have hne : h ≠ o := fun e => by
        rw [← e, hv] at hs
        cases hs
      have rt := P.ratio hh ho hz
      have val : (s.1 h).getD 1 * (f h o / f o h) = p o * κ := by
        rw [hv, rt]
        show p h * κ * (p o / p h) = p o * κ
        grind
      simp only [val]
      obtain ⟨r, hr, hk⟩ := I.kap
      -- a told cell beside the new one stands in the line, or is the one at hand
      have near : ∀ d w, d < n → s.1 d = some w → f o d ≠ 0 → w = p d * κ := fun d w hd hw hf => by
        by_cases hm : d ∈ s.2 ∨ some h = some d
        · have := (I.cur d hm).2
          rw [hw] at this
          exact Option.some.inj this
        · refine absurd hs (I.clo d o hd ho (by rw [hw]; exact Option.some_ne_none _) (fun z => hm (.inl z)) (fun z => hm (.inr z)) ?_)
          exact fun z => hf (P.zero hd ho z)
      refine ⟨fun c w hc hw => ?_, fun c d w w' hc hd hw hw' hf => ?_, fun c hc => ?_, fun c d hc hd hw hL he hf => ?_, I.kap⟩
      · by_cases e : c = o
        · subst e
          simp only [put, if_true] at hw
          cases hw
          refine ⟨r, hr, ?_⟩
          have := P.pos r hr
          grind
        · simp only [put, e, if_false] at hw
          exact I.val c w hc hw
      · by_cases e1 : c = o
        · subst e1
          simp only [put, if_true] at hw
          cases hw
          by_cases e2 : d = c
          · subst e2
            exact absurd (P.diag d hd) hf
          · simp only [put, e2, if_false] at hw'
            rw [near d w' hd hw' hf]
            grind
        · simp only [put, e1, if_false] at hw
          by_cases e2 : d = o
          · subst e2
            simp only [put, if_true] at hw'
            cases hw'
            rw [near c w hc hw (fun z => hf (P.zero hd hc z))]
            grind
          · simp only [put, e2, if_false] at hw'
            exact I.edge c d w w' hc hd hw hw' hf
      · by_cases e : c = o
        · subst e
          exact ⟨ho, by simp [put]⟩
        · have hc2 : c ∈ s.2 ∨ some h = some c := by
            rcases hc with hc | hc
            · rcases List.mem_append.mp hc with hc | hc
              · exact .inl hc
              · exact absurd (List.mem_singleton.mp hc) e
            · exact .inr hc
          obtain ⟨h1, h2⟩ := I.cur c hc2
          exact ⟨h1, by simp only [put, e, if_false]; exact h2⟩
      · by_cases e2 : d = o
        · simp [put, e2]
        · by_cases e1 : c = o
          · exact absurd (List.mem_append.mpr (.inr (List.mem_singleton.mpr e1))) hL
          · simp only [put, e1, e2, if_false] at hw ⊢
            exact I.clo c d hc hd hw (fun z => hL (List.mem_append_left _ z)) he hf

theorem Iv.fits (P : Pot n f p) {κ : Rat} {h o : Nat} {s : Sg × List Nat} (I : Iv n f p κ (some h) s) (ho : o < n) {w : Rat} (hw : s.1 o = some w) (hf : f h o ≠ 0) : w = p h * κ * (f h o / f o h) := by
  obtain ⟨hh, hv⟩ := I.cur h (.inr rfl)
  have ph := P.pos h hh
  rw [P.ratio hh ho hf]
  have := I.edge h o _ w hh ho hv hw hf
  grind
/-- the step tells the neighbour, forgets none -/
theorem stp_told {κ : Rat} {h o : Nat} {s : Sg × List Nat} : (f h o ≠ 0 → (stp f h s o).1 o ≠ none) ∧ ∀ c, s.1 c ≠ none → (stp f h s o).1 c ≠ none := by
  unfold stp
  by_cases hz : f h o = 0
  · rw [if_pos hz]
    exact ⟨fun z => absurd hz z, fun c hc => hc⟩
  · rw [if_neg hz]
    cases hs : s.1 o with
    | some w => exact ⟨fun _ => by simp [hs], fun c hc => hc⟩
    | none =>
      refine ⟨fun _ => by simp [put], fun c hc => ?_⟩
      simp only [put]
      split
      · simp
      · exact hc
theorem inn_iv (P : Pot n f p) {κ : Rat} {h : Nat} {s : Sg × List Nat} (I : Iv n f p κ (some h) s) : ∀ m, m ≤ n → Iv n f p κ (some h) (inn f h s m) ∧ ∀ d, d < m → f h d ≠ 0 → (inn f h s m).1 d ≠ none
  | 0, _ => ⟨I, fun d hd => by omega⟩
  | m + 1, hm => by
    obtain ⟨i1, i2⟩ := inn_iv P I m (by omega)
    refine ⟨stp_iv P i1 (by omega), fun d hd hf => ?_⟩
    obtain ⟨t1, t2⟩ := stp_told (f := f) (κ := κ) (h := h) (o := m) (s := inn f h s m)
    by_cases e : d = m
    · subst e
      exact t1 hf
    · exact t2 d (i2 d (by omega) hf)
theorem pop_iv {κ : Rat} {h : Nat} {s : Sg × List Nat} (I : Iv n f p κ none s) (hl : s.2.getLast? = some h) : Iv n f p κ (some h) (s.1, s.2.dropLast) := by
  have hm : h ∈ s.2 := List.mem_of_getLast? hl
  have hcut : s.2 = s.2.dropLast ++ [h] := by
    rw [List.getLast?_eq_some_iff] at hl
    obtain ⟨ys, e⟩ := hl
    rw [e]
    simp
  refine ⟨I.val, I.edge, fun c hc => ?_, fun c d hc hd hw hL he hf => ?_, I.kap⟩
  · rcases hc with hc | hc
    · exact I.cur c (.inl (by rw [hcut]; exact List.mem_append_left _ hc))
    · cases hc
      exact I.cur h (.inl hm)
  · refine I.clo c d hc hd hw (fun z => ?_) (by simp) hf
    rw [hcut] at z
    rcases List.mem_append.mp z with z | z
    · exact hL z
    · exact he (by rw [List.mem_singleton.mp z])
theorem done_iv {κ : Rat} {h : Nat} {s : Sg × List Nat} (I : Iv n f p κ (some h) s) (hn : ∀ d, d < n → f h d ≠ 0 → s.1 d ≠ none) : Iv n f p κ none s := by
  refine ⟨I.val, I.edge, fun c hc => I.cur c (hc.elim .inl fun z => by cases z), fun c d hc hd hw hL he hf => ?_, I.kap⟩
  by_cases e : h = c
  · subst e
    exact hn d hd hf
  · exact I.clo c d hc hd hw hL (fun z => e (Option.some.inj z)) hf
theorem unt_put {σ : Sg} {o : Nat} {q : Rat} (hs : σ o = none) : ∀ m, unt (put σ o q) m + (if o < m then 1 else 0) = unt σ m
  | 0 => by simp [unt]
  | m + 1 => by
    have ih := unt_put (q := q) hs m
    unfold unt
    by_cases e : m = o
    · subst e
      simp only [put, if_true, hs] at ih ⊢
      have : ¬ m < m := by omega
      simp only [this, if_false] at ih
      simp
      exact ih
    · have h1 : put σ o q m = σ m := by simp [put, e]
      rw [h1]
      by_cases h2 : o < m
      · have h3 : (if o < m + 1 then 1 else 0) = (1 : Nat) := if_pos (by omega)
        rw [if_pos h2] at ih
        rw [h3]
        omega
      · have h3 : (if o < m + 1 then 1 else 0) = (0 : Nat) := if_neg (by omega)
        rw [if_neg h2] at ih
        rw [h3]
        omega
theorem unt_le (σ : Sg) : ∀ m, unt σ m ≤ m
  | 0 => Nat.le_refl _
  | m + 1 => by
    have := unt_le σ m
    unfold unt
    split <;> omega
theorem stp_size {h o : Nat} {s : Sg × List Nat} (ho : o < n) : unt (stp f h s o).1 n + (stp f h s o).2.length = unt s.1 n + s.2.length := by
  unfold stp
  split
  · rfl
  · cases hs : s.1 o with
    | some w => rfl
    | none =>
      have := unt_put (q := (s.1 h).getD 1 * (f h o / f o h)) hs n
      rw [if_pos ho] at this
      simp
      omega
theorem inn_size {h : Nat} {s : Sg × List Nat} : ∀ m, m ≤ n → unt (inn f h s m).1 n + (inn f h s m).2.length = unt s.1 n + s.2.length
  | 0, _ => rfl
  | m + 1, hm => by
    show unt (stp f h (inn f h s m) m).1 n + (stp f h (inn f h s m) m).2.length = _
    rw [stp_size (by omega), inn_size m (by omega)]
theorem inn_keeps {h : Nat} {s : Sg × List Nat} {c : Nat} (hc : s.1 c ≠ none) : ∀ m, (inn f h s m).1 c ≠ none
  | 0 => hc
  | m + 1 => (stp_told (f := f) (κ := 1) (h := h) (o := m) (s := inn f h s m)).2 c (inn_keeps hc m)
theorem whl_iv (P : Pot n f p) {κ : Rat} : ∀ (k : Nat) (s : Sg × List Nat), Iv n f p κ none s → unt s.1 n + s.2.length ≤ k → Iv n f p κ none (whl f n k s) ∧ (whl f n k s).2 = [] ∧ ∀ c, s.1 c ≠ none → (whl f n k s).1 c ≠ none
  | 0, s, I, hk => ⟨I, by show s.2 = []; exact List.length_eq_zero_iff.mp (by omega), fun c hc => hc⟩
  | k + 1, s, I, hk => by
    unfold whl
    cases hl : s.2.getLast? with
    | none => exact ⟨I, List.getLast?_eq_none_iff.mp hl, fun c hc => hc⟩
    | some h =>
      have hne : s.2 ≠ [] := fun z => by rw [z] at hl; cases hl
      obtain ⟨i1, i2⟩ := inn_iv P (pop_iv I hl) n (Nat.le_refl _)
      have sz := inn_size (f := f) (h := h) (s := (s.1, s.2.dropLast)) n (Nat.le_refl _)
      have hd : s.2.dropLast.length = s.2.length - 1 := List.length_dropLast ..
      have hp : 0 < s.2.length := List.length_pos_iff.mpr hne
      obtain ⟨r1, r2, r3⟩ := whl_iv P k _ (done_iv i1 i2) (by simp only [hd] at sz; omega)
      exact ⟨r1, r2, fun c hc => r3 c (inn_keeps (s := (s.1, s.2.dropLast)) hc n)⟩
/-- what stands when the first m cells have been gone from -/
structure Told1 (n : Nat) (f : Nat → Nat → Rat) (p : Nat → Rat) (σ : Sg) : Prop where
  val : ∀ c w, c < n → σ c = some w → ∃ r, r < n ∧ w = p c / p r
  edge : ∀ c d w w', c < n → d < n → σ c = some w → σ d = some w' → f c d ≠ 0 → w' * p c = w * p d
  clo : ∀ c d, c < n → d < n → σ c ≠ none → f c d ≠ 0 → σ d ≠ none
theorem ini_iv (P : Pot n f p) {σ : Sg} {m : Nat} (T : Told1 n f p σ) (hm : m < n) : Iv n f p (1 / p m) none (ini σ m) ∧ (ini σ m).1 m ≠ none ∧ (∀ c, σ c ≠ none → (ini σ m).1 c ≠ none) ∧ unt (ini σ m).1 n + (ini σ m).2.length ≤ 2 * n := by
  have pm := P.pos m hm
  unfold ini
  cases hs : σ m with
  | some w =>
    refine ⟨⟨T.val, T.edge, fun c hc => ?_, fun c d hc hd hw _ _ hf => T.clo c d hc hd hw hf, m, hm, rfl⟩, by simp [hs], fun c hc => hc, ?_⟩
    · rcases hc with hc | hc
      · simp at hc
      · cases hc
    · have := unt_le σ n
      simp
      omega
  | none =>
    have far : ∀ d, d < n → f m d ≠ 0 → σ d = none := fun d hd hf => Classical.byContradiction fun z => absurd hs (T.clo d m hd hm z (fun y => hf (P.zero hd hm y)))
    refine ⟨⟨fun c w hc hw => ?_, fun c d w w' hc hd hw hw' hf => ?_, fun c hc => ?_, fun c d hc hd hw hL _ hf => ?_, m, hm, rfl⟩, by simp [put], fun c hc => ?_, ?_⟩
    · by_cases e : c = m
      · subst e
        simp only [put, if_true] at hw
        cases hw
        exact ⟨c, hm, by grind⟩
      · simp only [put, e, if_false] at hw
        exact T.val c w hc hw
    · by_cases e1 : c = m
      · subst e1
        by_cases e2 : d = c
        · subst e2
          exact absurd (P.diag d hd) hf
        · simp only [put, e2, if_false] at hw'
          rw [far d hd hf] at hw'
          cases hw'
      · by_cases e2 : d = m
        · subst e2
          simp only [put, e1, if_false] at hw
          rw [far c hc (fun z => hf (P.zero hd hc z))] at hw
          cases hw
        · simp only [put, e1, e2, if_false] at hw hw'
          exact T.edge c d w w' hc hd hw hw' hf
    · rcases hc with hc | hc
      · rw [List.mem_singleton.mp hc]
        refine ⟨hm, ?_⟩
        simp only [put, if_true]
        congr 1
        grind
      · cases hc
    · have e1 : c ≠ m := fun z => hL (by simp [z])
      by_cases e2 : d = m
      · simp [put, e2]
      · simp only [put, e1, e2, if_false] at hw ⊢
        exact T.clo c d hc hd hw hf
    · simp only [put]
      split
      · simp
      · exact hc
    · have := unt_le (put σ m 1) n
      simp
      omega
theorem scl_told (P : Pot n f p) : ∀ m, m ≤ n → Told1 n f p (scl f n m) ∧ ∀ c, c < m → scl f n m c ≠ none
  | 0, _ => ⟨⟨fun c w _ hw => by simp [scl] at hw, fun c d w w' _ _ hw => by simp [scl] at hw, fun c d _ _ hw => by simp [scl] at hw⟩, fun c hc => by omega⟩
  | m + 1, hm => by
    obtain ⟨i1, i2⟩ := scl_told P m (by omega)
    obtain ⟨j1, j2, j3, j4⟩ := ini_iv P i1 (show m < n by omega)
    obtain ⟨r1, r2, r3⟩ := whl_iv P (2 * n) _ j1 j4
    refine ⟨⟨r1.val, r1.edge, fun c d hc hd hw hf => r1.clo c d hc hd hw (by rw [r2]; simp) (by simp) hf⟩, fun c hc => ?_⟩
    by_cases e : c = m
    · subst e
      exact r3 c j2
    · exact r3 c (j3 c (i2 c (by omega)))
/-- the scales -/
def sca (f : Nat → Nat → Rat) (n i : Nat) : Rat := (scl f n n i).getD 1
theorem sca_some (P : Pot n f p) {i : Nat} (hi : i < n) : scl f n n i = some (sca f n i) := by
  have := (scl_told P n (Nat.le_refl _)).2 i hi
  unfold sca
  cases h : scl f n n i with
  | none => exact absurd h this
  | some w => rfl
theorem sca_val (P : Pot n f p) {i : Nat} (hi : i < n) : ∃ r, r < n ∧ sca f n i = p i / p r := (scl_told P n (Nat.le_refl _)).1.val i _ hi (sca_some P hi)
theorem sca_sym (P : Pot n f p) {i j : Nat} (hi : i < n) (hj : j < n) : sca f n i * f i j = sca f n j * f j i := by
  by_cases h : f i j = 0
  · rw [h, P.zero hi hj h]
    grind
  · have h1 := (scl_told P n (Nat.le_refl _)).1.edge i j _ _ hi hj (sca_some P hi) (sca_some P hj) h
    have h2 := P.sym i j hi hj
    have h3 := P.pos i hi
    have h4 := P.pos j hj
    grind
end
end P55

set_option Elab.async false
set_option linter.all false
set_option maxRecDepth 100000
set_option maxHeartbeats 1000000
/-! Sizes; the book's items; equality of fractions. -/
namespace P55
open PySem PySem.Spec PyProof.Rows L2 Zd

/-- numerator and denominator at most -/
def Bd (N D : Nat) (q : Rat) : Prop := q.num.natAbs ≤ N ∧ q.den ≤ D
theorem Bd.sm {N D : Nat} {q : Rat} (h : Bd N D q) (hN : N < 2 ^ 4000) (hD : D < 2 ^ 4000) : Sm q := ⟨Nat.lt_of_le_of_lt h.1 hN, Nat.lt_of_le_of_lt h.2 hD⟩
theorem two400 {N : Nat} (h : N ≤ 2 ^ 200) : N < 2 ^ 4000 := Nat.lt_of_le_of_lt h (Nat.pow_lt_pow_right (by decide) (by decide))
theorem Bd.mono {N D N' D' : Nat} {q : Rat} (h : Bd N D q) (h1 : N ≤ N') (h2 : D ≤ D') : Bd N' D' q := ⟨Nat.le_trans h.1 h1, Nat.le_trans h.2 h2⟩
theorem Bd.divInt {a b : Int} (hb : b ≠ 0) : Bd a.natAbs b.natAbs (Rat.divInt a b) := by
  constructor
  · rw [Rat.num_divInt]
    have h1 : (b.sign * a / (b.gcd a : Int)).natAbs ≤ (b.sign * a).natAbs := Int.natAbs_ediv_le_natAbs _ _
    have h2 : (b.sign * a).natAbs ≤ a.natAbs := by
      rw [Int.natAbs_mul]
      have : b.sign.natAbs ≤ 1 := by
        rcases Int.lt_trichotomy b 0 with h | h | h
        · rw [Int.sign_eq_neg_one_of_neg h]; decide
        · exact absurd h hb
        · rw [Int.sign_eq_one_of_pos h]; decide
      exact Nat.le_trans (Nat.mul_le_mul_right _ this) (by rw [Nat.one_mul]; exact Nat.le_refl _)
    exact Nat.le_trans h1 h2
  · rw [Rat.den_divInt, if_neg hb]
    exact Nat.div_le_self _ _
theorem Bd.of_divInt {a b : Int} {N D : Nat} (hb : b ≠ 0) (h1 : a.natAbs ≤ N) (h2 : b.natAbs ≤ D) : Bd N D (Rat.divInt a b) := (Bd.divInt hb).mono h1 h2
theorem Bd.mul {a b : Rat} {N D M E : Nat} (ha : Bd N D a) (hb : Bd M E b) : Bd (N * M) (D * E) (a * b) := by
  rw [← divInt_mul]
  refine Bd.of_divInt (den_mul_ne a b) ?_ ?_
  · rw [Int.natAbs_mul]
    exact Nat.mul_le_mul ha.1 hb.1
  · rw [Int.natAbs_mul, Int.natAbs_natCast, Int.natAbs_natCast]
    exact Nat.mul_le_mul ha.2 hb.2
theorem Bd.div {a b : Rat} {N D M E : Nat} (ha : Bd N D a) (hb : Bd M E b) (h0 : b ≠ 0) : Bd (N * E) (D * M) (a / b) := by
  rw [← divInt_div]
  refine Bd.of_divInt (Int.mul_ne_zero (den_ne a) (num_ne h0)) ?_ ?_
  · rw [Int.natAbs_mul, Int.natAbs_natCast]
    exact Nat.mul_le_mul ha.1 hb.2
  · rw [Int.natAbs_mul, Int.natAbs_natCast]
    exact Nat.mul_le_mul ha.2 hb.1
theorem Even.pot {n : Nat} {f : Nat → Nat → Rat} (h : Even n f) : ∃ s : Nat → Int, (∀ i, i < n → 1 ≤ s i ∧ s i ≤ 4) ∧ Pot n f (fun i => (s i : Rat)) ∧ (∀ i j, i < n → j < n → Bd 2 12 (f i j)) := by
  obtain ⟨s, top, t, t1, t3, hs, hsym, hd, ht, hf⟩ := h.ex
  have ne : ∀ i, i < n → top * s i ≠ 0 ∧ (top * s i).natAbs ≤ 12 := fun i hi => by
    have := hs i hi
    have h1 := Int.mul_le_mul t3 this.2 (by omega) (by decide)
    have h2 := Int.mul_le_mul t1 this.1 (by decide) (by omega)
    omega
  refine ⟨s, hs, ⟨fun i hi => ?_, fun i j hi hj => ?_, fun i hi => ?_⟩, fun i j hi hj => ?_⟩
  · have := hs i hi
    exact Rat.intCast_pos.mpr (by omega)
  · have hi1 : (s i : Rat) ≠ 0 := fun z => by
      have := (hs i hi).1
      have : s i = 0 := Rat.intCast_eq_zero_iff.mp z
      omega
    have hj1 : (s j : Rat) ≠ 0 := fun z => by
      have := (hs j hj).1
      have : s j = 0 := Rat.intCast_eq_zero_iff.mp z
      omega
    have ht1 : (top : Rat) ≠ 0 := fun z => by
      have : top = 0 := Rat.intCast_eq_zero_iff.mp z
      omega
    rw [hf i j hi hj, hf j i hj hi, hsym i j hi hj, Rat.divInt_eq_div, Rat.divInt_eq_div, Rat.intCast_mul, Rat.intCast_mul]
    grind
  · rw [hf i i hi hi, hd i hi]
    simp
  · rw [hf i j hi hj]
    exact Bd.of_divInt (ne i hi).1 (ht i j hi hj) (ne i hi).2
theorem shaped_fr (q : Rat) : SeqAt.shaped (fr q) = true := by
  simp [SeqAt.shaped, fr, PyData.canLay0, PyData.canLayAll0, PyData.depth, PyData.depthAll]
theorem eqv_fr (a b : Rat) : PyData.eqv (fr a) (fr b) = decide (a = b) := by
  simp only [fr, PyData.eqv, PyData.eqvAll, Bool.and_true]
  by_cases h : a = b
  · subst h
    simp
  · have : ¬ (a.num = b.num ∧ (a.den : Int) = (b.den : Int)) := fun z => h (Rat.ext z.1 (by omega))
    simp only [h, decide_false, Bool.and_eq_false_iff, beq_eq_false_iff_ne]
    by_cases h1 : a.num = b.num
    · exact .inr fun z => this ⟨h1, z⟩
    · exact .inl h1
@[simp] theorem fEq_fr (a b : Rat) : fEq (fr a) (fr b) = some (.bool (decide (a = b))) := by
  have e : fEqS (fr a) (fr b) = none := rfl
  simp [fEq, e, fEqD, shaped_fr, eqv_fr]
@[simp] theorem fNe_fr (a b : Rat) : fNe (fr a) (fr b) = some (.bool (!decide (a = b))) := by
  have e : fNeS (fr a) (fr b) = none := rfl
  simp [fNe, e, fNeD, shaped_fr, eqv_fr]
theorem zero_fr : ZEROd = fr 0 := rfl
theorem one_fr : ONEd = fr 1 := rfl
theorem at_range {α : Type} {n i : Nat} (g : Nat → α) (h : i < n) : atI ((List.range n).map g) (i : Int) = some (g i) := by
  rw [at_nat]
  simp [h]
def rowD (n : Nat) (f : Nat → Nat → Rat) (i : Nat) : PyData := .tuple ((List.range n).map fun j => fr (f i j))
theorem bk_eq (n : Nat) (told : Nat → Rat) (f : Nat → Nat → Rat) : bk n told f = .tuple ((List.range n).map fun i => .tuple [.tuple [fr (told i), rowD n f i]]) := rfl
section
variable {n : Nat} {told : Nat → Rat} {f : Nat → Nat → Rat} {i j : Nat}
@[simp] theorem bk_at (hi : i < n) : fIx (bk n told f) (.int (i : Int)) = some (.tuple [.tuple [fr (told i), rowD n f i]]) := by
  rw [bk_eq]
  exact at_range _ hi
@[simp] theorem row_at (hj : j < n) : fIx (rowD n f i) (.int (j : Int)) = some (fr (f i j)) := at_range _ hj
@[simp] theorem bk_len : fLen [bk n told f] = some (.int (n : Int)) := by simp [bk]
@[simp] theorem row_len : fLen [rowD n f i] = some (.int (n : Int)) := by simp [rowD]
theorem factor_ok (hi : i < n) (hj : j < n) : F_factor_of [bk n told f, .int (i : Int), .int (j : Int)] = .ok (fr (f i j)) := by
  unfold F_factor_of fnP ev_factor_of
  simp [hi, hj, frz]
end
theorem Sm.of200 {q : Rat} {N D : Nat} (h : Bd N D q) (hN : N ≤ 2 ^ 200) (hD : D ≤ 2 ^ 200) : Sm q := h.sm (two400 hN) (two400 hD)
theorem sm0 : Sm 0 := Sm.of200 (N := 0) (D := 1) ⟨by decide, by decide⟩ (by decide) (by decide)
theorem sm1 : Sm 1 := Sm.of200 (N := 1) (D := 1) ⟨by decide, by decide⟩ (by decide) (by decide)
/-- what is needed of an even book -/
structure Ebk (n : Nat) (f : Nat → Nat → Rat) (p : Nat → Rat) : Prop where
  pot : Pot n f p
  n1 : 1 ≤ n
  n5 : n ≤ 5
  fb : ∀ i j, i < n → j < n → Bd 2 12 (f i j)
  pb : ∀ i j, i < n → j < n → Bd 4 4 (p i / p j)
theorem Even.ebk {n : Nat} {f : Nat → Nat → Rat} (h : Even n f) : ∃ p, Ebk n f p := by
  obtain ⟨s, h1, h2, h3⟩ := h.pot
  refine ⟨_, h2, h.n1, h.n5, h3, fun i j hi hj => ?_⟩
  have a := h1 i hi
  have b := h1 j hj
  show Bd 4 4 ((s i : Rat) / (s j : Rat))
  rw [← Rat.divInt_eq_div]
  exact Bd.of_divInt (by omega) (by omega) (by omega)
section
variable {n : Nat} {told : Nat → Rat} {f : Nat → Nat → Rat} {p : Nat → Rat} {h o : Nat}
theorem Ebk.fs (E : Ebk n f p) {i j : Nat} (hi : i < n) (hj : j < n) : Sm (f i j) := Sm.of200 (E.fb i j hi hj) (by decide) (by decide)
theorem Ebk.ps (E : Ebk n f p) {i j : Nat} (hi : i < n) (hj : j < n) : Sm (p i / p j) := Sm.of200 (E.pb i j hi hj) (by decide) (by decide)
theorem beside_ok (E : Ebk n f p) (hh : h < n) (ho : o < n) (hf : f h o ≠ 0) {v : Rat} (hv : Sm v) : F_scale_beside [bk n told f, .int (h : Int), .int (o : Int), fr v] = .ok (fr (v * (f h o / f o h))) := by
  have h0 : f o h ≠ 0 := fun z => hf (E.pot.zero ho hh z)
  have e1 := factor_ok (told := told) (f := f) hh ho
  have e2 := factor_ok (told := told) (f := f) ho hh
  have e3 := F_over_ok (E.fs hh ho) (E.fs ho hh) h0
  have rt := E.pot.ratio hh ho hf
  have sr : Sm (f h o / f o h) := by rw [rt]; exact E.ps ho hh
  have e4 := F_compare_ok sr sm0
  have pos : 0 < f h o / f o h := by
    rw [rt]
    have a := E.pot.pos o ho
    have b := E.pot.pos h hh
    rw [Rat.div_def]
    exact Rat.mul_pos a (Rat.inv_pos.mpr b)
  have sg : sgn (f h o / f o h) 0 = 1 := by
    unfold sgn
    rw [if_pos pos, if_neg (by grind)]
    rfl
  rw [sg] at e4
  have e5 := F_times_ok hv sr
  unfold F_scale_beside fnP ev_scale_beside
  simp [frz, bindTs, bindT, e1, e2, e3, zero_fr, h0, e4, e5, noL]
end
end P55

set_option Elab.async false
set_option linter.all false
set_option maxRecDepth 100000
set_option maxHeartbeats 1000000
/-! Both texts go along the links alike. -/
namespace P55
open PySem PySem.Spec PyProof.Rows L2 Zd

/-- the dict holds what is told -/
structure En (n : Nat) (kvs : List (Key × PyData)) (σ : Sg) : Prop where
  at_ : ∀ i : Nat, i < n → lk kvs (.inl (i : Int)) = (σ i).map fr
  len : kvs.length + unt σ n ≤ n
theorem En.small {n : Nat} {kvs : List (Key × PyData)} {σ : Sg} (h : En n kvs σ) (hn : n ≤ 5) : kvs.length < sizeLine := small1000 (by have := h.len; omega)
theorem En.put {n : Nat} {kvs : List (Key × PyData)} {σ : Sg} (h : En n kvs σ) {o : Nat} (ho : o < n) (hs : σ o = none) (q : Rat) : En n (pt kvs (.inl (o : Int)) (fr q)) (put σ o q) := by
  refine ⟨fun i hi => ?_, ?_⟩
  · rw [lk_pt]
    by_cases e : i = o
    · subst e
      simp [P55.put]
    · have e2 : ¬ ((.inl (i : Int) : Key) = .inl (o : Int)) := fun z => e (by have := Sum.inl.inj z; omega)
      rw [if_neg e2, h.at_ i hi]
      simp [P55.put, e]
  · have h1 := pt_len kvs (.inl (o : Int) : Key) (fr q)
    have h2 := unt_put (q := q) hs n
    rw [if_pos ho] at h2
    have := h.len
    omega
@[simp] theorem isN_fr (q : Rat) : isNoneB (fr q) = false := rfl
def intsD (L : List Nat) : List PyData := L.map fun (i : Nat) => PyData.int (i : Int)
@[simp] theorem intsD_len (L : List Nat) : (intsD L).length = L.length := by simp [intsD]
@[simp] theorem intsD_snoc (L : List Nat) (o : Nat) : intsD (L ++ [o]) = intsD L ++ [.int (o : Int)] := by simp [intsD]
section
variable {n : Nat} {told : Nat → Rat} {f : Nat → Nat → Rat} {p : Nat → Rat} {h o : Nat} {κ : Rat} {s : Sg × List Nat} {kvs : List (Key × PyData)} {ex : Store}
theorem Iv.cur_sm (E : Ebk n f p) (I : Iv n f p κ (some h) s) : h < n ∧ s.1 h = some (p h * κ) ∧ Sm (p h * κ) := by
  obtain ⟨hh, hv⟩ := I.cur h (.inr rfl)
  obtain ⟨r, hr, e⟩ := I.val h _ hh hv
  exact ⟨hh, hv, by rw [e]; exact E.ps hh hr⟩
/-- one neighbour looked at, the program's text -/
theorem prog_step (E : Ebk n f p) (I : Iv n f p κ (some h) s) (ho : o < n) (hD : En n kvs s.1) (hL : s.2.length ≤ 10) {x2 e7 e8 : Option D} :
    ∃ kvs', p_scales_of_2_b_2_b_1_bx [some (.pd (bk n told f)), some (.ref 0), x2, some (.ref (ex.length + 1)), some (.pd (.int (h : Int))), some (.pd (.int (o : Int))), none, e7, e8] (.dic kvs :: (ex ++ [.lst (intsD s.2)])) =
      .ok ((.nx, [some (.pd (bk n told f)), some (.ref 0), x2, some (.ref (ex.length + 1)), some (.pd (.int (h : Int))), none, none, e7, e8]), .dic kvs' :: (ex ++ [.lst (intsD (stp f h s o).2)])) ∧ En n kvs' (stp f h s o).1 := by
  obtain ⟨hh, hv, sv⟩ := I.cur_sm E
  have e1 := factor_ok (told := told) (f := f) hh ho
  have e2 := factor_ok (told := told) (f := f) ho hh
  have dh := hD.at_ h hh
  have d0 := hD.at_ o ho
  rw [hv] at dh
  have dh' : lk kvs (.inl (h : Int)) = some (fr (p h * κ)) := dh
  unfold stp
  by_cases hz : f h o = 0
  · have hz2 := E.pot.zero hh ho hz
    rw [if_pos hz]
    refine ⟨kvs, ?_, hD⟩
    simp [p_scales_of_2_b_2_b_1_bx, p_scales_of_2_b_2_b_1_b, p_scales_of_2_b_2_b_1_be, e1, e2, zero_fr, hz, hz2, wipeE]
  · rw [if_neg hz]
    have bs := beside_ok (told := told) E hh ho hz sv
    cases hs : s.1 o with
    | some w =>
      have fit := I.fits E.pot ho hs hz
      rw [hs] at d0
      have d0' : lk kvs (.inl (o : Int)) = some (fr w) := d0
      refine ⟨kvs, ?_, hD⟩
      simp [p_scales_of_2_b_2_b_1_bx, p_scales_of_2_b_2_b_1_b, p_scales_of_2_b_2_b_1_bt_0, p_scales_of_2_b_2_b_1_bt_1, p_scales_of_2_b_2_b_1_bt_2, e1, zero_fr, hz, dh', bs, bindT, isN_fr, d0', ← fit, wipeE]
    | none =>
      rw [hs] at d0
      have d0' : lk kvs (.inl (o : Int)) = none := d0
      have sm := hD.small E.n5
      refine ⟨pt kvs (.inl (o : Int)) (fr (p h * κ * (f h o / f o h))), ?_, ?_⟩
      · have dp := v_dP0 kvs (ex ++ [.lst (intsD s.2)]) (o : Int) (fr (p h * κ * (f h o / f o h))) sm
        have hl : s.2.length < sizeLine := small1000 (by omega)
        simp [p_scales_of_2_b_2_b_1_bx, p_scales_of_2_b_2_b_1_b, p_scales_of_2_b_2_b_1_bt_0, p_scales_of_2_b_2_b_1_bt_1, p_scales_of_2_b_2_b_1_bt_2, p_scales_of_2_b_2_b_1_bt_2t_0, p_scales_of_2_b_2_b_1_bt_2t_1, e1, zero_fr, hz, dh', bs, bindT, isN_fr, d0', dp, hl, wipeE]
      · simp only [hv]
        exact hD.put ho hs _
end
end P55

set_option Elab.async false
set_option linter.all false
set_option maxRecDepth 100000
set_option maxHeartbeats 1000000
/-! The program's scales. -/
namespace P55
open PySem PySem.Spec PyProof.Rows L2 Zd
theorem range_item {n j : Nat} {d : D} (hd : ((List.range n).map fun (k : Nat) => D.pd (.int (k : Int)))[j]? = some d) : j < n ∧ d = .pd (.int (j : Int)) := by
  simp only [List.getElem?_map, Option.map_eq_some_iff] at hd
  obtain ⟨j', hj, rfl⟩ := hd
  obtain ⟨h1, h2⟩ := List.getElem?_eq_some_iff.mp hj
  simp at h1 h2
  subst h2
  exact ⟨h1, rfl⟩
theorem whl_nil {f : Nat → Nat → Rat} {n k : Nat} {s : Sg × List Nat} (h : s.2 = []) : whl f n k s = s := by
  cases k with
  | zero => rfl
  | succ k => simp [whl, h]
section
variable {n : Nat} {told : Nat → Rat} {f : Nat → Nat → Rat} {p : Nat → Rat} {h o : Nat} {κ : Rat} {s : Sg × List Nat} {kvs : List (Key × PyData)} {ex : Store}
theorem prog_inner (E : Ebk n f p) (I : Iv n f p κ (some h) s) (hD : En n kvs s.1) (hL : unt s.1 n + s.2.length ≤ 10) {x2 e7 e8 : Option D} :
    ∃ kvs', p_scales_of_2_b_2_b_1 [some (.pd (bk n told f)), some (.ref 0), x2, some (.ref (ex.length + 1)), some (.pd (.int (h : Int))), none, none, e7, e8] (.dic kvs :: (ex ++ [.lst (intsD s.2)])) =
      .ok ((.nx, [some (.pd (bk n told f)), some (.ref 0), x2, some (.ref (ex.length + 1)), some (.pd (.int (h : Int))), none, none, e7, e8]), .dic kvs' :: (ex ++ [.lst (intsD (inn f h s n).2)])) ∧ En n kvs' (inn f h s n).1 := by
  obtain ⟨env', μ', h1, kvs', rfl, rfl, h2⟩ := for_rel (T := .nm 5) (b := p_scales_of_2_b_2_b_1_bx) (ei := iRg1 (eCall fLen (aCons (eVar 0) aNil)))
    (env := [some (.pd (bk n told f)), some (.ref 0), x2, some (.ref (ex.length + 1)), some (.pd (.int (h : Int))), none, none, e7, e8]) (μ := .dic kvs :: (ex ++ [.lst (intsD s.2)])) (μ1 := .dic kvs :: (ex ++ [.lst (intsD s.2)]))
    (fun j env μ => ∃ kvs', env = [some (.pd (bk n told f)), some (.ref 0), x2, some (.ref (ex.length + 1)), some (.pd (.int (h : Int))), none, none, e7, e8] ∧ μ = .dic kvs' :: (ex ++ [.lst (intsD (inn f h s j).2)]) ∧ En n kvs' (inn f h s j).1)
    (rg1_ok (n := n) (by simp) (by have := E.n5; omega)) ⟨kvs, rfl, rfl, hD⟩ (fun _ _ _ _ => held_nil) (fun j d env μ hd hp => by
      obtain ⟨kv1, rfl, rfl, g1⟩ := hp
      obtain ⟨hj, rfl⟩ := range_item hd
      obtain ⟨i1, i2⟩ := inn_iv E.pot I j (by omega)
      have sz := inn_size (f := f) (h := h) (s := s) (n := n) j (by omega)
      obtain ⟨kv2, q1, q2⟩ := prog_step (told := told) (ex := ex) (x2 := x2) (e7 := e7) (e8 := e8) E i1 hj g1 (by omega)
      exact ⟨[some (.pd (bk n told f)), some (.ref 0), x2, some (.ref (ex.length + 1)), some (.pd (.int (h : Int))), some (.pd (.int (j : Int))), none, e7, e8], _, _, by simp [bindT], .inl q1, kv2, rfl, rfl, q2⟩)
  rw [List.length_map, List.length_range] at h2
  refine ⟨kvs', ?_, h2⟩
  rw [List.length_map, List.length_range] at h1
  exact h1
theorem prog_while (E : Ebk n f p) (I : Iv n f p κ none s) (hD : En n kvs s.1) (hL : unt s.1 n + s.2.length ≤ 2 * n) {x2 e7 e8 : Option D} :
    ∃ kvs', p_scales_of_2_b_2 [some (.pd (bk n told f)), some (.ref 0), x2, some (.ref (ex.length + 1)), none, none, none, e7, e8] (.dic kvs :: (ex ++ [.lst (intsD s.2)])) =
      .ok ((.nx, [some (.pd (bk n told f)), some (.ref 0), x2, some (.ref (ex.length + 1)), none, none, none, e7, e8]), .dic kvs' :: (ex ++ [.lst []])) ∧ En n kvs' (whl f n (2 * n) s).1 := by
  obtain ⟨env', μ', h1, rfl, kvs', rfl, h2⟩ := while_rel (t := p_scales_of_2_b_2_c) (b := p_scales_of_2_b_2_b)
    (fun k env μ => ∃ s' kvs', env = [some (.pd (bk n told f)), some (.ref 0), x2, some (.ref (ex.length + 1)), none, none, none, e7, e8] ∧ μ = .dic kvs' :: (ex ++ [.lst (intsD s'.2)]) ∧ Iv n f p κ none s' ∧ En n kvs' s'.1 ∧ unt s'.1 n + s'.2.length ≤ k ∧ k ≤ 2 * n ∧ whl f n k s' = whl f n (2 * n) s)
    (fun env μ => env = [some (.pd (bk n told f)), some (.ref 0), x2, some (.ref (ex.length + 1)), none, none, none, e7, e8] ∧ ∃ kvs', μ = .dic kvs' :: (ex ++ [.lst []]) ∧ En n kvs' (whl f n (2 * n) s).1)
    (fun k env μ hp => by
      obtain ⟨s', kv1, rfl, rfl, I1, g1, g2, g3, g4⟩ := hp
      cases hl : s'.2.getLast? with
      | none =>
        have e : s'.2 = [] := List.getLast?_eq_none_iff.mp hl
        refine .inl ⟨_, ?_, rfl, kv1, rfl, ?_⟩
        · simp [p_scales_of_2_b_2_c, e, truD, intsD]
        · rw [← g4, whl_nil e]
          exact g1
      | some h =>
        have hne : s'.2 ≠ [] := fun z => by rw [z] at hl; cases hl
        have hp : 0 < s'.2.length := List.length_pos_iff.mpr hne
        have hd : s'.2.dropLast.length = s'.2.length - 1 := List.length_dropLast ..
        obtain ⟨k', rfl⟩ : ∃ k', k = k' + 1 := ⟨k - 1, by omega⟩
        have I2 := pop_iv I1 hl
        obtain ⟨kv2, q1, q2⟩ := prog_inner (told := told) (ex := ex) (s := (s'.1, s'.2.dropLast)) (x2 := x2) (e7 := e7) (e8 := e8) E I2 g1 (by have := E.n5; simp only [hd]; omega)
        obtain ⟨i1, i2⟩ := inn_iv E.pot I2 n (Nat.le_refl _)
        have sz := inn_size (f := f) (h := h) (s := (s'.1, s'.2.dropLast)) (n := n) n (Nat.le_refl _)
        have hge : (intsD s'.2).getLast? = some (.int (h : Int)) := by simp [intsD, List.getLast?_map, hl]
        have hdl : (intsD s'.2).dropLast = intsD s'.2.dropLast := by simp [intsD, List.map_dropLast]
        have hnil : intsD s'.2 ≠ [] := fun z => hne (by simpa [intsD] using z)
        refine .inr ⟨.dic kv1 :: (ex ++ [.lst (intsD s'.2)]), _, .dic kv2 :: (ex ++ [.lst (intsD (inn f h (s'.1, s'.2.dropLast) n).2)]), k', ?_, .inl ?_, by omega, _, kv2, rfl, rfl, done_iv i1 i2, q2, by simp only [hd] at sz; omega, by omega, ?_⟩
        · simp [p_scales_of_2_b_2_c, truD, hnil]
        · have s0 : p_scales_of_2_b_2_b_0 [some (.pd (bk n told f)), some (.ref 0), x2, some (.ref (ex.length + 1)), none, none, none, e7, e8] (.dic kv1 :: (ex ++ [.lst (intsD s'.2)])) =
              .ok ((.nx, [some (.pd (bk n told f)), some (.ref 0), x2, some (.ref (ex.length + 1)), some (.pd (.int (h : Int))), none, none, e7, e8]), .dic kv1 :: (ex ++ [.lst (intsD s'.2.dropLast)])) := by
            simp [p_scales_of_2_b_2_b_0, bindT, hge, hdl]
          unfold p_scales_of_2_b_2_b
          rw [v_forget, seq_nx s0, q1]
          rfl
        · rw [← g4]
          conv => rhs; unfold whl
          rw [hl])
    (2 * n) _ _ ⟨s, kvs, rfl, rfl, I, hD, hL, Nat.le_refl _, rfl⟩
  exact ⟨kvs', h1, h2⟩
end
end P55

set_option Elab.async false
set_option linter.all false
set_option maxRecDepth 100000
set_option maxHeartbeats 1000000
/-! The program's scales, whole. -/
namespace P55
open PySem PySem.Spec PyProof.Rows L2 Zd
theorem tp_ok {a : EvE} {env : Zd.Env} {μ μ1 : Store} {ds : List PyData} (h : a env μ = .ok (.pd (.tuple ds), μ1)) : iTp a env μ = .ok ((ds.map .pd, []), μ1) := by
  unfold iTp
  rw [h]
  rfl
theorem boolsOf_fun {α : Type} (b : α → Bool) (l : List α) : boolsOf (l.map fun x => PyData.bool (b x)) = some (l.map b) := by
  induction l with
  | nil => rfl
  | cons x r ih => simp [boolsOf, ih]
theorem any_fun {α : Type} (b : α → Bool) (l : List α) : fAny [.list (l.map fun x => PyData.bool (b x))] = some (.bool (l.any b)) := by
  simp [fAny, boolsOf_fun]
def cellB (n : Nat) (told : Nat → Rat) (f : Nat → Nat → Rat) (i : Nat) : PyData := .tuple [.tuple [fr (told i), rowD n f i]]
theorem bk_cells (n : Nat) (told : Nat → Rat) (f : Nat → Nat → Rat) : bk n told f = .tuple ((List.range n).map (cellB n told f)) := rfl
section
variable {n : Nat} {told : Nat → Rat} {f : Nat → Nat → Rat} {p : Nat → Rat} {kvs : List (Key × PyData)} {ex : Store}
theorem lookA {e1 e2 e3 e4 e5 e6 e7 e8 : Option D} {μ : Store} (n5 : n ≤ 5) : eLcD [7] (.nm 7) (iTp (eVar 0)) tYesE (eOp2 fGt (eCall fLen (aCons (eVar 7) aNil)) (eC (.int 1))) [some (.pd (bk n told f)), e1, e2, e3, e4, e5, e6, e7, e8] μ = .ok ((List.range n).map (fun _ => D.pd (.bool false)), μ) := by
  have c1 := comp_mapA (g := []) (T := .nm 7) (μ := μ) (elt := eOp2 fGt (eCall fLen (aCons (eVar 7) aNil)) (eC (.int 1))) (env := wipeE [some (.pd (bk n told f)), e1, e2, e3, e4, e5, e6, e7, e8] [7]) held_nil (fun i => D.pd (cellB n told f i)) (fun _ => D.pd (.bool false)) (List.range n) (fun i hi =>
    ⟨[some (.pd (bk n told f)), e1, e2, e3, e4, e5, e6, some (.pd (cellB n told f i)), e8], by simp [bindT, wipeE], by simp [cellB]⟩)
  have i1 : iTp (eVar 0) [some (.pd (bk n told f)), e1, e2, e3, e4, e5, e6, e7, e8] μ = .ok (((List.range n).map (fun i => D.pd (cellB n told f i)), []), μ) := by
    have := tp_ok (a := eVar 0) (env := [some (.pd (bk n told f)), e1, e2, e3, e4, e5, e6, e7, e8]) (μ := μ) (μ1 := μ) (ds := (List.range n).map (cellB n told f)) (v_var 0 rfl)
    rw [List.map_map] at this
    exact this
  exact lcD_eq i1 (by rw [List.length_map, List.length_range]; exact sizeLine_ge (by omega)) c1
theorem lookB (E : Ebk n f p) {e1 e2 e3 e4 e5 e6 e7 e8 : Option D} {μ : Store} : eLcD [8] (.nm 8) (iRg1 (eCall fLen (aCons (eVar 0) aNil))) tYesE (eOp2 fNe (eCallP F_factor_of (aCons (eVar 0) (aCons (eVar 8) (aCons (eVar 8) aNil)))) (eC ZEROd)) [some (.pd (bk n told f)), e1, e2, e3, e4, e5, e6, e7, e8] μ = .ok ((List.range n).map (fun _ => D.pd (.bool false)), μ) := by
  have n5 := E.n5
  have c2 := comp_mapA (g := []) (T := .nm 8) (μ := μ) (elt := eOp2 fNe (eCallP F_factor_of (aCons (eVar 0) (aCons (eVar 8) (aCons (eVar 8) aNil)))) (eC ZEROd)) (env := wipeE [some (.pd (bk n told f)), e1, e2, e3, e4, e5, e6, e7, e8] [8]) held_nil (fun i : Nat => D.pd (.int (i : Int))) (fun _ => D.pd (.bool false)) (List.range n) (fun i hi => by
    simp at hi
    have hf := factor_ok (told := told) (f := f) hi hi
    rw [E.pot.diag i hi] at hf
    exact ⟨[some (.pd (bk n told f)), e1, e2, e3, e4, e5, e6, e7, some (.pd (.int (i : Int)))], by simp [bindT, wipeE], by simp [hf, zero_fr]⟩)
  exact lcD_eq (rg1_ok (n := n) (by simp) (by omega)) (by rw [List.length_map, List.length_range]; exact sizeLine_ge (by omega)) c2
theorem anyA (n : Nat) : fAny [.list ((List.range n).map fun _ => PyData.bool false)] = some (.bool false) := by
  rw [any_fun (fun _ : Nat => false) (List.range n)]
  simp
theorem anyE {L : EvA} {env : Zd.Env} {μ : Store} (h : L env μ = .ok ((List.range n).map (fun _ => D.pd (.bool false)), μ)) : eTst (eCall fAny (aCons (eFrz (asF L)) aNil)) env μ = .ok (false, μ) := by
  rw [v_tst, v_call, v_acons, v_frz, v_asF, h, Out.ok_bind]
  dsimp only
  rw [pdAll_fun]
  dsimp only [Out.ok_bind, Out.bind, aNil]
  rw [v_derefs1, v_derefs0]
  dsimp only [Option.map]
  rw [anyA]
theorem prog_look (E : Ebk n f p) {e1 e2 e3 e4 e5 e6 e7 e8 : Option D} {μ : Store} : p_scales_of_0 [some (.pd (bk n told f)), e1, e2, e3, e4, e5, e6, e7, e8] μ = .ok ((.nx, [some (.pd (bk n told f)), e1, e2, e3, e4, e5, e6, e7, e8]), μ) := by
  have l1 := anyE (lookA (told := told) (f := f) (e1 := e1) (e2 := e2) (e3 := e3) (e4 := e4) (e5 := e5) (e6 := e6) (e7 := e7) (e8 := e8) (μ := μ) E.n5)
  have l2 := anyE (lookB (told := told) (e1 := e1) (e2 := e2) (e3 := e3) (e4 := e4) (e5 := e5) (e6 := e6) (e7 := e7) (e8 := e8) (μ := μ) E)
  unfold p_scales_of_0
  rw [v_sif, v_orT, l1, Out.ok_bind, if_neg Bool.false_ne_true, l2, Out.ok_bind, if_neg Bool.false_ne_true, v_nil]
theorem prog_first (E : Ebk n f p) {m : Nat} (hm : m < n) (hD : En n kvs (scl f n m)) {e7 e8 : Option D} :
    ∃ kvs', p_scales_of_2_b [some (.pd (bk n told f)), some (.ref 0), some (.pd (.int (m : Int))), none, none, none, none, e7, e8] (.dic kvs :: ex) =
      .ok ((.nx, [some (.pd (bk n told f)), some (.ref 0), none, none, none, none, none, e7, e8]), .dic kvs' :: (ex ++ [.lst []])) ∧ En n kvs' (scl f n (m + 1)) := by
  have T := (scl_told E.pot m (by omega)).1
  obtain ⟨j1, j2, j3, j4⟩ := ini_iv E.pot T hm
  have n5 := E.n5
  have sm := hD.small n5
  have dm := hD.at_ m hm
  have sl1 : (1 : Nat) ≤ sizeLine := sizeLine_ge (by decide)
  -- the line and the told scale
  have step : ∃ kv1, p_scales_of_2_b_0 [some (.pd (bk n told f)), some (.ref 0), some (.pd (.int (m : Int))), none, none, none, none, e7, e8] (.dic kvs :: ex) =
        .ok ((.nx, [some (.pd (bk n told f)), some (.ref 0), some (.pd (.int (m : Int))), some (.ref (ex.length + 1)), none, none, none, e7, e8]), .dic kvs :: (ex ++ [.lst (intsD (ini (scl f n m) m).2)])) ∧
      p_scales_of_2_b_1 [some (.pd (bk n told f)), some (.ref 0), some (.pd (.int (m : Int))), some (.ref (ex.length + 1)), none, none, none, e7, e8] (.dic kvs :: (ex ++ [.lst (intsD (ini (scl f n m) m).2)])) =
        .ok ((.nx, [some (.pd (bk n told f)), some (.ref 0), some (.pd (.int (m : Int))), some (.ref (ex.length + 1)), none, none, none, e7, e8]), .dic kv1 :: (ex ++ [.lst (intsD (ini (scl f n m) m).2)])) ∧ En n kv1 (ini (scl f n m) m).1 := by
    unfold ini
    cases hs : scl f n m m with
    | some w =>
      rw [hs] at dm
      have dm' : lk kvs (.inl (m : Int)) = some (fr w) := dm
      have dp := v_dP0 kvs (ex ++ [.lst (intsD [])]) (m : Int) ONEd sm
      refine ⟨kvs, ?_, ?_, hD⟩
      · simp [p_scales_of_2_b_0, dm', bindT, intsD, sizeLine_ge]
      · simp [p_scales_of_2_b_1, dm', dp]
    | none =>
      rw [hs] at dm
      have dm' : lk kvs (.inl (m : Int)) = none := dm
      have dp := v_dP0 kvs (ex ++ [.lst (intsD [m])]) (m : Int) ONEd sm
      refine ⟨pt kvs (.inl (m : Int)) (fr 1), ?_, ?_, hD.put hm hs 1⟩
      · simp [p_scales_of_2_b_0, dm', bindT, intsD, sl1]
      · simp [p_scales_of_2_b_1, dm', dp]
        rfl
  obtain ⟨kv1, s0, s1, hD1⟩ := step
  obtain ⟨kv2, q1, q2⟩ := prog_while (told := told) (ex := ex) (x2 := some (.pd (.int (m : Int)))) (e7 := e7) (e8 := e8) E j1 hD1 j4
  refine ⟨kv2, ?_, q2⟩
  unfold p_scales_of_2_b
  rw [v_forget, seq_nx s0, seq_nx s1, q1]
  rfl
theorem scales_ok (E : Ebk n f p) : F_scales_of [bk n told f] = .ok (.tuple ((List.range n).map fun i => fr (sca f n i))) := by
  have n5 := E.n5
  obtain ⟨env', μ', h1, kvs', ex', rfl, rfl, h2⟩ := for_rel (T := .nm 2) (b := p_scales_of_2_b) (ei := iRg1 (eCall fLen (aCons (eVar 0) aNil)))
    (env := [some (.pd (bk n told f)), some (.ref 0), none, none, none, none, none, none, none]) (μ := [.dic []]) (μ1 := [.dic []])
    (fun m env μ => ∃ kvs ex, env = [some (.pd (bk n told f)), some (.ref 0), none, none, none, none, none, none, none] ∧ μ = .dic kvs :: ex ∧ En n kvs (scl f n m))
    (rg1_ok (n := n) (by simp) (by omega)) ⟨[], [], rfl, rfl, fun i _ => rfl, by have := unt_le (scl f n 0) n; simpa using this⟩ (fun _ _ _ _ => held_nil) (fun j d env μ hd hp => by
      obtain ⟨kv1, ex1, rfl, rfl, g1⟩ := hp
      obtain ⟨hj, rfl⟩ := range_item hd
      obtain ⟨kv2, q1, q2⟩ := prog_first (told := told) (ex := ex1) (e7 := none) (e8 := none) E hj g1
      exact ⟨[some (.pd (bk n told f)), some (.ref 0), some (.pd (.int (j : Int))), none, none, none, none, none, none], _, _, by simp [bindT], .inl q1, kv2, _, rfl, rfl, q2⟩)
  rw [List.length_map, List.length_range] at h2
  have s0 := prog_look (told := told) (e1 := none) (e2 := none) (e3 := none) (e4 := none) (e5 := none) (e6 := none) (e7 := none) (e8 := none) (μ := []) E
  have s1 : p_scales_of_1 [some (.pd (bk n told f)), none, none, none, none, none, none, none, none] [] = .ok ((.nx, [some (.pd (bk n told f)), some (.ref 0), none, none, none, none, none, none, none]), [.dic []]) := by
    simp [p_scales_of_1, bindT]
  have c3 := comp_mapA (g := []) (T := .nm 7) (μ := .dic kvs' :: ex') (elt := eDGet (eVar 1) (eVar 7)) (env := wipeE [some (.pd (bk n told f)), some (.ref 0), none, none, none, none, none, none, none] [7]) held_nil (fun i : Nat => D.pd (.int (i : Int))) (fun i => D.pd (fr (sca f n i))) (List.range n) (fun i hi => by
    simp at hi
    have dm := h2.at_ i hi
    rw [sca_some E.pot hi] at dm
    have dm' : lk kvs' (.inl (i : Int)) = some (fr (sca f n i)) := dm
    exact ⟨[some (.pd (bk n told f)), some (.ref 0), none, none, none, none, none, some (.pd (.int (i : Int))), none], by simp [bindT, wipeE], by simp [dm']⟩)
  have i3 := rg1_ok (a := eCall fLen (aCons (eVar 0) aNil)) (env := [some (.pd (bk n told f)), some (.ref 0), none, none, none, none, none, none, none]) (μ := .dic kvs' :: ex') (μ1 := .dic kvs' :: ex') (n := n) (by simp) (by omega)
  have l3 := lcD_eq (vs := [7]) i3 (by simp; exact sizeLine_ge (by omega)) c3
  have s3 : p_scales_of_3 [some (.pd (bk n told f)), some (.ref 0), none, none, none, none, none, none, none] (.dic kvs' :: ex') = .ok ((.rt (.pd (.tuple ((List.range n).map fun i => fr (sca f n i)))), [some (.pd (bk n told f)), some (.ref 0), none, none, none, none, none, none, none]), .dic kvs' :: ex') := by
    unfold p_scales_of_3
    simp [l3]
  exact fnP_run ((congrFun (congrFun parts_scales_of _) _).trans ((seq_nx s0).trans ((seq_nx s1).trans ((seq_nx h1).trans s3)))) rfl rfl
theorem need_ok (E : Ebk n f p) : F_need_scales [bk n told f] = .ok (.tuple ((List.range n).map fun i => fr (sca f n i))) := by
  have h := scales_ok (told := told) E
  unfold F_need_scales fnP ev_need_scales
  simp [h, bindT, isNoneB, frz]
end
end P55

set_option Elab.async false
set_option linter.all false
set_option maxRecDepth 100000
set_option maxHeartbeats 1000000
/-! The law's scales. -/
namespace P55
open PySem PySem.Spec PyProof.Rows L2 Zd
theorem ints_lay : ∀ L : List Nat, PyData.canLayAll0 (intsD L) = true
  | [] => rfl
  | i :: r => by
    have := ints_lay r
    simp only [intsD] at this ⊢
    simp [PyData.canLayAll0, PyData.canLay0, this]
theorem ints_depth : ∀ L : List Nat, PyData.depthAll (intsD L) ≤ 0
  | [] => Nat.le_refl _
  | i :: r => by
    have := ints_depth r
    simp only [intsD] at this ⊢
    simp [PyData.depthAll, PyData.depth]
    simpa using this
theorem ne_nil (L : List Nat) : fNe (.list (intsD L)) (.list []) = some (.bool (!L.isEmpty)) := by
  have e : fNeS (.list (intsD L)) (.list []) = none := rfl
  have h1 : SeqAt.shaped (.list (intsD L)) = true := by
    have := ints_lay L
    have := ints_depth L
    simp [SeqAt.shaped, PyData.canLay0, PyData.depth, *]
    omega
  have h2 : SeqAt.shaped (.list []) = true := rfl
  have h3 : PyData.eqv (.list (intsD L)) (.list []) = L.isEmpty := by
    cases L <;> rfl
  simp [fNe, e, fNeD, h1, h2, h3]
def rowsD (n : Nat) (f : Nat → Nat → Rat) : PyData := .list ((List.range n).map (rowD n f))
section
variable {n : Nat} {told : Nat → Rat} {f : Nat → Nat → Rat} {p : Nat → Rat} {h o : Nat} {κ : Rat} {s : Sg × List Nat} {kvs : List (Key × PyData)} {ex : Store}
@[simp] theorem rows_at {i : Nat} (hi : i < n) : fIx (rowsD n f) (.int (i : Int)) = some (rowD n f i) := at_range _ hi
theorem rat_pos_num {q : Rat} : 0 < q ↔ 0 < q.num := by
  rw [Rat.lt_iff]
  simp
theorem rat_neg_num {q : Rat} : q < 0 ↔ q.num < 0 := by
  rw [Rat.lt_iff]
  simp
theorem num_pos_mul (E : Ebk n f p) (hh : h < n) (ho : o < n) (hz : f h o ≠ 0) : 0 < (f h o).num * (f o h).num := by
  have sy := E.pot.sym h o hh ho
  have hz2 : f o h ≠ 0 := fun z => hz (E.pot.zero ho hh z)
  have a := E.pot.pos o ho
  have b := E.pot.pos h hh
  have n0 : (f h o).num ≠ 0 := num_ne hz
  have n1 : (f o h).num ≠ 0 := num_ne hz2
  rcases Int.lt_trichotomy (f o h).num 0 with g | g | g
  · have g2 : 0 < -(f o h) := by have := rat_neg_num.mpr g; grind
    have m1 := Rat.mul_pos g2 a
    have g4 : (f h o).num < 0 := by
      refine Int.lt_of_not_ge fun z => ?_
      have := Rat.mul_pos (rat_pos_num.mpr (show 0 < (f h o).num by omega)) b
      grind
    exact Int.mul_pos_of_neg_of_neg g4 g
  · exact absurd g n1
  · have g2 := rat_pos_num.mpr g
    have m1 := Rat.mul_pos g2 a
    have g4 : 0 < (f h o).num := by
      refine Int.lt_of_not_ge fun z => ?_
      have q : f h o < 0 := rat_neg_num.mpr (by omega)
      have q2 : 0 < -(f h o) := by grind
      have := Rat.mul_pos q2 b
      grind
    exact Int.mul_pos g4 g
theorem law_step (E : Ebk n f p) (I : Iv n f p κ (some h) s) (ho : o < n) (hD : En n kvs s.1) (hL : s.2.length ≤ 10) {x0 x3 e8 : Option D} :
    ∃ kvs' fl, (fl = .nx ∨ fl = .ct) ∧ p_law_scales_2_b_2_b_1_b [x0, some (.pd (rowsD n f)), some (.ref 0), x3, some (.ref (ex.length + 1)), some (.pd (.int (h : Int))), some (.pd (.int (o : Int))), none, e8] (.dic kvs :: (ex ++ [.lst (intsD s.2)])) =
      .ok ((fl, [x0, some (.pd (rowsD n f)), some (.ref 0), x3, some (.ref (ex.length + 1)), some (.pd (.int (h : Int))), none, none, e8]), .dic kvs' :: (ex ++ [.lst (intsD (stp f h s o).2)])) ∧ En n kvs' (stp f h s o).1 := by
  obtain ⟨hh, hv, sv⟩ := I.cur_sm E
  have dh := hD.at_ h hh
  have d0 := hD.at_ o ho
  rw [hv] at dh
  have dh' : lk kvs (.inl (h : Int)) = some (fr (p h * κ)) := dh
  unfold stp
  by_cases hz : f h o = 0
  · have hz2 := E.pot.zero hh ho hz
    rw [if_pos hz]
    refine ⟨kvs, .ct, .inr rfl, ?_, hD⟩
    simp [p_law_scales_2_b_2_b_1_b, p_law_scales_2_b_2_b_1_b_0, hh, ho, hz, hz2, wipeE]
  · rw [if_neg hz]
    have hz2 : f o h ≠ 0 := fun z => hz (E.pot.zero ho hh z)
    have n1 := num_ne hz
    have pp := num_pos_mul E hh ho hz
    have npp : ¬ ((f h o).num * (f o h).num ≤ 0) := by omega
    have cmm : CMulW (f h o).num (f o h).num := cm (E.fs hh ho).num (E.fs ho hh).num
    have b1 := L_by_ok (E.fs hh ho) sv
    obtain ⟨r, hr, hk⟩ := I.val h _ hh hv
    have sb : Sm (f h o * (p h * κ)) := by
      rw [hk]
      exact Sm.of200 ((E.fb h o hh ho).mul (E.pb h r hh hr)) (by decide) (by decide)
    have b2 := L_over_ok sb (E.fs ho hh) hz2
    have ev : f h o * (p h * κ) / f o h = p h * κ * (f h o / f o h) := by grind
    rw [ev] at b2
    cases hs : s.1 o with
    | some w =>
      have fit := I.fits E.pot ho hs hz
      rw [hs] at d0
      have d0' : lk kvs (.inl (o : Int)) = some (fr w) := d0
      refine ⟨kvs, .nx, .inl rfl, ?_, hD⟩
      simp [p_law_scales_2_b_2_b_1_b, p_law_scales_2_b_2_b_1_b_0, p_law_scales_2_b_2_b_1_b_1, p_law_scales_2_b_2_b_1_b_2, p_law_scales_2_b_2_b_1_b_3, p_law_scales_2_b_2_b_1_b_3e, hh, ho, n1, cmm, npp, dh', b1, b2, bindT, d0', ← fit, wipeE]
    | none =>
      rw [hs] at d0
      have d0' : lk kvs (.inl (o : Int)) = none := d0
      have sm := hD.small E.n5
      refine ⟨pt kvs (.inl (o : Int)) (fr (p h * κ * (f h o / f o h))), .nx, .inl rfl, ?_, ?_⟩
      · have dp := v_dP0 kvs (ex ++ [.lst (intsD s.2)]) (o : Int) (fr (p h * κ * (f h o / f o h))) sm
        have hl : s.2.length < sizeLine := small1000 (by omega)
        simp [p_law_scales_2_b_2_b_1_b, p_law_scales_2_b_2_b_1_b_0, p_law_scales_2_b_2_b_1_b_1, p_law_scales_2_b_2_b_1_b_2, p_law_scales_2_b_2_b_1_b_3, p_law_scales_2_b_2_b_1_b_3t_0, p_law_scales_2_b_2_b_1_b_3t_1, hh, ho, n1, cmm, npp, dh', b1, b2, bindT, d0', dp, hl, wipeE]
      · simp only [hv]
        exact hD.put ho hs _
end
end P55

set_option Elab.async false
set_option linter.all false
set_option maxRecDepth 100000
set_option maxHeartbeats 1000000
/-! The law's scales, whole. -/
namespace P55
open PySem PySem.Spec PyProof.Rows L2 Zd
section
variable {n : Nat} {told : Nat → Rat} {f : Nat → Nat → Rat} {p : Nat → Rat} {h o : Nat} {κ : Rat} {s : Sg × List Nat} {kvs : List (Key × PyData)} {ex : Store}
theorem law_inner (E : Ebk n f p) (I : Iv n f p κ (some h) s) (hD : En n kvs s.1) (hL : unt s.1 n + s.2.length ≤ 10) {x3 e8 : Option D} :
    ∃ kvs', p_law_scales_2_b_2_b_1 [some (.pd (bk n told f)), some (.pd (rowsD n f)), some (.ref 0), x3, some (.ref (ex.length + 1)), some (.pd (.int (h : Int))), none, none, e8] (.dic kvs :: (ex ++ [.lst (intsD s.2)])) =
      .ok ((.nx, [some (.pd (bk n told f)), some (.pd (rowsD n f)), some (.ref 0), x3, some (.ref (ex.length + 1)), some (.pd (.int (h : Int))), none, none, e8]), .dic kvs' :: (ex ++ [.lst (intsD (inn f h s n).2)])) ∧ En n kvs' (inn f h s n).1 := by
  obtain ⟨env', μ', h1, kvs', rfl, rfl, h2⟩ := for_rel (T := .nm 6) (b := p_law_scales_2_b_2_b_1_b) (ei := iRg1 (eCall fLen (aCons (eVar 0) aNil)))
    (env := [some (.pd (bk n told f)), some (.pd (rowsD n f)), some (.ref 0), x3, some (.ref (ex.length + 1)), some (.pd (.int (h : Int))), none, none, e8]) (μ := .dic kvs :: (ex ++ [.lst (intsD s.2)])) (μ1 := .dic kvs :: (ex ++ [.lst (intsD s.2)]))
    (fun j env μ => ∃ kvs', env = [some (.pd (bk n told f)), some (.pd (rowsD n f)), some (.ref 0), x3, some (.ref (ex.length + 1)), some (.pd (.int (h : Int))), none, none, e8] ∧ μ = .dic kvs' :: (ex ++ [.lst (intsD (inn f h s j).2)]) ∧ En n kvs' (inn f h s j).1)
    (rg1_ok (n := n) (by simp) (by have := E.n5; omega)) ⟨kvs, rfl, rfl, hD⟩ (fun _ _ _ _ => held_nil) (fun j d env μ hd hp => by
      obtain ⟨kv1, rfl, rfl, g1⟩ := hp
      obtain ⟨hj, rfl⟩ := range_item hd
      obtain ⟨i1, i2⟩ := inn_iv E.pot I j (by omega)
      have sz := inn_size (f := f) (h := h) (s := s) (n := n) j (by omega)
      obtain ⟨kv2, fl, hfl, q1, q2⟩ := law_step (x0 := some (.pd (bk n told f))) (ex := ex) (x3 := x3) (e8 := e8) E i1 hj g1 (by omega)
      refine ⟨[some (.pd (bk n told f)), some (.pd (rowsD n f)), some (.ref 0), x3, some (.ref (ex.length + 1)), some (.pd (.int (h : Int))), some (.pd (.int (j : Int))), none, e8], _, _, by simp [bindT], ?_, kv2, rfl, rfl, q2⟩
      rcases hfl with rfl | rfl
      · exact .inl q1
      · exact .inr q1)
  rw [List.length_map, List.length_range] at h2
  refine ⟨kvs', ?_, h2⟩
  rw [List.length_map, List.length_range] at h1
  exact h1
theorem law_while (E : Ebk n f p) (I : Iv n f p κ none s) (hD : En n kvs s.1) (hL : unt s.1 n + s.2.length ≤ 2 * n) {x3 e8 : Option D} :
    ∃ kvs', p_law_scales_2_b_2 [some (.pd (bk n told f)), some (.pd (rowsD n f)), some (.ref 0), x3, some (.ref (ex.length + 1)), none, none, none, e8] (.dic kvs :: (ex ++ [.lst (intsD s.2)])) =
      .ok ((.nx, [some (.pd (bk n told f)), some (.pd (rowsD n f)), some (.ref 0), x3, some (.ref (ex.length + 1)), none, none, none, e8]), .dic kvs' :: (ex ++ [.lst []])) ∧ En n kvs' (whl f n (2 * n) s).1 := by
  obtain ⟨env', μ', h1, rfl, kvs', rfl, h2⟩ := while_rel (t := p_law_scales_2_b_2_c) (b := p_law_scales_2_b_2_b)
    (fun k env μ => ∃ s' kvs', env = [some (.pd (bk n told f)), some (.pd (rowsD n f)), some (.ref 0), x3, some (.ref (ex.length + 1)), none, none, none, e8] ∧ μ = .dic kvs' :: (ex ++ [.lst (intsD s'.2)]) ∧ Iv n f p κ none s' ∧ En n kvs' s'.1 ∧ unt s'.1 n + s'.2.length ≤ k ∧ k ≤ 2 * n ∧ whl f n k s' = whl f n (2 * n) s)
    (fun env μ => env = [some (.pd (bk n told f)), some (.pd (rowsD n f)), some (.ref 0), x3, some (.ref (ex.length + 1)), none, none, none, e8] ∧ ∃ kvs', μ = .dic kvs' :: (ex ++ [.lst []]) ∧ En n kvs' (whl f n (2 * n) s).1)
    (fun k env μ hp => by
      obtain ⟨s', kv1, rfl, rfl, I1, g1, g2, g3, g4⟩ := hp
      have cnd : p_law_scales_2_b_2_c [some (.pd (bk n told f)), some (.pd (rowsD n f)), some (.ref 0), x3, some (.ref (ex.length + 1)), none, none, none, e8] (.dic kv1 :: (ex ++ [.lst (intsD s'.2)])) = .ok (!s'.2.isEmpty, .dic kv1 :: (ex ++ [.lst (intsD s'.2)])) := by
        simp [p_law_scales_2_b_2_c, ne_nil]
      cases hl : s'.2.getLast? with
      | none =>
        have e : s'.2 = [] := List.getLast?_eq_none_iff.mp hl
        refine .inl ⟨_, ?_, rfl, kv1, rfl, ?_⟩
        · rw [cnd, e]
          rfl
        · rw [← g4, whl_nil e]
          exact g1
      | some h =>
        have hne : s'.2 ≠ [] := fun z => by rw [z] at hl; cases hl
        have hp : 0 < s'.2.length := List.length_pos_iff.mpr hne
        have hd : s'.2.dropLast.length = s'.2.length - 1 := List.length_dropLast ..
        obtain ⟨k', rfl⟩ : ∃ k', k = k' + 1 := ⟨k - 1, by omega⟩
        have I2 := pop_iv I1 hl
        obtain ⟨kv2, q1, q2⟩ := law_inner (told := told) (ex := ex) (s := (s'.1, s'.2.dropLast)) (x3 := x3) (e8 := e8) E I2 g1 (by have := E.n5; simp only [hd]; omega)
        obtain ⟨i1, i2⟩ := inn_iv E.pot I2 n (Nat.le_refl _)
        have sz := inn_size (f := f) (h := h) (s := (s'.1, s'.2.dropLast)) (n := n) n (Nat.le_refl _)
        have hge : (intsD s'.2).getLast? = some (.int (h : Int)) := by simp [intsD, List.getLast?_map, hl]
        have hdl : (intsD s'.2).dropLast = intsD s'.2.dropLast := by simp [intsD, List.map_dropLast]
        have hemp : (!s'.2.isEmpty) = true := by simp [hne]
        refine .inr ⟨.dic kv1 :: (ex ++ [.lst (intsD s'.2)]), _, .dic kv2 :: (ex ++ [.lst (intsD (inn f h (s'.1, s'.2.dropLast) n).2)]), k', ?_, .inl ?_, by omega, _, kv2, rfl, rfl, done_iv i1 i2, q2, by simp only [hd] at sz; omega, by omega, ?_⟩
        · rw [cnd, hemp]
        · have s0 : p_law_scales_2_b_2_b_0 [some (.pd (bk n told f)), some (.pd (rowsD n f)), some (.ref 0), x3, some (.ref (ex.length + 1)), none, none, none, e8] (.dic kv1 :: (ex ++ [.lst (intsD s'.2)])) =
              .ok ((.nx, [some (.pd (bk n told f)), some (.pd (rowsD n f)), some (.ref 0), x3, some (.ref (ex.length + 1)), some (.pd (.int (h : Int))), none, none, e8]), .dic kv1 :: (ex ++ [.lst (intsD s'.2.dropLast)])) := by
            simp [p_law_scales_2_b_2_b_0, bindT, hge, hdl]
          unfold p_law_scales_2_b_2_b
          rw [v_forget, seq_nx s0, q1]
          rfl
        · rw [← g4]
          conv => rhs; unfold whl
          rw [hl])
    (2 * n) _ _ ⟨s, kvs, rfl, rfl, I, hD, hL, Nat.le_refl _, rfl⟩
  exact ⟨kvs', h1, h2⟩
theorem law_first (E : Ebk n f p) {m : Nat} (hm : m < n) (hD : En n kvs (scl f n m)) {e8 : Option D} :
    ∃ kvs', p_law_scales_2_b [some (.pd (bk n told f)), some (.pd (rowsD n f)), some (.ref 0), some (.pd (.int (m : Int))), none, none, none, none, e8] (.dic kvs :: ex) =
      .ok ((.nx, [some (.pd (bk n told f)), some (.pd (rowsD n f)), some (.ref 0), some (.pd (.int (m : Int))), none, none, none, none, e8]), .dic kvs' :: (ex ++ [.lst []])) ∧ En n kvs' (scl f n (m + 1)) := by
  have T := (scl_told E.pot m (by omega)).1
  obtain ⟨j1, j2, j3, j4⟩ := ini_iv E.pot T hm
  have n5 := E.n5
  have sm := hD.small n5
  have dm := hD.at_ m hm
  have sl1 : (1 : Nat) ≤ sizeLine := sizeLine_ge (by decide)
  have step : ∃ kv1, p_law_scales_2_b_0 [some (.pd (bk n told f)), some (.pd (rowsD n f)), some (.ref 0), some (.pd (.int (m : Int))), none, none, none, none, e8] (.dic kvs :: ex) =
        .ok ((.nx, [some (.pd (bk n told f)), some (.pd (rowsD n f)), some (.ref 0), some (.pd (.int (m : Int))), some (.ref (ex.length + 1)), none, none, none, e8]), .dic kvs :: (ex ++ [.lst (intsD (ini (scl f n m) m).2)])) ∧
      p_law_scales_2_b_1 [some (.pd (bk n told f)), some (.pd (rowsD n f)), some (.ref 0), some (.pd (.int (m : Int))), some (.ref (ex.length + 1)), none, none, none, e8] (.dic kvs :: (ex ++ [.lst (intsD (ini (scl f n m) m).2)])) =
        .ok ((.nx, [some (.pd (bk n told f)), some (.pd (rowsD n f)), some (.ref 0), some (.pd (.int (m : Int))), some (.ref (ex.length + 1)), none, none, none, e8]), .dic kv1 :: (ex ++ [.lst (intsD (ini (scl f n m) m).2)])) ∧ En n kv1 (ini (scl f n m) m).1 := by
    unfold ini
    cases hs : scl f n m m with
    | some w =>
      rw [hs] at dm
      have dm' : lk kvs (.inl (m : Int)) = some (fr w) := dm
      have dp := v_dP0 kvs (ex ++ [.lst (intsD [])]) (m : Int) ONEd sm
      refine ⟨kvs, ?_, ?_, hD⟩
      · simp [p_law_scales_2_b_0, dm', bindT, intsD, sizeLine_ge]
      · simp [p_law_scales_2_b_1, dm', dp, sizeLine_ge]
    | none =>
      rw [hs] at dm
      have dm' : lk kvs (.inl (m : Int)) = none := dm
      have dp := v_dP0 kvs (ex ++ [.lst (intsD [m])]) (m : Int) ONEd sm
      refine ⟨pt kvs (.inl (m : Int)) (fr 1), ?_, ?_, hD.put hm hs 1⟩
      · simp [p_law_scales_2_b_0, dm', bindT, intsD, sl1]
      · simp [p_law_scales_2_b_1, dm', dp, sizeLine_ge]
        rfl
  obtain ⟨kv1, s0, s1, hD1⟩ := step
  obtain ⟨kv2, q1, q2⟩ := law_while (told := told) (ex := ex) (x3 := some (.pd (.int (m : Int)))) (e8 := e8) E j1 hD1 j4
  refine ⟨kv2, ?_, q2⟩
  unfold p_law_scales_2_b
  rw [v_forget, seq_nx s0, seq_nx s1, q1]
  rfl
end
end P55

set_option Elab.async false
set_option linter.all false
set_option maxRecDepth 100000
set_option maxHeartbeats 1000000
/-! The law's scales, told. -/
namespace P55
open PySem PySem.Spec PyProof.Rows L2 Zd
theorem en_ok {α : Type} {a : EvE} {env : Zd.Env} {μ μ1 : Store} {n : Nat} (G : Nat → PyData) (h : a env μ = .ok (.pd (.tuple ((List.range n).map G)), μ1)) : iEn a env μ = .ok (((List.range n).map fun i => D.pd (.tuple [.int (i : Nat), G i]), []), μ1) := by
  unfold iEn
  rw [h]
  simp only [Out.ok_bind, srcA]
  rw [pdAll_of]
  dsimp only
  congr 3
  apply List.ext_getElem
  · simp
  · intro i h1 h2
    simp
section
variable {n : Nat} {told : Nat → Rat} {f : Nat → Nat → Rat} {p : Nat → Rat} {kvs : List (Key × PyData)} {ex : Store}
theorem lookL (E : Ebk n f p) {e1 e2 e3 e4 e5 e6 e7 e8 : Option D} {μ : Store} :
    eLcD [3, 8] (.tp [(.nm 3), (.nm 8)]) (iEn (eVar 0)) (eOrT (eTst (eOp2 fNe (eCall fLen (aCons (eVar 8) aNil)) (eC (.int 1)))) (eTst (eOp2 fNe (eIx (eIx (eIx (eIx (eVar 8) (eC (.int 0))) (eC (.int 1))) (eVar 3)) (eC (.int 0))) (eC (.int 0))))) (eVar 3)
      [some (.pd (bk n told f)), e1, e2, e3, e4, e5, e6, e7, e8] μ = .ok ([], μ) := by
  have n5 := E.n5
  have c1 := comp_filA (g := []) (T := .tp [(.nm 3), (.nm 8)]) (μ := μ) (tst := eOrT (eTst (eOp2 fNe (eCall fLen (aCons (eVar 8) aNil)) (eC (.int 1)))) (eTst (eOp2 fNe (eIx (eIx (eIx (eIx (eVar 8) (eC (.int 0))) (eC (.int 1))) (eVar 3)) (eC (.int 0))) (eC (.int 0))))) (elt := eVar 3)
    (env := wipeE [some (.pd (bk n told f)), e1, e2, e3, e4, e5, e6, e7, e8] [3, 8]) held_nil (fun i : Nat => D.pd (.tuple [.int (i : Int), cellB n told f i])) (fun i : Nat => D.pd (.int (i : Int))) (fun _ => false) (List.range n) (fun i hi => by
      simp at hi
      have hd := E.pot.diag i hi
      refine ⟨[some (.pd (bk n told f)), e1, e2, some (.pd (.int (i : Int))), e4, e5, e6, e7, some (.pd (cellB n told f i))], by simp [bindT, bindTs, wipeE], ?_, fun z => by cases z⟩
      simp [cellB, hi, hd])
  have hf : ((List.range n).filter fun _ => false) = [] := by simp
  rw [hf] at c1
  exact lcD_eq (en_ok (α := Nat) (cellB n told f) (v_var 0 rfl)) (by rw [List.length_map, List.length_range]; exact sizeLine_ge (by omega)) c1
theorem law_look (E : Ebk n f p) {e1 e2 e3 e4 e5 e6 e7 e8 : Option D} {μ : Store} : p_law_scales_0 [some (.pd (bk n told f)), e1, e2, e3, e4, e5, e6, e7, e8] μ = .ok ((.nx, [some (.pd (bk n told f)), e1, e2, e3, e4, e5, e6, e7, e8]), μ) := by
  have l1 := lookL (told := told) (e1 := e1) (e2 := e2) (e3 := e3) (e4 := e4) (e5 := e5) (e6 := e6) (e7 := e7) (e8 := e8) (μ := μ) E
  have hn : fNe (.list []) (.list []) = some (.bool false) := ne_nil []
  have z : (0 : Nat) ≤ sizeLine := Nat.zero_le _
  have t : eTst (eOp2 fNe (eFrz (asF (eLcD [3, 8] (.tp [(.nm 3), (.nm 8)]) (iEn (eVar 0)) (eOrT (eTst (eOp2 fNe (eCall fLen (aCons (eVar 8) aNil)) (eC (.int 1)))) (eTst (eOp2 fNe (eIx (eIx (eIx (eIx (eVar 8) (eC (.int 0))) (eC (.int 1))) (eVar 3)) (eC (.int 0))) (eC (.int 0))))) (eVar 3)))) (eFrz (eLst aNil)))
      [some (.pd (bk n told f)), e1, e2, e3, e4, e5, e6, e7, e8] μ = .ok (false, μ) := by
    rw [v_tst, v_op2, v_frz, v_asF, l1]
    simp [hn]
  unfold p_law_scales_0
  rw [v_sif, t, Out.ok_bind, if_neg Bool.false_ne_true, v_nil]
theorem rowsC (n5 : n ≤ 5) {e1 e2 e3 e4 e5 e6 e7 e8 : Option D} {μ : Store} : eLcD [8] (.nm 8) (iTp (eVar 0)) tYesE (eIx (eIx (eVar 8) (eC (.int 0))) (eC (.int 1))) [some (.pd (bk n told f)), e1, e2, e3, e4, e5, e6, e7, e8] μ = .ok ((List.range n).map (fun i => D.pd (rowD n f i)), μ) := by
  have c1 := comp_mapA (g := []) (T := .nm 8) (μ := μ) (elt := eIx (eIx (eVar 8) (eC (.int 0))) (eC (.int 1))) (env := wipeE [some (.pd (bk n told f)), e1, e2, e3, e4, e5, e6, e7, e8] [8]) held_nil (fun i => D.pd (cellB n told f i)) (fun i => D.pd (rowD n f i)) (List.range n) (fun i hi =>
    ⟨[some (.pd (bk n told f)), e1, e2, e3, e4, e5, e6, e7, some (.pd (cellB n told f i))], by simp [bindT, wipeE], by simp [cellB]⟩)
  have i1 := tp_ok (a := eVar 0) (env := [some (.pd (bk n told f)), e1, e2, e3, e4, e5, e6, e7, e8]) (μ := μ) (μ1 := μ) (ds := (List.range n).map (cellB n told f)) (v_var 0 rfl)
  rw [List.map_map] at i1
  exact lcD_eq i1 (by rw [List.length_map, List.length_range]; exact sizeLine_ge (by omega)) c1
theorem law_scales_ok (E : Ebk n f p) : F__law_scales [bk n told f] = .ok (.tuple ((List.range n).map fun i => fr (sca f n i))) := by
  have n5 := E.n5
  obtain ⟨env', μ', h1, kvs', ex', e3, rfl, rfl, h2⟩ := for_rel (T := .nm 3) (b := p_law_scales_2_b) (ei := iRg1 (eCall fLen (aCons (eVar 0) aNil)))
    (env := [some (.pd (bk n told f)), some (.pd (rowsD n f)), some (.ref 0), none, none, none, none, none, none]) (μ := [.dic []]) (μ1 := [.dic []])
    (fun m env μ => ∃ kvs ex e3, env = [some (.pd (bk n told f)), some (.pd (rowsD n f)), some (.ref 0), e3, none, none, none, none, none] ∧ μ = .dic kvs :: ex ∧ En n kvs (scl f n m))
    (rg1_ok (n := n) (by simp) (by omega)) ⟨[], [], none, rfl, rfl, fun i _ => rfl, by have := unt_le (scl f n 0) n; simpa using this⟩ (fun _ _ _ _ => held_nil) (fun j d env μ hd hp => by
      obtain ⟨kv1, ex1, e3, rfl, rfl, g1⟩ := hp
      obtain ⟨hj, rfl⟩ := range_item hd
      obtain ⟨kv2, q1, q2⟩ := law_first (told := told) (ex := ex1) (e8 := none) E hj g1
      exact ⟨[some (.pd (bk n told f)), some (.pd (rowsD n f)), some (.ref 0), some (.pd (.int (j : Int))), none, none, none, none, none], _, _, by simp [bindT], .inl q1, kv2, _, _, rfl, rfl, q2⟩)
  rw [List.length_map, List.length_range] at h2
  have s0 := law_look (told := told) (e1 := none) (e2 := none) (e3 := none) (e4 := none) (e5 := none) (e6 := none) (e7 := none) (e8 := none) (μ := []) E
  have lr := rowsC (told := told) (f := f) (e1 := none) (e2 := none) (e3 := none) (e4 := none) (e5 := none) (e6 := none) (e7 := none) (e8 := none) (μ := []) n5
  have s1 : p_law_scales_1 [some (.pd (bk n told f)), none, none, none, none, none, none, none, none] [] = .ok ((.nx, [some (.pd (bk n told f)), some (.pd (rowsD n f)), some (.ref 0), none, none, none, none, none, none]), [.dic []]) := by
    unfold p_law_scales_1
    rw [v_par, v_acons, v_frz, v_asF, lr]
    simp [bindTs, bindT, rowsD]
  have c3 := comp_mapA (g := []) (T := .nm 3) (μ := .dic kvs' :: ex') (elt := eDGet (eVar 2) (eVar 3)) (env := wipeE [some (.pd (bk n told f)), some (.pd (rowsD n f)), some (.ref 0), e3, none, none, none, none, none] [3]) held_nil (fun i : Nat => D.pd (.int (i : Int))) (fun i => D.pd (fr (sca f n i))) (List.range n) (fun i hi => by
    simp at hi
    have dm := h2.at_ i hi
    rw [sca_some E.pot hi] at dm
    have dm' : lk kvs' (.inl (i : Int)) = some (fr (sca f n i)) := dm
    exact ⟨[some (.pd (bk n told f)), some (.pd (rowsD n f)), some (.ref 0), some (.pd (.int (i : Int))), none, none, none, none, none], by simp [bindT, wipeE], by simp [dm']⟩)
  have i3 := rg1_ok (a := eCall fLen (aCons (eVar 0) aNil)) (env := [some (.pd (bk n told f)), some (.pd (rowsD n f)), some (.ref 0), e3, none, none, none, none, none]) (μ := .dic kvs' :: ex') (μ1 := .dic kvs' :: ex') (n := n) (by simp) (by omega)
  have l3 := lcD_eq (vs := [3]) i3 (by rw [List.length_map, List.length_range]; exact sizeLine_ge (by omega)) c3
  have s3 : p_law_scales_3 [some (.pd (bk n told f)), some (.pd (rowsD n f)), some (.ref 0), e3, none, none, none, none, none] (.dic kvs' :: ex') = .ok ((.rt (.pd (.tuple ((List.range n).map fun i => fr (sca f n i)))), [some (.pd (bk n told f)), some (.pd (rowsD n f)), some (.ref 0), e3, none, none, none, none, none]), .dic kvs' :: ex') := by
    unfold p_law_scales_3
    rw [v_ret, v_call, v_acons, v_frz, v_asF, l3]
    simp
  exact fnP_run ((congrFun (congrFun parts_law_scales _) _).trans ((seq_nx s0).trans ((seq_nx s1).trans ((seq_nx h1).trans s3)))) rfl rfl
end
end P55

set_option Elab.async false
set_option linter.all false
set_option maxRecDepth 100000
set_option maxHeartbeats 1000000
/-! Elimination: plain, with sizes. -/
namespace P55
open PySem PySem.Spec PyProof.Rows L2 Zd
/-- over the denominator D, at most N above -/
def Fx (D N : Nat) (q : Rat) : Prop := ∃ m : Int, q * (D : Rat) = (m : Rat) ∧ m.natAbs ≤ N
theorem nat_ne {D : Nat} (h : 0 < D) : (D : Rat) ≠ 0 := fun z => by
  have := Rat.natCast_pos.mpr h
  rw [z] at this
  exact absurd this (by decide)
theorem Fx.bd {D N : Nat} {q : Rat} (h : Fx D N q) (hD : 0 < D) : Bd N D q := by
  obtain ⟨m, e, hm⟩ := h
  have h0 := nat_ne hD
  have e2 : q = Rat.divInt m (D : Int) := by
    rw [Rat.divInt_eq_div, ← e]
    have : ((D : Int) : Rat) = (D : Rat) := rfl
    rw [this]
    grind
  rw [e2]
  exact Bd.of_divInt (by omega) hm (by omega)
theorem Fx.mono {D N M : Nat} {q : Rat} (h : Fx D N q) (hM : N ≤ M) : Fx D M q := by
  obtain ⟨m, e, hm⟩ := h
  exact ⟨m, e, Nat.le_trans hm hM⟩
theorem Fx.add {D N M : Nat} {a b : Rat} (ha : Fx D N a) (hb : Fx D M b) : Fx D (N + M) (a + b) := by
  obtain ⟨m, e, hm⟩ := ha
  obtain ⟨k, e2, hk⟩ := hb
  refine ⟨m + k, ?_, Nat.le_trans (Int.natAbs_add_le m k) (Nat.add_le_add hm hk)⟩
  rw [Rat.intCast_add, ← e, ← e2]
  grind
theorem Fx.neg {D N : Nat} {a : Rat} (ha : Fx D N a) : Fx D N (-a) := by
  obtain ⟨m, e, hm⟩ := ha
  refine ⟨-m, ?_, by rw [Int.natAbs_neg]; exact hm⟩
  rw [Rat.intCast_neg, ← e]
  grind
theorem Fx.sub {D N M : Nat} {a b : Rat} (ha : Fx D N a) (hb : Fx D M b) : Fx D (N + M) (a - b) := by
  rw [Rat.sub_eq_add_neg]
  exact ha.add hb.neg
theorem Fx.mul {D E N M : Nat} {a b : Rat} (ha : Fx D N a) (hb : Fx E M b) : Fx (D * E) (N * M) (a * b) := by
  obtain ⟨m, e, hm⟩ := ha
  obtain ⟨k, e2, hk⟩ := hb
  refine ⟨m * k, ?_, by rw [Int.natAbs_mul]; exact Nat.mul_le_mul hm hk⟩
  rw [Rat.intCast_mul, ← e, ← e2, Rat.natCast_mul]
  grind
theorem Fx.lift {D N : Nat} {a : Rat} (k : Nat) (ha : Fx D N a) : Fx (D * k) (N * k) a := by
  obtain ⟨m, e, hm⟩ := ha
  refine ⟨m * (k : Int), ?_, by rw [Int.natAbs_mul, Int.natAbs_natCast]; exact Nat.mul_le_mul_right _ hm⟩
  rw [Rat.intCast_mul, ← e, Rat.natCast_mul]
  have : ((k : Int) : Rat) = (k : Rat) := rfl
  rw [this]
  grind
theorem Fx.zero (D N : Nat) : Fx D N 0 := ⟨0, by rw [Rat.zero_mul]; rfl, Nat.zero_le _⟩
theorem Fx.one (D : Nat) : Fx D D 1 := ⟨(D : Int), by rw [Rat.one_mul]; rfl, by omega⟩
/-- step by step: what is left behind t pivots -/
def el (a : Nat → Nat → Rat) : Nat → Nat → Nat → Rat
  | 0 => a
  | t + 1 => fun i j => el a t i j - el a t i t * (el a t t j / el a t t t)
theorem el_sym {n : Nat} {a : Nat → Nat → Rat} (h : ∀ i j, i < n → j < n → a i j = a j i) : ∀ t, t ≤ n → ∀ i j, i < n → j < n → el a t i j = el a t j i
  | 0, _, i, j, hi, hj => h i j hi hj
  | t + 1, ht, i, j, hi, hj => by
    have h1 := el_sym h t (by omega) i j hi hj
    have h2 := el_sym h t (by omega) i t hi (by omega)
    have h3 := el_sym h t (by omega) t j (by omega) hj
    show el a t i j - el a t i t * (el a t t j / el a t t t) = el a t j i - el a t j t * (el a t t i / el a t t t)
    rw [h1, h2, h3, Rat.div_def, Rat.div_def]
    grind
/-- bounds: numerators, denominators behind t pivots -/
def nB : Nat → Nat
  | 0 => 2 ^ 13
  | t + 1 => 2 * (nB t * nB t)
def dB : Nat → Nat
  | 0 => 2 ^ 10
  | t + 1 => dB t * nB t
theorem el_fx {n : Nat} {a : Nat → Nat → Rat} {D0 : Nat} (hD : 0 < D0) (hD2 : D0 ≤ 2 ^ 10) (h : ∀ i j, i < n → j < n → Fx D0 (2 ^ 13) (a i j)) : ∀ t, t ≤ n → (∀ s, s < t → 0 < el a s s s) → ∃ D, 0 < D ∧ D ≤ dB t ∧ ∀ i j, i < n → j < n → Fx D (nB t) (el a t i j)
  | 0, _, _ => ⟨D0, hD, hD2, h⟩
  | t + 1, ht, hp => by
    obtain ⟨D, d1, d2, d3⟩ := el_fx hD hD2 h t (by omega) fun s hs => hp s (by omega)
    obtain ⟨m, e, hm⟩ := d3 t t (by omega) (by omega)
    have pos := hp t (by omega)
    have dp : (0 : Rat) < (D : Rat) := Rat.natCast_pos.mpr d1
    have mp : 0 < m := by
      have := Rat.mul_pos pos dp
      rw [e] at this
      exact Rat.intCast_pos.mp this
    have em : ((m.natAbs : Nat) : Rat) = (m : Rat) := by
      have : ((m.natAbs : Nat) : Int) = m := by omega
      rw [← this]
      rfl
    refine ⟨D * m.natAbs, Nat.mul_pos d1 (by omega), Nat.mul_le_mul d2 hm, fun i j hi hj => ?_⟩
    obtain ⟨x, ex, hx⟩ := d3 i j hi hj
    obtain ⟨y, ey, hy⟩ := d3 i t hi (by omega)
    obtain ⟨z, ez, hz⟩ := d3 t j (by omega) hj
    refine ⟨x * m - y * z, ?_, ?_⟩
    · show (el a t i j - el a t i t * (el a t t j / el a t t t)) * ((D * m.natAbs : Nat) : Rat) = _
      rw [Rat.natCast_mul, em, Rat.intCast_sub, Rat.intCast_mul, Rat.intCast_mul, ← ex, ← ey, ← ez, ← e]
      have p0 : el a t t t ≠ 0 := by grind
      have d0 : (D : Rat) ≠ 0 := nat_ne d1
      rw [Rat.div_def]
      have inv : (el a t t t)⁻¹ * el a t t t = 1 := by grind
      grind
    · show (x * m - y * z).natAbs ≤ 2 * (nB t * nB t)
      have h1 : (x * m).natAbs ≤ nB t * nB t := by rw [Int.natAbs_mul]; exact Nat.mul_le_mul hx hm
      have h2 : (y * z).natAbs ≤ nB t * nB t := by rw [Int.natAbs_mul]; exact Nat.mul_le_mul hy hz
      omega
end P55

set_option Elab.async false
set_option linter.all false
set_option maxRecDepth 100000
set_option maxHeartbeats 1000000
/-! The rows of the energy, by the program. -/
namespace P55
open PySem PySem.Spec PyProof.Rows L2 Zd
/-- an even book with its denominators -/
structure Ebd (n : Nat) (f : Nat → Nat → Rat) (p : Nat → Rat) : Prop extends Ebk n f p where
  ff : ∀ i j, i < n → j < n → Fx 72 144 (f i j)
  pf : ∀ i j, i < n → j < n → Fx 12 48 (p i / p j)
theorem cast_ne {z : Int} (h : z ≠ 0) : (z : Rat) ≠ 0 := fun e => h (Rat.intCast_eq_zero_iff.mp e)
theorem Even.ebd {n : Nat} {f : Nat → Nat → Rat} (h : Even n f) : ∃ p, Ebd n f p := by
  obtain ⟨s, top, t, t1, t3, hs, hsym, hd, ht, hf⟩ := h.ex
  have ne : ∀ i, i < n → top * s i ≠ 0 ∧ (top * s i).natAbs ≤ 12 := fun i hi => by
    have := hs i hi
    have h1 := Int.mul_le_mul t3 this.2 (by omega) (by decide)
    have h2 := Int.mul_le_mul t1 this.1 (by decide) (by omega)
    omega
  have P : Pot n f (fun i => (s i : Rat)) := by
    refine ⟨fun i hi => Rat.intCast_pos.mpr (by have := hs i hi; omega), fun i j hi hj => ?_, fun i hi => by rw [hf i i hi hi, hd i hi]; simp⟩
    have hi1 := cast_ne (show s i ≠ 0 by have := (hs i hi).1; omega)
    have hj1 := cast_ne (show s j ≠ 0 by have := (hs j hj).1; omega)
    have ht1 := cast_ne (show top ≠ 0 by omega)
    rw [hf i j hi hj, hf j i hj hi, hsym i j hi hj, Rat.divInt_eq_div, Rat.divInt_eq_div, Rat.intCast_mul, Rat.intCast_mul]
    grind
  have div12 : ∀ z : Int, 1 ≤ z → z ≤ 4 → ∃ u : Int, z * u = 12 ∧ u.natAbs ≤ 12 := fun z h1 h2 => by
    have : z = 1 ∨ z = 2 ∨ z = 3 ∨ z = 4 := by omega
    rcases this with rfl | rfl | rfl | rfl
    · exact ⟨12, rfl, by decide⟩
    · exact ⟨6, rfl, by decide⟩
    · exact ⟨4, rfl, by decide⟩
    · exact ⟨3, rfl, by decide⟩
  have div3 : ∃ u : Int, top * u = 6 ∧ u.natAbs ≤ 6 := by
    have : top = 1 ∨ top = 2 ∨ top = 3 := by omega
    rcases this with rfl | rfl | rfl
    · exact ⟨6, rfl, by decide⟩
    · exact ⟨3, rfl, by decide⟩
    · exact ⟨2, rfl, by decide⟩
  refine ⟨_, ⟨P, h.n1, h.n5, fun i j hi hj => ?_, fun i j hi hj => ?_⟩, fun i j hi hj => ?_, fun i j hi hj => ?_⟩
  · rw [hf i j hi hj]
    exact Bd.of_divInt (ne i hi).1 (ht i j hi hj) (ne i hi).2
  · have a := hs i hi
    have b := hs j hj
    show Bd 4 4 ((s i : Rat) / (s j : Rat))
    rw [← Rat.divInt_eq_div]
    exact Bd.of_divInt (by omega) (by omega) (by omega)
  · obtain ⟨u, hu, hu2⟩ := div12 (s i) (hs i hi).1 (hs i hi).2
    obtain ⟨w, hw, hw2⟩ := div3
    have hm := ht i j hi hj
    refine ⟨t i j * (w * u), ?_, ?_⟩
    · rw [hf i j hi hj, Rat.divInt_eq_div]
      have e : ((72 : Nat) : Rat) = ((top * s i : Int) : Rat) * ((w * u : Int) : Rat) := by
        rw [← Rat.intCast_mul]
        have : top * s i * (w * u) = 72 := by
          have : top * s i * (w * u) = (top * w) * (s i * u) := by ac_rfl
          rw [this, hw, hu]
          rfl
        rw [this]
        rfl
      have h1 := cast_ne (ne i hi).1
      rw [e, Rat.intCast_mul (t i j)]
      grind
    · rw [Int.natAbs_mul, Int.natAbs_mul]
      have h1 := Nat.mul_le_mul hw2 hu2
      exact Nat.mul_le_mul hm h1
  · obtain ⟨u, hu, hu2⟩ := div12 (s j) (hs j hj).1 (hs j hj).2
    have a := hs i hi
    refine ⟨s i * u, ?_, ?_⟩
    · show (s i : Rat) / (s j : Rat) * ((12 : Nat) : Rat) = _
      have e : ((12 : Nat) : Rat) = (s j : Rat) * (u : Rat) := by
        rw [← Rat.intCast_mul, hu]
        rfl
      have hj1 := cast_ne (show s j ≠ 0 by have := (hs j hj).1; omega)
      rw [e, Rat.intCast_mul]
      grind
    · rw [Int.natAbs_mul]
      have h1 : (s i).natAbs ≤ 4 := by omega
      exact Nat.mul_le_mul h1 hu2
/-- the rows of the energy -/
def mat (f : Nat → Nat → Rat) (n i j : Nat) : Rat := if i = j then sca f n i else 0 - sca f n i * f i j
section
variable {n : Nat} {told : Nat → Rat} {f : Nat → Nat → Rat} {p : Nat → Rat}
theorem Ebd.sca_fx (E : Ebd n f p) {i : Nat} (hi : i < n) : Fx 12 48 (sca f n i) := by
  obtain ⟨r, hr, e⟩ := sca_val E.pot hi
  rw [e]
  exact E.pf i r hi hr
theorem Ebd.sca_pos (E : Ebd n f p) {i : Nat} (hi : i < n) : 0 < sca f n i := by
  obtain ⟨r, hr, e⟩ := sca_val E.pot hi
  rw [e, Rat.div_def]
  exact Rat.mul_pos (E.pot.pos i hi) (Rat.inv_pos.mpr (E.pot.pos r hr))
theorem Ebd.mat_fx (E : Ebd n f p) {i j : Nat} (hi : i < n) (hj : j < n) : Fx 864 (2 ^ 13) (mat f n i j) := by
  unfold mat
  split
  · exact ((E.sca_fx hi).lift 72).mono (by decide)
  · have := (Fx.zero 864 0).sub ((E.sca_fx hi).mul (E.ff i j hi hj))
    exact this.mono (by decide)
theorem Ebd.mat_sym (E : Ebd n f p) {i j : Nat} (hi : i < n) (hj : j < n) : mat f n i j = mat f n j i := by
  unfold mat
  by_cases e : i = j
  · rw [e]
  · rw [if_neg e, if_neg (Ne.symm e), sca_sym E.pot hi hj]
end
end P55

set_option Elab.async false
set_option linter.all false
set_option maxRecDepth 100000
set_option maxHeartbeats 1000000
/-! energy_rows. -/
namespace P55
open PySem PySem.Spec PyProof.Rows L2 Zd
@[simp] theorem v_appL (a b : EvE) (env : Zd.Env) (μ : Store) : eAppL a b env μ = (a env μ).bind fun p => match p.1 with
  | .ref l => match llsAt p.2 l with
    | some _ => (b env p.2).bind fun q => match q.1, llsAt q.2 l with
      | .ref l', some ls => if ls.length < sizeLine then .ok (.pd .none, q.2.set l (.lls (ls ++ [l']))) else .stuck
      | _, _ => .stuck
    | none => .stuck
  | _ => .stuck := rfl
/-- a list of n fractions -/
def vecD (n : Nat) (g : Nat → Rat) : List PyData := (List.range n).map fun j => fr (g j)
@[simp] theorem vecD_len (n : Nat) (g : Nat → Rat) : (vecD n g).length = n := by simp [vecD]
theorem vecD_set {n i : Nat} {g : Nat → Rat} {q : Rat} (hi : i < n) : (vecD n g).set i (fr q) = vecD n (fun j => if j = i then q else g j) := by
  apply List.ext_getElem
  · simp
  · intro j h1 h2
    simp only [vecD, List.getElem_set, List.getElem_map, List.getElem_range]
    by_cases e : i = j
    · subst e; simp
    · simp [e, Ne.symm e]
theorem ixN_nat' {n j : Nat} (hj : j < n) : ixN n (j : Int) = some j := by
  unfold ixN
  rw [if_pos (by omega), if_pos (by omega)]
  simp
/-- rows in the store: the list of rows first, then the rows -/
def hd0 (ls : List Nat) : Cell := match ls with
  | [] => .lst []
  | l :: r => .lls (l :: r)
@[simp] theorem lls_hd (ls : List Nat) (r : Store) : llsAt (hd0 ls :: r) 0 = some ls := by
  cases ls <;> rfl
theorem hd_snoc (ls : List Nat) (l : Nat) : Cell.lls (ls ++ [l]) = hd0 (ls ++ [l]) := by
  cases ls <;> rfl
theorem frzs_of {μ : Store} {R : Nat → List PyData} : ∀ ls : List Nat, (∀ l ∈ ls, μ[l]? = some (.lst (R l))) → frzs μ ls = some (ls.map fun l => .list (R l))
  | [], _ => rfl
  | l :: r, h => by
    have ih := frzs_of (R := R) r fun x hx => h x (by simp [hx])
    simp [frzs, h l (by simp), ih]
section
variable {n : Nat} {told : Nat → Rat} {f : Nat → Nat → Rat} {p : Nat → Rat}
def refs1 (m : Nat) : List Nat := (List.range m).map (· + 1)
def rowCells (n : Nat) (a : Nat → Nat → Rat) (m : Nat) : Store := (List.range m).map fun i => .lst (vecD n (a i))
@[simp] theorem refs1_len (m : Nat) : (refs1 m).length = m := by simp [refs1]
@[simp] theorem rowCells_len (n : Nat) (a : Nat → Nat → Rat) (m : Nat) : (rowCells n a m).length = m := by simp [rowCells]
theorem rows_step (E : Ebd n f p) {i : Nat} (hi : i < n) :
    p_energy_rows_1_b [some (.pd (bk n told f)), some (.ref 0), some (.pd (.int (i : Int))), some (.pd (fr (sca f n i))), none, none] (hd0 (refs1 i) :: rowCells n (mat f n) i) =
      .ok ((.nx, [some (.pd (bk n told f)), some (.ref 0), none, none, none, none]), hd0 (refs1 (i + 1)) :: rowCells n (mat f n) (i + 1)) := by
  have n5 := E.n5
  have smi : Sm (sca f n i) := Sm.of200 ((E.sca_fx hi).bd (by decide)) (by decide) (by decide)
  have c1 := comp_mapA (g := []) (T := .nm 5) (μ := hd0 (refs1 i) :: rowCells n (mat f n) i) (elt := eCallP F_less (aCons (eC ZEROd) (aCons (eCallP F_times (aCons (eVar 3) (aCons (eVar 5) aNil))) aNil)))
    (env := wipeE [some (.pd (bk n told f)), some (.ref 0), some (.pd (.int (i : Int))), some (.pd (fr (sca f n i))), none, none] [5]) held_nil (fun j => D.pd (fr (f i j))) (fun j => D.pd (fr (0 - sca f n i * f i j))) (List.range n) (fun j hj => by
      simp at hj
      have smp : Sm (sca f n i * f i j) := Sm.of200 (((E.sca_fx hi).mul (E.ff i j hi hj)).bd (by decide)) (by decide) (by decide)
      have e1 := F_times_ok smi (E.fs hi hj)
      have e2 := F_less_ok sm0 smp
      exact ⟨[some (.pd (bk n told f)), some (.ref 0), some (.pd (.int (i : Int))), some (.pd (fr (sca f n i))), none, some (.pd (fr (f i j)))], by simp [bindT, wipeE], by simp [e1, zero_fr, e2]⟩)
  have i1 := tp_ok (a := eIx (eIx (eIx (eVar 0) (eVar 2)) (eC (.int 0))) (eC (.int 1))) (env := [some (.pd (bk n told f)), some (.ref 0), some (.pd (.int (i : Int))), some (.pd (fr (sca f n i))), none, none]) (μ := hd0 (refs1 i) :: rowCells n (mat f n) i) (μ1 := hd0 (refs1 i) :: rowCells n (mat f n) i)
    (ds := vecD n (f i)) (by simp [hi]; rfl)
  unfold vecD at i1
  rw [List.map_map] at i1
  have l1 := lcD_eq (vs := [5]) i1 (by rw [List.length_map, List.length_range]; exact sizeLine_ge (by omega)) c1
  have s0 : p_energy_rows_1_b_0 [some (.pd (bk n told f)), some (.ref 0), some (.pd (.int (i : Int))), some (.pd (fr (sca f n i))), none, none] (hd0 (refs1 i) :: rowCells n (mat f n) i) =
      .ok ((.nx, [some (.pd (bk n told f)), some (.ref 0), some (.pd (.int (i : Int))), some (.pd (fr (sca f n i))), some (.ref (i + 1)), none]), hd0 (refs1 i) :: (rowCells n (mat f n) i ++ [.lst (vecD n fun j => 0 - sca f n i * f i j)])) := by
    unfold p_energy_rows_1_b_0
    rw [v_set, v_own, v_asF, l1]
    simp [bindT, vecD]
  have hset : (vecD n fun j => 0 - sca f n i * f i j).set i (fr (sca f n i)) = vecD n (mat f n i) := by
    rw [vecD_set hi]
    unfold vecD
    apply List.map_congr_left
    intro j hj
    unfold mat
    by_cases e : j = i
    · subst e; simp
    · simp [e, Ne.symm e]
  have hget : (rowCells n (mat f n) i ++ [Cell.lst (vecD n fun j => 0 - sca f n i * f i j)])[i]? = some (.lst (vecD n fun j => 0 - sca f n i * f i j)) := by
    have := get_app0 (rowCells n (mat f n) i) (.lst (vecD n fun j => 0 - sca f n i * f i j)) []
    rw [rowCells_len] at this
    exact this
  have hst : ∀ z, (rowCells n (mat f n) i ++ [Cell.lst (vecD n fun j => 0 - sca f n i * f i j)]).set i z = rowCells n (mat f n) i ++ [z] := fun z => by
    have := set_app0 (rowCells n (mat f n) i) (.lst (vecD n fun j => 0 - sca f n i * f i j)) z []
    rw [rowCells_len] at this
    exact this
  have s1 : p_energy_rows_1_b_1 [some (.pd (bk n told f)), some (.ref 0), some (.pd (.int (i : Int))), some (.pd (fr (sca f n i))), some (.ref (i + 1)), none] (hd0 (refs1 i) :: (rowCells n (mat f n) i ++ [.lst (vecD n fun j => 0 - sca f n i * f i j)])) =
      .ok ((.nx, [some (.pd (bk n told f)), some (.ref 0), some (.pd (.int (i : Int))), some (.pd (fr (sca f n i))), some (.ref (i + 1)), none]), hd0 (refs1 i) :: rowCells n (mat f n) (i + 1)) := by
    have hrc : rowCells n (mat f n) (i + 1) = rowCells n (mat f n) i ++ [.lst (vecD n (mat f n i))] := by
      unfold rowCells
      rw [List.range_succ, List.map_append]
      rfl
    rw [hrc]
    simp [p_energy_rows_1_b_1, hget, ixN_nat' hi, hset, hst]
  have s2 : p_energy_rows_1_b_2 [some (.pd (bk n told f)), some (.ref 0), some (.pd (.int (i : Int))), some (.pd (fr (sca f n i))), some (.ref (i + 1)), none] (hd0 (refs1 i) :: rowCells n (mat f n) (i + 1)) =
      .ok ((.nx, [some (.pd (bk n told f)), some (.ref 0), some (.pd (.int (i : Int))), some (.pd (fr (sca f n i))), some (.ref (i + 1)), none]), hd0 (refs1 (i + 1)) :: rowCells n (mat f n) (i + 1)) := by
    have hl : i < sizeLine := small1000 (by omega)
    have hrf : refs1 (i + 1) = refs1 i ++ [i + 1] := by
      unfold refs1
      rw [List.range_succ, List.map_append]
      rfl
    rw [hrf]
    simp [p_energy_rows_1_b_2, hl, hd_snoc]
  unfold p_energy_rows_1_b
  rw [v_forget, seq_nx s0, seq_nx s1, s2]
  rfl

def matD (n : Nat) (a : Nat → Nat → Rat) : PyData := .list ((List.range n).map fun i => .list (vecD n (a i)))
theorem energy_rows_ok (E : Ebd n f p) : F_energy_rows [bk n told f] = .ok (matD n (mat f n)) := by
  have n5 := E.n5
  have nd := need_ok (told := told) E.toEbk
  have s0 : p_energy_rows_0 [some (.pd (bk n told f)), none, none, none, none, none] [] = .ok ((.nx, [some (.pd (bk n told f)), some (.ref 0), none, none, none, none]), [.lst []]) := by
    simp [p_energy_rows_0, bindT]
  obtain ⟨env', μ', h1, rfl, rfl⟩ := for_rel (T := .tp [(.nm 2), (.nm 3)]) (b := p_energy_rows_1_b) (ei := iEn (eCallP F_need_scales (aCons (eVar 0) aNil)))
    (env := [some (.pd (bk n told f)), some (.ref 0), none, none, none, none]) (μ := [.lst []]) (μ1 := [.lst []])
    (fun i env μ => env = [some (.pd (bk n told f)), some (.ref 0), none, none, none, none] ∧ μ = hd0 (refs1 i) :: rowCells n (mat f n) i)
    (en_ok (α := Nat) (n := n) (fun i => fr (sca f n i)) (by simp [nd])) ⟨rfl, rfl⟩ (fun _ _ _ _ => held_nil) (fun j d env μ hd hp => by
      obtain ⟨rfl, rfl⟩ := hp
      simp only [List.getElem?_map, Option.map_eq_some_iff] at hd
      obtain ⟨j', hj, rfl⟩ := hd
      obtain ⟨hj1, hj2⟩ := List.getElem?_eq_some_iff.mp hj
      simp at hj1 hj2
      subst hj2
      exact ⟨[some (.pd (bk n told f)), some (.ref 0), some (.pd (.int (j : Int))), some (.pd (fr (sca f n j))), none, none], _, _, by simp [bindT, bindTs], .inl (rows_step (told := told) E hj1), rfl, rfl⟩)
  rw [List.length_map, List.length_range] at h1
  have hn1 := E.n1
  obtain ⟨m, rfl⟩ : ∃ m, n = m + 1 := ⟨n - 1, by omega⟩
  have hfr : frz (hd0 (refs1 (m + 1)) :: rowCells (m + 1) (mat f (m + 1)) (m + 1)) (.ref 0) = some (matD (m + 1) (mat f (m + 1))) := by
    have hc : hd0 (refs1 (m + 1)) = .lls (refs1 (m + 1)) := by
      unfold refs1
      rw [List.range_succ_eq_map]
      rfl
    have hf := frzs_of (μ := hd0 (refs1 (m + 1)) :: rowCells (m + 1) (mat f (m + 1)) (m + 1)) (R := fun l => vecD (m + 1) (mat f (m + 1) (l - 1))) (refs1 (m + 1)) (fun l hl => by
      obtain ⟨i, hi, rfl⟩ := List.mem_map.mp hl
      simp at hi
      simp [rowCells, hi])
    rw [hc] at hf ⊢
    simp only [frz, List.getElem?_cons_zero]
    rw [hf]
    simp [matD, refs1, List.map_map, Function.comp_def]
  exact fnP_run ((congrFun (congrFun parts_energy_rows _) _).trans ((seq_nx s0).trans ((seq_nx h1).trans (show p_energy_rows_2 _ _ = _ from by simp [p_energy_rows_2]; rfl)))) rfl hfr
end
end P55

set_option Elab.async false
set_option linter.all false
set_option maxRecDepth 100000
set_option maxHeartbeats 1000000
/-! squares_until. -/
namespace P55
open PySem PySem.Spec PyProof.Rows L2 Zd
theorem lst_ok {a : EvE} {env : Zd.Env} {μ μ1 : Store} {ds : List PyData} (h : a env μ = .ok (.pd (.list ds), μ1)) : iLst a env μ = .ok ((ds.map .pd, []), μ1) := by
  unfold iLst
  rw [h]
  rfl
theorem Sm.of1 {q : Rat} {N D : Nat} (h : Bd N D q) (hN : N ≤ 2 ^ 3000) (hD : D ≤ 2 ^ 3000) : Sm q :=
  h.sm (Nat.lt_of_le_of_lt hN (Nat.pow_lt_pow_right (by decide) (by decide))) (Nat.lt_of_le_of_lt hD (Nat.pow_lt_pow_right (by decide) (by decide)))
theorem nB_le : ∀ t, t ≤ 4 → nB t ≤ 2 ^ 230 ∧ dB t ≤ 2 ^ 230
  | 0, _ => by decide
  | 1, _ => by decide
  | 2, _ => by decide
  | 3, _ => by decide
  | 4, _ => by decide
  | n + 5, h => by omega
/-- all that is wanted of a matrix at a pivot -/
structure Piv (n : Nat) (b : Nat → Nat → Rat) (t : Nat) : Prop where
  lt : t < n
  n5 : n ≤ 5
  bd : ∀ i j, i < n → j < n → t ≤ i → t ≤ j → Bd (2 ^ 230) (2 ^ 230) (b i j)
section
variable {n t : Nat} {b : Nat → Nat → Rat}
theorem pw_mul (a c : Nat) : 2 ^ a * 2 ^ c = 2 ^ (a + c) := (Nat.pow_add 2 a c).symm
theorem Piv.sm (P : Piv n b t) {i j : Nat} (hi : i < n) (hj : j < n) (h1 : t ≤ i) (h2 : t ≤ j) : Sm (b i j) := Sm.of1 (P.bd i j hi hj h1 h2) (Nat.pow_le_pow_right (by decide) (by decide)) (Nat.pow_le_pow_right (by decide) (by decide))
theorem Piv.share (P : Piv n b t) (h0 : b t t ≠ 0) {j : Nat} (hj : j < n) (h2 : t ≤ j) : Bd (2 ^ 460) (2 ^ 460) (b t j / b t t) := by
  have := (P.bd t j P.lt hj (Nat.le_refl _) h2).div (P.bd t t P.lt P.lt (Nat.le_refl _) (Nat.le_refl _)) h0
  rw [pw_mul] at this
  exact this
theorem Piv.by_ (P : Piv n b t) (h0 : b t t ≠ 0) {i j : Nat} (hi : i < n) (hj : j < n) (h1 : t ≤ i) (h2 : t ≤ j) : Sm (b i t * (b t j / b t t)) := by
  have := (P.bd i t hi P.lt h1 (Nat.le_refl _)).mul (P.share h0 hj h2)
  rw [pw_mul] at this
  exact Sm.of1 this (Nat.pow_le_pow_right (by decide) (by decide)) (Nat.pow_le_pow_right (by decide) (by decide))
/-- the rows when those below `one` and of it the places below `other` have been gone through -/
def part (b : Nat → Nat → Rat) (t one other i j : Nat) : Rat := if t < i ∧ t < j ∧ (i < one ∨ (i = one ∧ j < other)) then b i j - b i t * (b t j / b t t) else b i j
def sto (n : Nat) (b : Nat → Nat → Rat) (fd : List PyData) : Store := rowCells n b n ++ [.lls (List.range n), .lst fd]
theorem sto_row {fd : List PyData} {i : Nat} (hi : i < n) : (sto n b fd)[i]? = some (.lst (vecD n (b i))) := by
  unfold sto
  rw [List.getElem?_append_left (by simpa using hi)]
  simp [rowCells, hi]
theorem sto_lls {fd : List PyData} : (sto n b fd)[n]? = some (.lls (List.range n)) := by
  have := get_app0 (rowCells n b n) (.lls (List.range n)) [.lst fd]
  rw [rowCells_len] at this
  exact this
theorem sto_fd {fd : List PyData} : (sto n b fd)[n + 1]? = some (.lst fd) := by
  have := get_app1 (rowCells n b n) (.lls (List.range n)) (.lst fd) []
  rw [rowCells_len] at this
  exact this
theorem sto_set {fd : List PyData} {i : Nat} (hi : i < n) (g : Nat → Rat) : (sto n b fd).set i (.lst (vecD n g)) = sto n (fun a => if a = i then g else b a) fd := by
  unfold sto
  rw [List.set_append_left _ _ (by simpa using hi)]
  congr 1
  apply List.ext_getElem
  · simp
  · intro k h1 h2
    simp only [rowCells, List.getElem_set, List.getElem_map, List.getElem_range]
    by_cases e : i = k
    · subst e; simp
    · simp [e, Ne.symm e]
@[simp] theorem at_rangeL {i : Nat} (hi : i < n) : atI (List.range n) (i : Int) = some i := by
  rw [at_nat]
  simp [hi]
@[simp] theorem at_vec {g : Nat → Rat} {j : Nat} (hj : j < n) : atI (vecD n g) (j : Int) = some (fr (g j)) := at_range (fun j => fr (g j)) hj
theorem sto_congr {c : Nat → Nat → Rat} {fd : List PyData} (h : ∀ i j, i < n → j < n → b i j = c i j) : sto n b fd = sto n c fd := by
  unfold sto rowCells
  congr 1
  apply List.map_congr_left
  intro i hi
  simp at hi
  congr 1
  unfold vecD
  apply List.map_congr_left
  intro j hj
  simp at hj
  rw [h i j hi hj]
/-- the shares of a pivot's row -/
def shareD (n : Nat) (b : Nat → Nat → Rat) (t : Nat) : List PyData := (List.range (n - (t + 1))).map fun k => fr (b t (t + 1 + k) / b t t)
theorem share_at {j : Nat} (hj : j < n) (h : t < j) : atI (shareD n b t) ((j : Int) - (t : Int) - 1) = some (fr (b t j / b t t)) := by
  have e : (j : Int) - (t : Int) - 1 = ((j - t - 1 : Nat) : Int) := by omega
  rw [e]
  unfold shareD
  rw [at_range _ (show j - t - 1 < n - (t + 1) by omega)]
  have : t + 1 + (j - t - 1) = j := by omega
  rw [this]
/-- one place -/
theorem su_place (P : Piv n b t) (h0 : b t t ≠ 0) {one other : Nat} (h1 : t < one) (h2 : one < n) (h3 : t < other) (h4 : other < n) {fd : List PyData} {e3 : Option D} {e8 e9 : Option D} :
    p_squares_until_1_b_4_b_1_bx [some (.ref n), some (.ref (n + 1)), some (.pd (.int (t : Int))), e3, some (.pd (.list (shareD n b t))), some (.pd (.int (one : Int))), some (.pd (fr (b one t))), some (.pd (.int (other : Int))), e8, e9] (sto n (part b t one other) fd) =
      .ok ((.nx, [some (.ref n), some (.ref (n + 1)), some (.pd (.int (t : Int))), e3, some (.pd (.list (shareD n b t))), some (.pd (.int (one : Int))), some (.pd (fr (b one t))), none, e8, e9]), sto n (part b t one (other + 1)) fd) := by
  have smr := P.sm h2 h4 (by omega) (by omega)
  have smb := P.sm h2 P.lt (by omega) (Nat.le_refl _)
  have sms : Sm (b t other / b t t) := Sm.of1 (P.share h0 h4 (by omega)) (Nat.pow_le_pow_right (by decide) (by decide)) (Nat.pow_le_pow_right (by decide) (by decide))
  have e1 := F_times_ok smb sms
  have e2 := F_less_ok smr (P.by_ h0 h2 h4 (by omega) (by omega))
  have hsh := share_at (b := b) h4 h3
  have hp : part b t one other one other = b one other := by
    unfold part
    rw [if_neg (by omega)]
  have g1 := sto_row (b := part b t one other) (fd := fd) h2
  have g2 := sto_lls (b := part b t one other) (fd := fd) (n := n)
  have hv : (vecD n (part b t one other one)).set other (fr (b one other - b one t * (b t other / b t t))) = vecD n (part b t one (other + 1) one) := by
    rw [vecD_set h4]
    unfold vecD
    apply List.map_congr_left
    intro j hj
    simp at hj
    congr 1
    unfold part
    dsimp only
    by_cases e : j = other
    · subst e
      rw [if_pos rfl, if_pos (by omega)]
    · rw [if_neg e]
      by_cases c : t < j ∧ j < other
      · rw [if_pos (by omega), if_pos (by omega)]
      · rw [if_neg (by omega), if_neg (by omega)]
  have hs := sto_set (b := part b t one other) (fd := fd) h2 (part b t one (other + 1) one)
  have hc := sto_congr (n := n) (b := fun a => if a = one then part b t one (other + 1) one else part b t one other a) (c := part b t one (other + 1)) (fd := fd) (fun i j hi hj => by
    by_cases e : i = one
    · simp [e]
    · simp only [e, if_false]
      unfold part
      by_cases c : t < i ∧ t < j ∧ i < one
      · rw [if_pos (by omega), if_pos (by omega)]
      · rw [if_neg (by omega), if_neg (by omega)])
  simp [p_squares_until_1_b_4_b_1_bx, p_squares_until_1_b_4_b_1_b, g1, g2, h2, h4, hp, hsh, e1, e2, ixN_nat' h4, hv, hs, hc, wipeE]

theorem rg2_item {m n j : Nat} {d : D} (hd : ((List.range (n - m)).map fun (k : Nat) => D.pd (.int ((m + k : Nat) : Int)))[j]? = some d) : m + j < n ∧ d = .pd (.int ((m + j : Nat) : Int)) := by
  simp only [List.getElem?_map, Option.map_eq_some_iff] at hd
  obtain ⟨j', hj, rfl⟩ := hd
  obtain ⟨h1, h2⟩ := List.getElem?_eq_some_iff.mp hj
  simp at h1 h2
  subst h2
  exact ⟨by omega, rfl⟩
/-- one row -/
theorem su_row (P : Piv n b t) (h0 : b t t ≠ 0) {one : Nat} (h1 : t < one) (h2 : one < n) {fd : List PyData} {e3 e8 e9 : Option D} :
    p_squares_until_1_b_4_b [some (.ref n), some (.ref (n + 1)), some (.pd (.int (t : Int))), e3, some (.pd (.list (shareD n b t))), some (.pd (.int (one : Int))), none, none, e8, e9] (sto n (part b t one (t + 1)) fd) =
      .ok ((.nx, [some (.ref n), some (.ref (n + 1)), some (.pd (.int (t : Int))), e3, some (.pd (.list (shareD n b t))), none, none, none, e8, e9]), sto n (part b t (one + 1) (t + 1)) fd) := by
  have n5 := P.n5
  have g1 := sto_row (b := part b t one (t + 1)) (fd := fd) h2
  have g2 := sto_lls (b := part b t one (t + 1)) (fd := fd) (n := n)
  have hp : part b t one (t + 1) one t = b one t := by
    unfold part
    rw [if_neg (by omega)]
  have hlt := P.lt
  have s0 : p_squares_until_1_b_4_b_0 [some (.ref n), some (.ref (n + 1)), some (.pd (.int (t : Int))), e3, some (.pd (.list (shareD n b t))), some (.pd (.int (one : Int))), none, none, e8, e9] (sto n (part b t one (t + 1)) fd) =
      .ok ((.nx, [some (.ref n), some (.ref (n + 1)), some (.pd (.int (t : Int))), e3, some (.pd (.list (shareD n b t))), some (.pd (.int (one : Int))), some (.pd (fr (b one t))), none, e8, e9]), sto n (part b t one (t + 1)) fd) := by
    simp [p_squares_until_1_b_4_b_0, g1, g2, h2, hlt, hp, bindT]
  have hlen : eLenL (eVar 0) [some (.ref n), some (.ref (n + 1)), some (.pd (.int (t : Int))), e3, some (.pd (.list (shareD n b t))), some (.pd (.int (one : Int))), some (.pd (fr (b one t))), none, e8, e9] (sto n (part b t one (t + 1)) fd) = .ok (.pd (.int (n : Int)), sto n (part b t one (t + 1)) fd) := by
    have := sto_lls (b := part b t one (t + 1)) (fd := fd) (n := n)
    simp [eLenL, lenD, this]
  obtain ⟨env', μ', q1, rfl, rfl⟩ := for_rel (T := .nm 7) (b := p_squares_until_1_b_4_b_1_bx) (ei := iRg2 (eAdd (eVar 2) (eC (.int 1))) (eLenL (eVar 0)))
    (env := [some (.ref n), some (.ref (n + 1)), some (.pd (.int (t : Int))), e3, some (.pd (.list (shareD n b t))), some (.pd (.int (one : Int))), some (.pd (fr (b one t))), none, e8, e9]) (μ := sto n (part b t one (t + 1)) fd) (μ1 := sto n (part b t one (t + 1)) fd)
    (fun j env μ => env = [some (.ref n), some (.ref (n + 1)), some (.pd (.int (t : Int))), e3, some (.pd (.list (shareD n b t))), some (.pd (.int (one : Int))), some (.pd (fr (b one t))), none, e8, e9] ∧ μ = sto n (part b t one (t + 1 + j)) fd)
    (rg2_ok (m := t + 1) (n := n) (μ1 := sto n (part b t one (t + 1)) fd) (by simp) hlen (by omega) (by omega)) ⟨rfl, rfl⟩ (fun _ _ _ _ => held_nil) (fun j d env μ hd hp => by
      obtain ⟨rfl, rfl⟩ := hp
      obtain ⟨hj, rfl⟩ := rg2_item hd
      exact ⟨[some (.ref n), some (.ref (n + 1)), some (.pd (.int (t : Int))), e3, some (.pd (.list (shareD n b t))), some (.pd (.int (one : Int))), some (.pd (fr (b one t))), some (.pd (.int ((t + 1 + j : Nat) : Int))), e8, e9], _, _, by simp [bindT], .inl (su_place P h0 h1 h2 (by omega) hj), rfl, rfl⟩)
  have hfin : sto n (part b t one (t + 1 + ((List.range (n - (t + 1))).map fun (k : Nat) => D.pd (.int ((t + 1 + k : Nat) : Int))).length)) fd = sto n (part b t (one + 1) (t + 1)) fd := by
    rw [List.length_map, List.length_range]
    refine sto_congr fun i j hi hj => ?_
    unfold part
    by_cases c : t < i ∧ t < j ∧ i ≤ one
    · rw [if_pos (by omega), if_pos (by omega)]
    · rw [if_neg (by omega), if_neg (by omega)]
  unfold p_squares_until_1_b_4_b
  rw [v_forget, seq_nx s0]
  rw [hfin] at q1
  show (p_squares_until_1_b_4_b_1 _ _).bind _ = _
  unfold p_squares_until_1_b_4_b_1
  rw [q1]
  rfl

/-- all rows -/
theorem su_rows (P : Piv n b t) (h0 : b t t ≠ 0) {fd : List PyData} {e3 e8 e9 : Option D} :
    p_squares_until_1_b_4 [some (.ref n), some (.ref (n + 1)), some (.pd (.int (t : Int))), e3, some (.pd (.list (shareD n b t))), none, none, none, e8, e9] (sto n b fd) =
      .ok ((.nx, [some (.ref n), some (.ref (n + 1)), some (.pd (.int (t : Int))), e3, some (.pd (.list (shareD n b t))), none, none, none, e8, e9]), sto n (part b t n (t + 1)) fd) := by
  have n5 := P.n5
  have hlt := P.lt
  have hlen : eLenL (eVar 0) [some (.ref n), some (.ref (n + 1)), some (.pd (.int (t : Int))), e3, some (.pd (.list (shareD n b t))), none, none, none, e8, e9] (sto n b fd) = .ok (.pd (.int (n : Int)), sto n b fd) := by
    have := sto_lls (b := b) (fd := fd) (n := n)
    simp [eLenL, lenD, this]
  have hb0 : sto n b fd = sto n (part b t (t + 1 + 0) (t + 1)) fd := by
    refine sto_congr fun i j hi hj => ?_
    unfold part
    rw [if_neg (by omega)]
  obtain ⟨env', μ', q1, rfl, rfl⟩ := for_rel (T := .nm 5) (b := p_squares_until_1_b_4_b) (ei := iRg2 (eAdd (eVar 2) (eC (.int 1))) (eLenL (eVar 0)))
    (env := [some (.ref n), some (.ref (n + 1)), some (.pd (.int (t : Int))), e3, some (.pd (.list (shareD n b t))), none, none, none, e8, e9]) (μ := sto n b fd) (μ1 := sto n b fd)
    (fun j env μ => env = [some (.ref n), some (.ref (n + 1)), some (.pd (.int (t : Int))), e3, some (.pd (.list (shareD n b t))), none, none, none, e8, e9] ∧ μ = sto n (part b t (t + 1 + j) (t + 1)) fd)
    (rg2_ok (m := t + 1) (n := n) (μ1 := sto n b fd) (by simp) hlen (by omega) (by omega)) ⟨rfl, hb0⟩ (fun _ _ _ _ => held_nil) (fun j d env μ hd hp => by
      obtain ⟨rfl, rfl⟩ := hp
      obtain ⟨hj, rfl⟩ := rg2_item hd
      exact ⟨[some (.ref n), some (.ref (n + 1)), some (.pd (.int (t : Int))), e3, some (.pd (.list (shareD n b t))), some (.pd (.int ((t + 1 + j : Nat) : Int))), none, none, e8, e9], _, _, by simp [bindT], .inl (su_row P h0 (by omega) hj), rfl, rfl⟩)
  have hfin : sto n (part b t (t + 1 + ((List.range (n - (t + 1))).map fun (k : Nat) => D.pd (.int ((t + 1 + k : Nat) : Int))).length) (t + 1)) fd = sto n (part b t n (t + 1)) fd := by
    rw [List.length_map, List.length_range]
    have : t + 1 + (n - (t + 1)) = n := by omega
    rw [this]
  rw [hfin] at q1
  exact q1
/-- a pivot that is none: the end -/
def pairD (q : Rat) (sh : List PyData) : PyData := .tuple [fr q, .tuple sh]
theorem su_stop (P : Piv n b t) (h0 : ¬ 0 < b t t) {fd : List PyData} (hl : fd.length ≤ 10) {e8 e9 : Option D} :
    ∃ env', p_squares_until_1_b [some (.ref n), some (.ref (n + 1)), some (.pd (.int (t : Int))), none, none, none, none, none, e8, e9] (sto n b fd) = .ok ((.rt (.pd (.list (fd ++ [pairD (b t t) []]))), env'), sto n b fd) := by
  have hlt := P.lt
  have g1 := sto_row (b := b) (fd := fd) hlt
  have g2 := sto_lls (b := b) (fd := fd) (n := n)
  have g3 := sto_fd (b := b) (fd := fd) (n := n)
  have s0 : p_squares_until_1_b_0 [some (.ref n), some (.ref (n + 1)), some (.pd (.int (t : Int))), none, none, none, none, none, e8, e9] (sto n b fd) =
      .ok ((.nx, [some (.ref n), some (.ref (n + 1)), some (.pd (.int (t : Int))), some (.pd (fr (b t t))), none, none, none, none, e8, e9]), sto n b fd) := by
    simp [p_squares_until_1_b_0, g1, g2, hlt, bindT]
  have smb := P.sm hlt hlt (Nat.le_refl _) (Nat.le_refl _)
  have e4 := F_compare_ok smb sm0
  have sg : sgn (b t t) 0 ≤ 0 := by
    unfold sgn
    rw [if_neg h0]
    split <;> decide
  have hz : (fd.length + 1 : Nat) ≤ sizeLine := sizeLine_ge (by omega)
  have dr : deref (sto n b fd) (.ref (n + 1)) = some (.list fd) := dreff _ _ _ g3
  have s1 : p_squares_until_1_b_1 [some (.ref n), some (.ref (n + 1)), some (.pd (.int (t : Int))), some (.pd (fr (b t t))), none, none, none, none, e8, e9] (sto n b fd) =
      .ok ((.rt (.pd (.list (fd ++ [pairD (b t t) []]))), [some (.ref n), some (.ref (n + 1)), some (.pd (.int (t : Int))), some (.pd (fr (b t t))), none, none, none, none, e8, e9]), sto n b fd) := by
    simp [p_squares_until_1_b_1, p_squares_until_1_b_1t, zero_fr, e4, sg, dr, hz, sizeLine_ge, pairD]
  unfold p_squares_until_1_b
  rw [v_forget, seq_nx s0, seq_rt s1]
  exact ⟨_, rfl⟩
end
end P55

set_option Elab.async false
set_option linter.all false
set_option maxRecDepth 100000
set_option maxHeartbeats 1000000
/-! squares_until, whole. -/
namespace P55
open PySem PySem.Spec PyProof.Rows L2 Zd
theorem cut_drop (ds : List PyData) (j : Nat) : Zd.cutD ds (some (j : Int)) none = ds.drop j := by
  unfold Zd.cutD
  rw [HT.sIx_nat, HT.sIx_none]
  rw [List.take_of_length_le (by simp)]
  by_cases h : j ≤ ds.length
  · rw [Nat.min_eq_left h]
  · rw [Nat.min_eq_right (by omega), List.drop_eq_nil_of_le (Nat.le_refl _), List.drop_eq_nil_of_le (by omega)]
theorem vec_drop (n j : Nat) (g : Nat → Rat) : (vecD n g).drop j = (List.range (n - j)).map fun k => fr (g (j + k)) := by
  apply List.ext_getElem
  · simp
  · intro k h1 h2
    simp [vecD]
section
variable {n t : Nat} {b : Nat → Nat → Rat}
theorem su_shares (P : Piv n b t) (h0 : b t t ≠ 0) {fd : List PyData} {e4 e5 e6 e7 e8 e9 : Option D} :
    p_squares_until_1_b_2 [some (.ref n), some (.ref (n + 1)), some (.pd (.int (t : Int))), some (.pd (fr (b t t))), e4, e5, e6, e7, e8, e9] (sto n b fd) =
      .ok ((.nx, [some (.ref n), some (.ref (n + 1)), some (.pd (.int (t : Int))), some (.pd (fr (b t t))), some (.pd (.list (shareD n b t))), e5, e6, e7, e8, e9]), sto n b fd) := by
  have hlt := P.lt
  have n5 := P.n5
  have g1 := sto_row (b := b) (fd := fd) hlt
  have g2 := sto_lls (b := b) (fd := fd) (n := n)
  have smt := P.sm hlt hlt (Nat.le_refl _) (Nat.le_refl _)
  have c1 := comp_mapA (g := []) (T := .nm 9) (μ := sto n b fd) (elt := eCallP F_over (aCons (eVar 9) (aCons (eVar 3) aNil)))
    (env := wipeE [some (.ref n), some (.ref (n + 1)), some (.pd (.int (t : Int))), some (.pd (fr (b t t))), e4, e5, e6, e7, e8, e9] [9]) held_nil (fun k => D.pd (fr (b t (t + 1 + k)))) (fun k => D.pd (fr (b t (t + 1 + k) / b t t))) (List.range (n - (t + 1))) (fun k hk => by
      simp at hk
      have e1 := F_over_ok (P.sm hlt (show t + 1 + k < n by omega) (Nat.le_refl _) (by omega)) smt h0
      exact ⟨[some (.ref n), some (.ref (n + 1)), some (.pd (.int (t : Int))), some (.pd (fr (b t t))), e4, e5, e6, e7, e8, some (.pd (fr (b t (t + 1 + k))))], by simp [bindT, wipeE], by simp [e1]⟩)
  have hcut : Zd.cutD (vecD n (b t)) (some ((t : Int) + 1)) none = (List.range (n - (t + 1))).map fun k => fr (b t (t + 1 + k)) := by
    have := cut_drop (vecD n (b t)) (t + 1)
    rw [vec_drop] at this
    simpa using this
  have dr : deref (sto n b fd) (.ref t) = some (.list (vecD n (b t))) := dreff _ _ _ g1
  have i1 := lst_ok (a := eFrz (eSlL (eIx (eVar 0) (eVar 2)) (oSome (eAdd (eVar 2) (eC (.int 1)))) oNone)) (env := [some (.ref n), some (.ref (n + 1)), some (.pd (.int (t : Int))), some (.pd (fr (b t t))), e4, e5, e6, e7, e8, e9]) (μ := sto n b fd) (μ1 := sto n b fd)
    (ds := (List.range (n - (t + 1))).map fun k => fr (b t (t + 1 + k))) (by simp [g2, hlt, dr, hcut])
  rw [List.map_map] at i1
  have l1 := lcD_eq (vs := [9]) i1 (by rw [List.length_map, List.length_range]; exact sizeLine_ge (by omega)) c1
  unfold p_squares_until_1_b_2
  rw [v_set, v_frz, v_asF, l1]
  simp [bindT, shareD]
theorem su_go (P : Piv n b t) (h0 : 0 < b t t) {fd : List PyData} (hl : fd.length ≤ 10) {e8 e9 : Option D} :
    p_squares_until_1_b [some (.ref n), some (.ref (n + 1)), some (.pd (.int (t : Int))), none, none, none, none, none, e8, e9] (sto n b fd) =
      .ok ((.nx, [some (.ref n), some (.ref (n + 1)), none, none, none, none, none, none, e8, e9]), sto n (part b t n (t + 1)) (fd ++ [pairD (b t t) (shareD n b t)])) := by
  have hlt := P.lt
  have ne : b t t ≠ 0 := by grind
  have g1 := sto_row (b := b) (fd := fd) hlt
  have g2 := sto_lls (b := b) (fd := fd) (n := n)
  have g3 := sto_fd (b := b) (fd := fd) (n := n)
  have s0 : p_squares_until_1_b_0 [some (.ref n), some (.ref (n + 1)), some (.pd (.int (t : Int))), none, none, none, none, none, e8, e9] (sto n b fd) =
      .ok ((.nx, [some (.ref n), some (.ref (n + 1)), some (.pd (.int (t : Int))), some (.pd (fr (b t t))), none, none, none, none, e8, e9]), sto n b fd) := by
    simp [p_squares_until_1_b_0, g1, g2, hlt, bindT]
  have smb := P.sm hlt hlt (Nat.le_refl _) (Nat.le_refl _)
  have e4 := F_compare_ok smb sm0
  have sg : sgn (b t t) 0 = 1 := by
    unfold sgn
    rw [if_pos h0, if_neg (by grind)]
    rfl
  rw [sg] at e4
  have s1 : p_squares_until_1_b_1 [some (.ref n), some (.ref (n + 1)), some (.pd (.int (t : Int))), some (.pd (fr (b t t))), none, none, none, none, e8, e9] (sto n b fd) =
      .ok ((.nx, [some (.ref n), some (.ref (n + 1)), some (.pd (.int (t : Int))), some (.pd (fr (b t t))), none, none, none, none, e8, e9]), sto n b fd) := by
    simp [p_squares_until_1_b_1, zero_fr, e4]
  have s2 := su_shares P ne (fd := fd) (e4 := none) (e5 := none) (e6 := none) (e7 := none) (e8 := e8) (e9 := e9)
  have hz : fd.length < sizeLine := small1000 (by omega)
  have hset : (sto n b fd).set (n + 1) (.lst (fd ++ [pairD (b t t) (shareD n b t)])) = sto n b (fd ++ [pairD (b t t) (shareD n b t)]) := by
    have := set_app1 (rowCells n b n) (.lls (List.range n)) (.lst fd) (.lst (fd ++ [pairD (b t t) (shareD n b t)])) []
    rw [rowCells_len] at this
    exact this
  have s3 : p_squares_until_1_b_3 [some (.ref n), some (.ref (n + 1)), some (.pd (.int (t : Int))), some (.pd (fr (b t t))), some (.pd (.list (shareD n b t))), none, none, none, e8, e9] (sto n b fd) =
      .ok ((.nx, [some (.ref n), some (.ref (n + 1)), some (.pd (.int (t : Int))), some (.pd (fr (b t t))), some (.pd (.list (shareD n b t))), none, none, none, e8, e9]), sto n b (fd ++ [pairD (b t t) (shareD n b t)])) := by
    unfold pairD at hset
    simp [p_squares_until_1_b_3, g3, sizeLine_ge, hz, hset, pairD]
  have s4 := su_rows P ne (fd := fd ++ [pairD (b t t) (shareD n b t)]) (e3 := some (.pd (fr (b t t)))) (e8 := e8) (e9 := e9)
  unfold p_squares_until_1_b
  rw [v_forget, seq_nx s0, seq_nx s1, seq_nx s2, seq_nx s3, s4]
  rfl
end
end P55

set_option Elab.async false
set_option linter.all false
set_option maxRecDepth 100000
set_option maxHeartbeats 1000000
/-! squares_until told. -/
namespace P55
open PySem PySem.Spec PyProof.Rows L2 Zd
/-- a pivot's shares -/
def shE (n : Nat) (a : Nat → Nat → Rat) (t : Nat) : List PyData := (List.range (n - (t + 1))).map fun k => fr (el a t t (t + 1 + k) / el a t t t)
def sqR (n : Nat) (a : Nat → Nat → Rat) : Nat → Nat → List PyData
  | 0, _ => []
  | k + 1, t => if 0 < el a t t t then pairD (el a t t t) (shE n a t) :: sqR n a k (t + 1) else [pairD (el a t t t) []]
def itemsF (t k : Nat) : List D := (List.range k).map fun j => D.pd (.int ((t + j : Nat) : Int))
theorem items_cons (t k : Nat) : itemsF t (k + 1) = .pd (.int (t : Int)) :: itemsF (t + 1) k := by
  unfold itemsF
  rw [List.range_succ_eq_map]
  simp only [List.map_cons, List.map_map, Nat.add_zero, List.cons.injEq, true_and]
  apply List.map_congr_left
  intro j _
  simp only [Function.comp_def]
  congr 3
  omega
/-- a matrix whose sizes are known -/
structure Mx (n : Nat) (a : Nat → Nat → Rat) : Prop where
  n1 : 1 ≤ n
  n5 : n ≤ 5
  fx : ∃ D0, 0 < D0 ∧ D0 ≤ 2 ^ 10 ∧ ∀ i j, i < n → j < n → Fx D0 (2 ^ 13) (a i j)
section
variable {n t : Nat} {a b : Nat → Nat → Rat}
theorem Mx.piv (M : Mx n a) (ht : t < n) (hp : ∀ s, s < t → 0 < el a s s s) (hb : ∀ i j, i < n → j < n → t ≤ i → t ≤ j → b i j = el a t i j) : Piv n b t := by
  obtain ⟨D0, d1, d2, d3⟩ := M.fx
  obtain ⟨D, e1, e2, e3⟩ := el_fx d1 d2 d3 t (by omega) hp
  have n5 := M.n5
  obtain ⟨q1, q2⟩ := nB_le t (by omega)
  exact ⟨ht, n5, fun i j hi hj h1 h2 => by
    rw [hb i j hi hj h1 h2]
    exact ((e3 i j hi hj).bd e1).mono q1 (Nat.le_trans e2 q2)⟩
theorem su_loop (M : Mx n a) {e8 e9 : Option D} : ∀ (k t : Nat) (b : Nat → Nat → Rat) (fd : List PyData), t + k = n → (∀ s, s < t → 0 < el a s s s) → (∀ i j, i < n → j < n → t ≤ i → t ≤ j → b i j = el a t i j) → fd.length ≤ t →
    ∃ fl env' μ', loopD [] (.nm 2) p_squares_until_1_b (itemsF t k) [some (.ref n), some (.ref (n + 1)), none, none, none, none, none, none, e8, e9] (sto n b fd) = .ok ((fl, env'), μ') ∧
      (fl = .rt (.pd (.list (fd ++ sqR n a k t))) ∨ (fl = .nx ∧ env' = [some (.ref n), some (.ref (n + 1)), none, none, none, none, none, none, e8, e9] ∧ ∃ b', μ' = sto n b' (fd ++ sqR n a k t)))
  | 0, t, b, fd, hn, hp, hb, hl => by
    refine ⟨.nx, _, _, ?_, .inr ⟨rfl, rfl, b, by simp [sqR]; rfl⟩⟩
    show loopD [] (.nm 2) p_squares_until_1_b [] _ _ = _
    unfold loopD
    rw [if_pos held_nil]
  | k + 1, t, b, fd, hn, hp, hb, hl => by
    have P := M.piv (b := b) (show t < n by omega) hp hb
    have n5 := M.n5
    have ett : b t t = el a t t t := hb t t P.lt P.lt (Nat.le_refl _) (Nat.le_refl _)
    have hbind : bindT (.nm 2) (.pd (.int (t : Int))) [some (.ref n), some (.ref (n + 1)), none, none, none, none, none, none, e8, e9] = some [some (.ref n), some (.ref (n + 1)), some (.pd (.int (t : Int))), none, none, none, none, none, e8, e9] := by simp [bindT]
    rw [items_cons]
    unfold loopD
    rw [if_pos held_nil, hbind]
    dsimp only
    by_cases h0 : 0 < b t t
    · have st := su_go P h0 (fd := fd) (by omega) (e8 := e8) (e9 := e9)
      have hsh : shareD n b t = shE n a t := by
        unfold shareD shE
        apply List.map_congr_left
        intro k hk
        simp at hk
        rw [ett, hb t (t + 1 + k) P.lt (by omega) (Nat.le_refl _) (by omega)]
      have hsq : sqR n a (k + 1) t = pairD (b t t) (shareD n b t) :: sqR n a k (t + 1) := by
        rw [hsh, ett]
        rw [ett] at h0
        show (if 0 < el a t t t then _ else _) = _
        rw [if_pos h0]
      obtain ⟨fl, env', μ', q1, q2⟩ := su_loop M (e8 := e8) (e9 := e9) k (t + 1) (part b t n (t + 1)) (fd ++ [pairD (b t t) (shareD n b t)]) (by omega) (fun s hs => by
        by_cases e : s = t
        · subst e
          rw [← ett]
          exact h0
        · exact hp s (by omega)) (fun i j hi hj h1 h2 => by
        unfold part
        rw [if_pos (by omega), hb i j hi hj (by omega) (by omega), hb i t hi P.lt (by omega) (Nat.le_refl _), hb t j P.lt hj (Nat.le_refl _) (by omega), ett]
        rfl) (by simp; omega)
      refine ⟨fl, env', μ', ?_, ?_⟩
      · rw [st, Out.ok_bind]
        exact q1
      · rw [hsq]
        rw [List.append_assoc] at q2
        exact q2
    · obtain ⟨env', st⟩ := su_stop P h0 (fd := fd) (by omega) (e8 := e8) (e9 := e9)
      have hsq : sqR n a (k + 1) t = [pairD (b t t) []] := by
        rw [ett]
        rw [ett] at h0
        show (if 0 < el a t t t then _ else _) = _
        rw [if_neg h0]
      refine ⟨_, env', _, by rw [st, Out.ok_bind], .inl (by rw [hsq])⟩
theorem su_ok (M : Mx n a) : F_squares_until [matD n a] = .ok (.list (sqR n a n 0)) := by
  have n5 := M.n5
  have s0 : p_squares_until_0 [some (.pd (matD n a)), none, none, none, none, none, none, none, none, none] [] = .ok ((.nx, [some (.ref n), some (.ref (n + 1)), none, none, none, none, none, none, none, none]), sto n a []) := by
    obtain ⟨r, μ', c1, c2, rfl⟩ := comp_rel (g := []) (T := .nm 8) (tst := tYesE) (elt := eOwn (eCallN gList (aCons (eVar 8) aNil))) (env := wipeE [some (.pd (matD n a)), none, none, none, none, none, none, none, none, none] [8])
      (fun i acc μ => acc = (List.range i).map D.ref ∧ μ = rowCells n a i) ((List.range n).map fun i => D.pd (.list (vecD n (a i)))) 0 [] [] ⟨rfl, rfl⟩ (fun _ _ _ _ => held_nil) (fun j d acc μ hd hp => by
        obtain ⟨rfl, rfl⟩ := hp
        simp only [List.getElem?_map, Option.map_eq_some_iff] at hd
        obtain ⟨j', hj, rfl⟩ := hd
        obtain ⟨hj1, hj2⟩ := List.getElem?_eq_some_iff.mp hj
        simp at hj1 hj2
        subst hj2
        refine ⟨[some (.pd (matD n a)), none, none, none, none, none, none, none, some (.pd (.list (vecD n (a j)))), none], _, by simp [bindT, wipeE], .inl ⟨.ref j, rowCells n a (j + 1), rfl, ?_, ?_, ?_⟩⟩
        · have hrc : rowCells n a (j + 1) = rowCells n a j ++ [.lst (vecD n (a j))] := by
            unfold rowCells
            rw [List.range_succ, List.map_append]
            rfl
          simp [hrc]
        · rw [Nat.zero_add, List.range_succ, List.map_append]
          rfl
        · rw [Nat.zero_add])
    rw [List.nil_append] at c2
    subst c2
    have i1 : iLst (eVar 0) [some (.pd (matD n a)), none, none, none, none, none, none, none, none, none] [] = .ok ((((List.range n).map fun i => D.pd (.list (vecD n (a i)))), []), []) := by
      have := lst_ok (a := eVar 0) (env := [some (.pd (matD n a)), none, none, none, none, none, none, none, none, none]) (μ := []) (μ1 := []) (ds := (List.range n).map fun i => .list (vecD n (a i))) rfl
      rw [List.map_map] at this
      exact this
    have l1 := lcD_eq (vs := [8]) i1 (by rw [List.length_map, List.length_range]; exact sizeLine_ge (by omega)) c1
    have hra : refAll ((List.range (0 + ((List.range n).map fun i => D.pd (.list (vecD n (a i)))).length)).map D.ref) = some (List.range n) := by
      rw [List.length_map, List.length_range, Nat.zero_add]
      exact refAll_of _
    unfold p_squares_until_0
    have hn : 0 + ((List.range n).map fun i => D.pd (.list (vecD n (a i)))).length = n := by
      rw [List.length_map, List.length_range, Nat.zero_add]
    rw [hn] at l1
    rw [v_par]
    simp [l1, bindT, bindTs, sto]
  have hlen : eLenL (eVar 0) [some (.ref n), some (.ref (n + 1)), none, none, none, none, none, none, none, none] (sto n a []) = .ok (.pd (.int (n : Int)), sto n a []) := by
    have := sto_lls (b := a) (fd := []) (n := n)
    simp [eLenL, lenD, this]
  have hr := rg1_ok (a := eLenL (eVar 0)) hlen (by omega)
  have hit : ((List.range n).map fun (k : Nat) => D.pd (.int (k : Int))) = itemsF 0 n := by
    unfold itemsF
    simp
  obtain ⟨fl, env', μ', q1, q2⟩ := su_loop M (e8 := none) (e9 := none) n 0 a [] (by omega) (fun s hs => by omega) (fun i j _ _ _ _ => rfl) (by simp)
  have s1 : p_squares_until_1 [some (.ref n), some (.ref (n + 1)), none, none, none, none, none, none, none, none] (sto n a []) = .ok ((fl, env'), μ') := by
    unfold p_squares_until_1 sFor
    rw [hr, Out.ok_bind]
    rw [hit]
    exact q1
  rcases q2 with rfl | ⟨rfl, rfl, b', rfl⟩
  · exact fnP_run ((congrFun (congrFun parts_squares_until _) _).trans ((seq_nx s0).trans (seq_rt s1))) rfl (by simp [frz])
  · have hf : frz (sto n b' ([] ++ sqR n a n 0)) (.ref (n + 1)) = some (.list (sqR n a n 0)) := by
      have := sto_fd (b := b') (fd := [] ++ sqR n a n 0) (n := n)
      simp only [frz]
      rw [this]
      simp
    exact fnP_run ((congrFun (congrFun parts_squares_until _) _).trans ((seq_nx s0).trans ((seq_nx s1).trans (show p_squares_until_2 _ _ = _ from by simp [p_squares_until_2]; rfl)))) rfl hf
end
end P55

set_option Elab.async false
set_option linter.all false
set_option maxRecDepth 100000
set_option maxHeartbeats 1000000
/-! squares_of told. -/
namespace P55
open PySem PySem.Spec PyProof.Rows L2 Zd
def sqI (n : Nat) (a : Nat → Nat → Rat) (t : Nat) : PyData := pairD (el a t t t) (shE n a t)
def AllPos (n : Nat) (a : Nat → Nat → Rat) : Prop := ∀ s, s < n → 0 < el a s s s
/-- the first pivot that is none -/
structure Stops (n : Nat) (a : Nat → Nat → Rat) (t : Nat) : Prop where
  lt : t < n
  before : ∀ s, s < t → 0 < el a s s s
  here : ¬ 0 < el a t t t
theorem pos_or (n : Nat) (a : Nat → Nat → Rat) : AllPos n a ∨ ∃ t, Stops n a t := by
  induction n with
  | zero => exact .inl fun s h => by omega
  | succ n ih =>
    rcases ih with h | ⟨t, h⟩
    · by_cases c : 0 < el a n n n
      · exact .inl fun s hs => by
          by_cases e : s = n
          · subst e; exact c
          · exact h s (by omega)
      · exact .inr ⟨n, by omega, h, c⟩
    · exact .inr ⟨t, by have := h.lt; omega, h.before, h.here⟩
theorem sqR_pos {n : Nat} {a : Nat → Nat → Rat} : ∀ (k t : Nat), (∀ s, t ≤ s → s < t + k → 0 < el a s s s) → sqR n a k t = (List.range k).map fun j => sqI n a (t + j)
  | 0, t, _ => rfl
  | k + 1, t, h => by
    show (if 0 < el a t t t then _ else _) = _
    rw [if_pos (h t (Nat.le_refl _) (by omega)), sqR_pos k (t + 1) fun s h1 h2 => h s (by omega) (by omega)]
    rw [List.range_succ_eq_map]
    simp only [List.map_cons, List.map_map, Nat.add_zero, List.cons.injEq]
    refine ⟨rfl, List.map_congr_left fun j _ => ?_⟩
    simp only [Function.comp_def]
    congr 1
    omega
theorem sqR_stop {n : Nat} {a : Nat → Nat → Rat} : ∀ (k t u : Nat), t ≤ u → u < t + k → (∀ s, t ≤ s → s < u → 0 < el a s s s) → ¬ 0 < el a u u u → sqR n a k t = ((List.range (u - t)).map fun j => sqI n a (t + j)) ++ [pairD (el a u u u) []]
  | 0, t, u, h1, h2, _, _ => by omega
  | k + 1, t, u, h1, h2, h3, h4 => by
    show (if 0 < el a t t t then _ else _) = _
    by_cases e : t = u
    · subst e
      rw [if_neg h4, Nat.sub_self]
      rfl
    · rw [if_pos (h3 t (Nat.le_refl _) (by omega)), sqR_stop k (t + 1) u (by omega) (by omega) (fun s q1 q2 => h3 s (by omega) q2) h4]
      have : u - t = (u - (t + 1)) + 1 := by omega
      rw [this, List.range_succ_eq_map]
      simp only [List.map_cons, List.map_map, Nat.add_zero, List.cons_append, List.cons.injEq]
      refine ⟨rfl, ?_⟩
      congr 1
      apply List.map_congr_left
      intro j _
      simp only [Function.comp_def]
      congr 1
      omega
theorem sq_pos {n : Nat} {a : Nat → Nat → Rat} (h : AllPos n a) : sqR n a n 0 = (List.range n).map (sqI n a) := by
  rw [sqR_pos n 0 fun s _ h2 => h s (by omega)]
  simp
theorem sq_stop {n t : Nat} {a : Nat → Nat → Rat} (h : Stops n a t) : sqR n a n 0 = (List.range t).map (sqI n a) ++ [pairD (el a t t t) []] := by
  have := h.lt
  rw [sqR_stop n 0 t (by omega) (by omega) (fun s _ h2 => h.before s h2) h.here]
  simp
theorem Ebd.mx {n : Nat} {f : Nat → Nat → Rat} {p : Nat → Rat} (E : Ebd n f p) : Mx n (mat f n) := ⟨E.n1, E.n5, 864, by decide, by decide, fun i j hi hj => E.mat_fx hi hj⟩
theorem atI_last {α : Type} (l : List α) (x : α) : atI (l ++ [x]) (-1) = some x := by
  rw [at_last (by simp)]
  simp
theorem pos_last {n : Nat} {a : Nat → Nat → Rat} (h1 : 1 ≤ n) : (List.range n).map (sqI n a) = (List.range (n - 1)).map (sqI n a) ++ [sqI n a (n - 1)] := by
  obtain ⟨m, rfl⟩ : ∃ m, n = m + 1 := ⟨n - 1, by omega⟩
  rw [List.range_succ, List.map_append]
  rfl
section
variable {n : Nat} {told : Nat → Rat} {f : Nat → Nat → Rat} {p : Nat → Rat}
theorem Ebd.until (E : Ebd n f p) : F_squares_until [matD n (mat f n)] = .ok (.list (sqR n (mat f n) n 0)) := su_ok E.mx
theorem Mx.el_sm {a : Nat → Nat → Rat} (M : Mx n a) {t : Nat} (ht : t < n) (hp : ∀ s, s < t → 0 < el a s s s) : Sm (el a t t t) :=
  (M.piv ht hp (b := el a t) fun _ _ _ _ _ _ => rfl).sm ht ht (Nat.le_refl _) (Nat.le_refl _)
theorem squares_of_pos (E : Ebd n f p) (h : AllPos n (mat f n)) : F_squares_of [bk n told f] = .ok (.tuple ((List.range n).map (sqI n (mat f n)))) := by
  have e1 := energy_rows_ok (told := told) E
  have e2 := E.until
  have n1 := E.n1
  have sm := E.mx.el_sm (show n - 1 < n by omega) fun s hs => h s (by omega)
  have e4 := F_compare_ok sm sm0
  have sg : sgn (el (mat f n) (n - 1) (n - 1) (n - 1)) 0 = 1 := by
    unfold sgn
    have := h (n - 1) (by omega)
    rw [if_pos this, if_neg (by grind)]
    rfl
  rw [sg] at e4
  have s0 : p_squares_of_0 [some (.pd (bk n told f)), none] [] = .ok ((.nx, [some (.pd (bk n told f)), some (.pd (.list (sqR n (mat f n) n 0)))]), []) := by
    simp [p_squares_of_0, e1, e2, bindT]
  have hl : atI (sqR n (mat f n) n 0) (-1) = some (sqI n (mat f n) (n - 1)) := by
    rw [sq_pos h, pos_last n1]
    exact atI_last _ _
  have s1 : p_squares_of_1 [some (.pd (bk n told f)), some (.pd (.list (sqR n (mat f n) n 0)))] [] = .ok ((.rt (.pd (.tuple (sqR n (mat f n) n 0))), [some (.pd (bk n told f)), some (.pd (.list (sqR n (mat f n) n 0)))]), []) := by
    simp [p_squares_of_1, hl, sqI, pairD, zero_fr, e4]
  rw [← sq_pos h]
  exact fnP_run ((congrFun (congrFun parts_squares_of _) _).trans ((seq_nx s0).trans s1)) rfl rfl
theorem squares_of_stop (E : Ebd n f p) {t : Nat} (h : Stops n (mat f n) t) : F_squares_of [bk n told f] = .ok .none := by
  have e1 := energy_rows_ok (told := told) E
  have e2 := E.until
  have n1 := E.n1
  have sm := E.mx.el_sm h.lt h.before
  have e4 := F_compare_ok sm sm0
  have sg : sgn (el (mat f n) t t t) 0 ≤ 0 := by
    unfold sgn
    rw [if_neg h.here]
    split <;> decide
  have sg2 : ¬ 0 < sgn (el (mat f n) t t t) 0 := by omega
  have s0 : p_squares_of_0 [some (.pd (bk n told f)), none] [] = .ok ((.nx, [some (.pd (bk n told f)), some (.pd (.list (sqR n (mat f n) n 0)))]), []) := by
    simp [p_squares_of_0, e1, e2, bindT]
  have hl : atI (sqR n (mat f n) n 0) (-1) = some (pairD (el (mat f n) t t t) []) := by
    rw [sq_stop h]
    exact atI_last _ _
  have s1 : p_squares_of_1 [some (.pd (bk n told f)), some (.pd (.list (sqR n (mat f n) n 0)))] [] = .ok ((.rt (.pd .none), [some (.pd (bk n told f)), some (.pd (.list (sqR n (mat f n) n 0)))]), []) := by
    simp [p_squares_of_1, hl, pairD, zero_fr, e4, sg, sg2]
  exact fnP_run ((congrFun (congrFun parts_squares_of _) _).trans ((seq_nx s0).trans s1)) rfl rfl
end
end P55

set_option Elab.async false
set_option linter.all false
set_option maxRecDepth 100000
set_option maxHeartbeats 1000000
/-! _law_squares: the rows. -/
namespace P55
open PySem PySem.Spec PyProof.Rows L2 Zd
@[simp] theorem v_setIxL (a b c : EvE) (env : Zd.Env) (μ : Store) : sSetIxL a b c env μ = (c env μ).bind fun p => (a env p.2).bind fun q => (b env q.2).bind fun r =>
  match p.1, q.1, asI r.1 with
  | .ref l', .ref l, some i => match llsAt r.2 l with
    | some ls => match ixN ls.length i with
      | some j => .ok ((.nx, env), r.2.set l (.lls (ls.set j l')))
      | none => .stuck
    | _ => .stuck
  | _, _, _ => .stuck := rfl
/-- the law's store: what is found, the rows -/
structure LS (n : Nat) (fd : List PyData) (g : Nat → Nat → Rat) (μ : Store) (ls : List Nat) : Prop where
  f0 : μ[0]? = some (.lst fd)
  f1 : μ[1]? = some (.lls ls)
  ln : ls.length = n
  rw : ∀ i, i < n → ∃ l, ls[i]? = some l ∧ 2 ≤ l ∧ μ[l]? = some (.lst (vecD n (g i)))
section
variable {n : Nat} {fd : List PyData} {g : Nat → Nat → Rat} {μ : Store} {ls : List Nat}
theorem LS.lt (L : LS n fd g μ ls) : 1 < μ.length := (List.getElem?_eq_some_iff.mp L.f1).1
theorem LS.put (L : LS n fd g μ ls) {one : Nat} (h1 : one < n) (h : Nat → Rat) : LS n fd (fun i => if i = one then h else g i) ((μ ++ [Cell.lst (vecD n h)]).set 1 (Cell.lls (ls.set one μ.length))) (ls.set one μ.length) := by
  have lt := L.lt
  refine ⟨?_, ?_, by rw [List.length_set]; exact L.ln, fun i hi => ?_⟩
  · rw [List.getElem?_set_ne (by decide), List.getElem?_append_left (by omega)]
    exact L.f0
  · rw [List.getElem?_set_self (by simp; omega)]
  · have hl := L.ln
    by_cases e : i = one
    · subst e
      refine ⟨μ.length, List.getElem?_set_self (by omega), by omega, ?_⟩
      rw [List.getElem?_set_ne (by omega)]
      simp
    · obtain ⟨l, k1, k2, k3⟩ := L.rw i hi
      refine ⟨l, by rw [List.getElem?_set_ne (Ne.symm e)]; exact k1, k2, ?_⟩
      have := (List.getElem?_eq_some_iff.mp k3).1
      rw [List.getElem?_set_ne (by omega), List.getElem?_append_left this, k3, if_neg e]
theorem LS.app (L : LS n fd g μ ls) (x : PyData) : LS n (fd ++ [x]) g (μ.set 0 (.lst (fd ++ [x]))) ls := by
  have lt := L.lt
  refine ⟨List.getElem?_set_self (by omega), by rw [List.getElem?_set_ne (by decide)]; exact L.f1, L.ln, fun i hi => ?_⟩
  obtain ⟨l, k1, k2, k3⟩ := L.rw i hi
  exact ⟨l, k1, k2, by rw [List.getElem?_set_ne (by omega)]; exact k3⟩
theorem LS.congr (L : LS n fd g μ ls) {h : Nat → Nat → Rat} (e : ∀ i j, i < n → j < n → g i j = h i j) : LS n fd h μ ls := ⟨L.f0, L.f1, L.ln, fun i hi => by
  obtain ⟨l, k1, k2, k3⟩ := L.rw i hi
  refine ⟨l, k1, k2, ?_⟩
  rw [k3]
  congr 2
  unfold vecD
  apply List.map_congr_left
  intro j hj
  simp at hj
  rw [e i j hi hj]⟩
end
section
variable {n : Nat} {told : Nat → Rat} {f : Nat → Nat → Rat} {p : Nat → Rat}
def refs2 (m : Nat) : List Nat := (List.range m).map (· + 2)
@[simp] theorem refs2_len (m : Nat) : (refs2 m).length = m := by simp [refs2]
def scD (n : Nat) (f : Nat → Nat → Rat) : PyData := .tuple (vecD n (sca f n))
@[simp] theorem lls_hd1 (c : Cell) (ls : List Nat) (r : Store) : llsAt (c :: hd0 ls :: r) 1 = some ls := by
  cases ls <;> rfl
theorem lsq_row (E : Ebd n f p) {i : Nat} (hi : i < n) :
    p_law_squares_1_b [some (.pd (bk n told f)), some (.pd (scD n f)), some (.pd (.int (n : Int))), some (.ref 0), some (.ref 1), some (.pd (.int (i : Int))), none, none, none, none, none, none, none, none] (.lst [] :: hd0 (refs2 i) :: rowCells n (mat f n) i) =
      .ok ((.nx, [some (.pd (bk n told f)), some (.pd (scD n f)), some (.pd (.int (n : Int))), some (.ref 0), some (.ref 1), none, none, none, none, none, none, none, none, none]), .lst [] :: hd0 (refs2 (i + 1)) :: rowCells n (mat f n) (i + 1)) := by
  have n5 := E.n5
  have smi : Sm (sca f n i) := Sm.of200 ((E.sca_fx hi).bd (by decide)) (by decide) (by decide)
  have hsc : atI (vecD n (sca f n)) (i : Int) = some (fr (sca f n i)) := at_vec hi
  have c1 := comp_mapA (g := []) (T := .nm 11) (μ := .lst [] :: hd0 (refs2 i) :: rowCells n (mat f n) i) (elt := eCallP F__law_minus (aCons (eTup (aCons (eC (.int 0)) (aCons (eC (.int 1)) aNil))) (aCons (eCallP F__law_by (aCons (eIx (eVar 1) (eVar 5)) (aCons (eVar 11) aNil))) aNil)))
    (env := wipeE [some (.pd (bk n told f)), some (.pd (scD n f)), some (.pd (.int (n : Int))), some (.ref 0), some (.ref 1), some (.pd (.int (i : Int))), none, none, none, none, none, none, none, none] [11]) held_nil (fun j => D.pd (fr (f i j))) (fun j => D.pd (fr (0 - sca f n i * f i j))) (List.range n) (fun j hj => by
      simp at hj
      have smp : Sm (sca f n i * f i j) := Sm.of200 (((E.sca_fx hi).mul (E.ff i j hi hj)).bd (by decide)) (by decide) (by decide)
      have e1 := L_by_ok smi (E.fs hi hj)
      have e2 := L_minus_ok sm0 smp
      have hz : PyData.tuple [.int 0, .int 1] = fr 0 := rfl
      exact ⟨[some (.pd (bk n told f)), some (.pd (scD n f)), some (.pd (.int (n : Int))), some (.ref 0), some (.ref 1), some (.pd (.int (i : Int))), none, none, none, none, none, some (.pd (fr (f i j))), none, none], by simp [bindT, wipeE], by simp [scD, hsc, e1, hz, e2, sizeLine_ge]⟩)
  have i1 := tp_ok (a := eIx (eIx (eIx (eVar 0) (eVar 5)) (eC (.int 0))) (eC (.int 1))) (env := [some (.pd (bk n told f)), some (.pd (scD n f)), some (.pd (.int (n : Int))), some (.ref 0), some (.ref 1), some (.pd (.int (i : Int))), none, none, none, none, none, none, none, none]) (μ := .lst [] :: hd0 (refs2 i) :: rowCells n (mat f n) i) (μ1 := .lst [] :: hd0 (refs2 i) :: rowCells n (mat f n) i)
    (ds := vecD n (f i)) (by simp [hi]; rfl)
  unfold vecD at i1
  rw [List.map_map] at i1
  have l1 := lcD_eq (vs := [11]) i1 (by rw [List.length_map, List.length_range]; exact sizeLine_ge (by omega)) c1
  have s0 : p_law_squares_1_b_0 [some (.pd (bk n told f)), some (.pd (scD n f)), some (.pd (.int (n : Int))), some (.ref 0), some (.ref 1), some (.pd (.int (i : Int))), none, none, none, none, none, none, none, none] (.lst [] :: hd0 (refs2 i) :: rowCells n (mat f n) i) =
      .ok ((.nx, [some (.pd (bk n told f)), some (.pd (scD n f)), some (.pd (.int (n : Int))), some (.ref 0), some (.ref 1), some (.pd (.int (i : Int))), some (.ref (i + 2)), none, none, none, none, none, none, none]), .lst [] :: hd0 (refs2 i) :: (rowCells n (mat f n) i ++ [.lst (vecD n fun j => 0 - sca f n i * f i j)])) := by
    unfold p_law_squares_1_b_0
    rw [v_set, v_own, v_asF, l1]
    simp [bindT, vecD]
  have hset : (vecD n fun j => 0 - sca f n i * f i j).set i (fr (sca f n i)) = vecD n (mat f n i) := by
    rw [vecD_set hi]
    unfold vecD
    apply List.map_congr_left
    intro j hj
    unfold mat
    by_cases e : j = i
    · subst e; simp
    · simp [e, Ne.symm e]
  have hget : (rowCells n (mat f n) i ++ [Cell.lst (vecD n fun j => 0 - sca f n i * f i j)])[i]? = some (.lst (vecD n fun j => 0 - sca f n i * f i j)) := by
    have := get_app0 (rowCells n (mat f n) i) (.lst (vecD n fun j => 0 - sca f n i * f i j)) []
    rw [rowCells_len] at this
    exact this
  have hst : ∀ z, (rowCells n (mat f n) i ++ [Cell.lst (vecD n fun j => 0 - sca f n i * f i j)]).set i z = rowCells n (mat f n) i ++ [z] := fun z => by
    have := set_app0 (rowCells n (mat f n) i) (.lst (vecD n fun j => 0 - sca f n i * f i j)) z []
    rw [rowCells_len] at this
    exact this
  have s1 : p_law_squares_1_b_1 [some (.pd (bk n told f)), some (.pd (scD n f)), some (.pd (.int (n : Int))), some (.ref 0), some (.ref 1), some (.pd (.int (i : Int))), some (.ref (i + 2)), none, none, none, none, none, none, none] (.lst [] :: hd0 (refs2 i) :: (rowCells n (mat f n) i ++ [.lst (vecD n fun j => 0 - sca f n i * f i j)])) =
      .ok ((.nx, [some (.pd (bk n told f)), some (.pd (scD n f)), some (.pd (.int (n : Int))), some (.ref 0), some (.ref 1), some (.pd (.int (i : Int))), some (.ref (i + 2)), none, none, none, none, none, none, none]), .lst [] :: hd0 (refs2 i) :: rowCells n (mat f n) (i + 1)) := by
    have hrc : rowCells n (mat f n) (i + 1) = rowCells n (mat f n) i ++ [.lst (vecD n (mat f n i))] := by
      unfold rowCells
      rw [List.range_succ, List.map_append]
      rfl
    rw [hrc]
    simp [p_law_squares_1_b_1, scD, hsc, hget, ixN_nat' hi, hset, hst]
  have s2 : p_law_squares_1_b_2 [some (.pd (bk n told f)), some (.pd (scD n f)), some (.pd (.int (n : Int))), some (.ref 0), some (.ref 1), some (.pd (.int (i : Int))), some (.ref (i + 2)), none, none, none, none, none, none, none] (.lst [] :: hd0 (refs2 i) :: rowCells n (mat f n) (i + 1)) =
      .ok ((.nx, [some (.pd (bk n told f)), some (.pd (scD n f)), some (.pd (.int (n : Int))), some (.ref 0), some (.ref 1), some (.pd (.int (i : Int))), some (.ref (i + 2)), none, none, none, none, none, none, none]), .lst [] :: hd0 (refs2 (i + 1)) :: rowCells n (mat f n) (i + 1)) := by
    have hl : i < sizeLine := small1000 (by omega)
    have hrf : refs2 (i + 1) = refs2 i ++ [i + 2] := by
      unfold refs2
      rw [List.range_succ, List.map_append]
      rfl
    rw [hrf]
    simp [p_law_squares_1_b_2, hl, hd_snoc]
  unfold p_law_squares_1_b
  rw [v_forget, seq_nx s0, seq_nx s1, s2]
  rfl
end
end P55

set_option Elab.async false
set_option linter.all false
set_option maxRecDepth 100000
set_option maxHeartbeats 1000000
/-! _law_squares: one row taken down. -/
namespace P55
open PySem PySem.Spec PyProof.Rows L2 Zd
theorem held_one {l : Nat} {c : Cell} {μ : Store} (h : μ[l]? = some c) : Held ([(l, c)] ++ []) μ := by
  intro q hq
  simp at hq
  subst hq
  exact h
theorem zip_range (n : Nat) (g h : Nat → PyData) : (List.zipWith (fun d e => D.pd (.tuple [d, e])) ((List.range n).map g) ((List.range n).map h)) = (List.range n).map fun k => D.pd (.tuple [g k, h k]) := by
  rw [List.zipWith_map]
  apply List.ext_getElem
  · simp
  · intro k h1 h2
    simp
section
variable {n t : Nat} {a g : Nat → Nat → Rat} {fd : List PyData} {μ : Store} {ls : List Nat}
/-- the row a pivot divided -/
def quo (n : Nat) (a : Nat → Nat → Rat) (t : Nat) : List PyData := vecD n fun j => el a t t j / el a t t t
theorem Mx.pv (M : Mx n a) (ht : t < n) (hp : ∀ s, s < t → 0 < el a s s s) {i j : Nat} (hi : i < n) (hj : j < n) : Bd (2 ^ 230) (2 ^ 230) (el a t i j) := by
  obtain ⟨D0, d1, d2, d3⟩ := M.fx
  obtain ⟨D, e1, e2, e3⟩ := el_fx d1 d2 d3 t (by omega) hp
  have n5 := M.n5
  obtain ⟨q1, q2⟩ := nB_le t (by omega)
  exact ((e3 i j hi hj).bd e1).mono q1 (Nat.le_trans e2 q2)
theorem lsq_one (M : Mx n a) (ht : t < n) (hp : ∀ s, s < t → 0 < el a s s s) (h0 : 0 < el a t t t) {one : Nat} (h1 : t < one) (h2 : one < n) (L : LS n fd g μ ls) (hg : ∀ j, j < n → g one j = el a t one j) {e0 e1 : Option D} :
    ∃ μ' ls', p_law_squares_2_b_4_bx [e0, e1, some (.pd (.int (n : Int))), some (.ref 0), some (.ref 1), none, none, some (.pd (.int (t : Int))), some (.pd (fr (el a t t t))), some (.pd (.list (quo n a t))), some (.pd (.int (one : Int))), none, none, none] μ =
      .ok ((.nx, [e0, e1, some (.pd (.int (n : Int))), some (.ref 0), some (.ref 1), none, none, some (.pd (.int (t : Int))), some (.pd (fr (el a t t t))), some (.pd (.list (quo n a t))), none, none, none, none]), μ') ∧ LS n fd (fun i => if i = one then el a (t + 1) one else g i) μ' ls' := by
  have n5 := M.n5
  obtain ⟨l, k1, k2, k3⟩ := L.rw one h2
  have ln := L.ln
  have f1 := L.f1
  have hat : atI ls (one : Int) = some l := by rw [at_nat]; exact k1
  have hix : ixN ls.length (one : Int) = some one := ixN_nat' (by omega)
  have hv : vecD n (g one) = vecD n (el a t one) := by
    unfold vecD
    apply List.map_congr_left
    intro j hj
    simp at hj
    rw [hg j hj]
  rw [hv] at k3
  have ne : el a t t t ≠ 0 := by grind
  have hz : ∀ j, j < n → Bd (2 ^ 460) (2 ^ 460) (el a t t j / el a t t t) := fun j hj => by
    have := (M.pv ht hp ht hj).div (M.pv ht hp ht ht) ne
    rw [pw_mul] at this
    exact this
  have big : ∀ k, k ≤ 3000 → 2 ^ k ≤ 2 ^ 3000 := fun k hk => Nat.pow_le_pow_right (by decide) hk
  have c1 := comp_mapA (g := [(l, .lst (vecD n (el a t one)))] ++ []) (T := .tp [.nm 12, .nm 13]) (μ := μ) (elt := eCallP F__law_minus (aCons (eVar 12) (aCons (eCallP F__law_by (aCons (eIx (eIx (eVar 4) (eVar 10)) (eVar 7)) (aCons (eVar 13) aNil))) aNil)))
    (env := wipeE [e0, e1, some (.pd (.int (n : Int))), some (.ref 0), some (.ref 1), none, none, some (.pd (.int (t : Int))), some (.pd (fr (el a t t t))), some (.pd (.list (quo n a t))), some (.pd (.int (one : Int))), none, none, none] [12, 13]) (held_one k3) (fun j => D.pd (.tuple [fr (el a t one j), fr (el a t t j / el a t t t)])) (fun j => D.pd (fr (el a (t + 1) one j))) (List.range n) (fun j hj => by
      simp at hj
      have sa := M.pv ht hp h2 ht
      have sb := hz j hj
      have sc := sa.mul sb
      rw [pw_mul] at sc
      have x1 := L_by_ok (Sm.of1 sa (big _ (by decide)) (big _ (by decide))) (Sm.of1 sb (big _ (by decide)) (big _ (by decide)))
      have x2 := L_minus_ok (Sm.of1 (M.pv ht hp h2 hj) (big _ (by decide)) (big _ (by decide))) (Sm.of1 sc (big _ (by decide)) (big _ (by decide)))
      exact ⟨[e0, e1, some (.pd (.int (n : Int))), some (.ref 0), some (.ref 1), none, none, some (.pd (.int (t : Int))), some (.pd (fr (el a t t t))), some (.pd (.list (quo n a t))), some (.pd (.int (one : Int))), none, some (.pd (fr (el a t one j))), some (.pd (fr (el a t t j / el a t t t)))], by simp [bindT, bindTs, wipeE], by simp [f1, hat, k3, ht, x1, x2]; rfl⟩)
  have i1 : iZp (eIx (eVar 4) (eVar 10)) (eVar 9) [e0, e1, some (.pd (.int (n : Int))), some (.ref 0), some (.ref 1), none, none, some (.pd (.int (t : Int))), some (.pd (fr (el a t t t))), some (.pd (.list (quo n a t))), some (.pd (.int (one : Int))), none, none, none] μ =
      .ok ((((List.range n).map fun j => D.pd (.tuple [fr (el a t one j), fr (el a t t j / el a t t t)])), [(l, .lst (vecD n (el a t one)))] ++ []), μ) := by
    have z := zip_range n (fun j => fr (el a t one j)) (fun j => fr (el a t t j / el a t t t))
    simp [iZp, f1, hat, srcA, srcL, k3, quo]
    exact z
  have l1 := lcD_eq (vs := [12, 13]) i1 (by rw [List.length_map, List.length_range]; exact sizeLine_ge (by omega)) c1
  have lt := L.lt
  have f1' : (μ ++ [Cell.lst (vecD n (el a (t + 1) one))])[1]? = some (.lls ls) := by
    rw [List.getElem?_append_left (by omega)]
    exact f1
  refine ⟨_, _, ?_, L.put h2 (el a (t + 1) one)⟩
  unfold p_law_squares_2_b_4_bx p_law_squares_2_b_4_b
  rw [v_forget, v_setIxL, v_own, v_asF, l1]
  unfold vecD at f1'
  simp [f1', hix, wipeE, vecD, llsAt]
end
end P55

set_option Elab.async false
set_option linter.all false
set_option maxRecDepth 100000
set_option maxHeartbeats 1000000
/-! _law_squares: one pivot. -/
namespace P55
open PySem PySem.Spec PyProof.Rows L2 Zd
section
variable {n t : Nat} {a g : Nat → Nat → Rat} {fd : List PyData} {μ : Store} {ls : List Nat}
theorem quo_cut : Zd.cutD (quo n a t) (some ((t : Int) + 1)) none = shE n a t := by
  have := cut_drop (quo n a t) (t + 1)
  unfold quo at this
  rw [vec_drop] at this
  unfold shE quo
  simpa using this
theorem num_le {q : Rat} (h : ¬ 0 < q) : q.num ≤ 0 := by
  rw [Rat.lt_iff] at h
  simp at h
  omega
theorem num_gt {q : Rat} (h : 0 < q) : ¬ q.num ≤ 0 := by
  rw [Rat.lt_iff] at h
  simp at h
  omega
theorem lsq_stop (M : Mx n a) (ht : t < n) (h0 : ¬ 0 < el a t t t) (L : LS n fd g μ ls) (hg : g t t = el a t t t) {e0 e1 : Option D} :
    ∃ env', p_law_squares_2_b [e0, e1, some (.pd (.int (n : Int))), some (.ref 0), some (.ref 1), none, none, some (.pd (.int (t : Int))), none, none, none, none, none, none] μ = .ok ((.rt (.pd .none), env'), μ) := by
  obtain ⟨l, k1, k2, k3⟩ := L.rw t ht
  have f1 := L.f1
  have hat : atI ls (t : Int) = some l := by rw [at_nat]; exact k1
  have s0 : p_law_squares_2_b_0 [e0, e1, some (.pd (.int (n : Int))), some (.ref 0), some (.ref 1), none, none, some (.pd (.int (t : Int))), none, none, none, none, none, none] μ =
      .ok ((.nx, [e0, e1, some (.pd (.int (n : Int))), some (.ref 0), some (.ref 1), none, none, some (.pd (.int (t : Int))), some (.pd (fr (el a t t t))), none, none, none, none, none]), μ) := by
    simp [p_law_squares_2_b_0, f1, hat, k3, ht, hg, bindT]
  have s1 : p_law_squares_2_b_1 [e0, e1, some (.pd (.int (n : Int))), some (.ref 0), some (.ref 1), none, none, some (.pd (.int (t : Int))), some (.pd (fr (el a t t t))), none, none, none, none, none] μ =
      .ok ((.rt (.pd .none), [e0, e1, some (.pd (.int (n : Int))), some (.ref 0), some (.ref 1), none, none, some (.pd (.int (t : Int))), some (.pd (fr (el a t t t))), none, none, none, none, none]), μ) := by
    have := num_le h0
    simp [p_law_squares_2_b_1, p_law_squares_2_b_1t, fr, this]
  unfold p_law_squares_2_b
  rw [v_forget, seq_nx s0, seq_rt s1]
  exact ⟨_, rfl⟩
theorem lsq_go (M : Mx n a) (ht : t < n) (hp : ∀ s, s < t → 0 < el a s s s) (h0 : 0 < el a t t t) (L : LS n fd g μ ls) (hl : fd.length ≤ 10) (hg : ∀ i j, i < n → j < n → t ≤ i → g i j = el a t i j) {e0 e1 : Option D} :
    ∃ μ' ls' g', p_law_squares_2_b [e0, e1, some (.pd (.int (n : Int))), some (.ref 0), some (.ref 1), none, none, some (.pd (.int (t : Int))), none, none, none, none, none, none] μ =
      .ok ((.nx, [e0, e1, some (.pd (.int (n : Int))), some (.ref 0), some (.ref 1), none, none, none, none, none, none, none, none, none]), μ') ∧ LS n (fd ++ [sqI n a t]) g' μ' ls' ∧ ∀ i j, i < n → j < n → t + 1 ≤ i → g' i j = el a (t + 1) i j := by
  have n5 := M.n5
  obtain ⟨l, k1, k2, k3⟩ := L.rw t ht
  have f1 := L.f1
  have f0 := L.f0
  have hat : atI ls (t : Int) = some l := by rw [at_nat]; exact k1
  have hv : vecD n (g t) = vecD n (el a t t) := by
    unfold vecD
    apply List.map_congr_left
    intro j hj
    simp at hj
    rw [hg t j ht hj (Nat.le_refl _)]
  rw [hv] at k3
  have s0 : p_law_squares_2_b_0 [e0, e1, some (.pd (.int (n : Int))), some (.ref 0), some (.ref 1), none, none, some (.pd (.int (t : Int))), none, none, none, none, none, none] μ =
      .ok ((.nx, [e0, e1, some (.pd (.int (n : Int))), some (.ref 0), some (.ref 1), none, none, some (.pd (.int (t : Int))), some (.pd (fr (el a t t t))), none, none, none, none, none]), μ) := by
    simp [p_law_squares_2_b_0, f1, hat, k3, ht, bindT]
  have s1 : p_law_squares_2_b_1 [e0, e1, some (.pd (.int (n : Int))), some (.ref 0), some (.ref 1), none, none, some (.pd (.int (t : Int))), some (.pd (fr (el a t t t))), none, none, none, none, none] μ =
      .ok ((.nx, [e0, e1, some (.pd (.int (n : Int))), some (.ref 0), some (.ref 1), none, none, some (.pd (.int (t : Int))), some (.pd (fr (el a t t t))), none, none, none, none, none]), μ) := by
    have := num_gt h0
    simp [p_law_squares_2_b_1, p_law_squares_2_b_1t, fr, this]
  have ne : el a t t t ≠ 0 := by grind
  have big : ∀ k, k ≤ 3000 → 2 ^ k ≤ 2 ^ 3000 := fun k hk => Nat.pow_le_pow_right (by decide) hk
  have c1 := comp_mapA (g := [(l, .lst (vecD n (el a t t)))]) (T := .nm 12) (μ := μ) (elt := eCallP F__law_over (aCons (eVar 12) (aCons (eVar 8) aNil)))
    (env := wipeE [e0, e1, some (.pd (.int (n : Int))), some (.ref 0), some (.ref 1), none, none, some (.pd (.int (t : Int))), some (.pd (fr (el a t t t))), none, none, none, none, none] [12]) (held_one k3) (fun j => D.pd (fr (el a t t j))) (fun j => D.pd (fr (el a t t j / el a t t t))) (List.range n) (fun j hj => by
      simp at hj
      have x1 := L_over_ok (Sm.of1 (M.pv ht hp ht hj) (big _ (by decide)) (big _ (by decide))) (Sm.of1 (M.pv ht hp ht ht) (big _ (by decide)) (big _ (by decide))) ne
      exact ⟨[e0, e1, some (.pd (.int (n : Int))), some (.ref 0), some (.ref 1), none, none, some (.pd (.int (t : Int))), some (.pd (fr (el a t t t))), none, none, none, some (.pd (fr (el a t t j))), none], by simp [bindT, wipeE], by simp [x1]⟩)
  have i1 : iLst (eIx (eVar 4) (eVar 7)) [e0, e1, some (.pd (.int (n : Int))), some (.ref 0), some (.ref 1), none, none, some (.pd (.int (t : Int))), some (.pd (fr (el a t t t))), none, none, none, none, none] μ = .ok ((((List.range n).map fun j => D.pd (fr (el a t t j))), [(l, .lst (vecD n (el a t t)))]), μ) := by
    simp [iLst, f1, hat, srcL, k3]
    simp [vecD]
  have l1 := lcD_eq (vs := [12]) i1 (by rw [List.length_map, List.length_range]; exact sizeLine_ge (by omega)) c1
  have s2 : p_law_squares_2_b_2 [e0, e1, some (.pd (.int (n : Int))), some (.ref 0), some (.ref 1), none, none, some (.pd (.int (t : Int))), some (.pd (fr (el a t t t))), none, none, none, none, none] μ =
      .ok ((.nx, [e0, e1, some (.pd (.int (n : Int))), some (.ref 0), some (.ref 1), none, none, some (.pd (.int (t : Int))), some (.pd (fr (el a t t t))), some (.pd (.list (quo n a t))), none, none, none, none]), μ) := by
    unfold p_law_squares_2_b_2
    rw [v_set, v_frz, v_asF, l1]
    simp [bindT, quo, vecD]
  have hz : fd.length < sizeLine := small1000 (by omega)
  have qc := quo_cut (n := n) (a := a) (t := t)
  have s3 : p_law_squares_2_b_3 [e0, e1, some (.pd (.int (n : Int))), some (.ref 0), some (.ref 1), none, none, some (.pd (.int (t : Int))), some (.pd (fr (el a t t t))), some (.pd (.list (quo n a t))), none, none, none, none] μ =
      .ok ((.nx, [e0, e1, some (.pd (.int (n : Int))), some (.ref 0), some (.ref 1), none, none, some (.pd (.int (t : Int))), some (.pd (fr (el a t t t))), some (.pd (.list (quo n a t))), none, none, none, none]), μ.set 0 (.lst (fd ++ [sqI n a t]))) := by
    simp [p_law_squares_2_b_3, f0, qc, hz, sizeLine_ge, sqI, pairD]
  have L1 := L.app (sqI n a t)
  obtain ⟨env', μ', q1, rfl, ls', g', q2, q3⟩ := for_rel (T := .nm 10) (b := p_law_squares_2_b_4_bx) (ei := iRg2 (eAdd (eVar 7) (eC (.int 1))) (eVar 2))
    (env := [e0, e1, some (.pd (.int (n : Int))), some (.ref 0), some (.ref 1), none, none, some (.pd (.int (t : Int))), some (.pd (fr (el a t t t))), some (.pd (.list (quo n a t))), none, none, none, none]) (μ := μ.set 0 (.lst (fd ++ [sqI n a t]))) (μ1 := μ.set 0 (.lst (fd ++ [sqI n a t])))
    (fun k env μ => env = [e0, e1, some (.pd (.int (n : Int))), some (.ref 0), some (.ref 1), none, none, some (.pd (.int (t : Int))), some (.pd (fr (el a t t t))), some (.pd (.list (quo n a t))), none, none, none, none] ∧ ∃ ls g', LS n (fd ++ [sqI n a t]) g' μ ls ∧ ∀ i j, i < n → j < n → t + 1 ≤ i → g' i j = if i < t + 1 + k then el a (t + 1) i j else el a t i j)
    (rg2_ok (m := t + 1) (n := n) (μ1 := μ.set 0 (.lst (fd ++ [sqI n a t]))) (by simp) (by simp) (by omega) (by omega)) ⟨rfl, ls, g, L1, fun i j hi hj h1 => by
      rw [if_neg (by omega)]
      exact hg i j hi hj (by omega)⟩ (fun _ _ _ _ => held_nil) (fun k d env μ hd hP => by
      obtain ⟨rfl, ls, g', q2, q3⟩ := hP
      obtain ⟨hj, rfl⟩ := rg2_item hd
      obtain ⟨μ', ls', r1, r2⟩ := lsq_one M ht hp h0 (one := t + 1 + k) (by omega) hj q2 (fun j hj2 => by
        rw [q3 _ j hj hj2 (by omega), if_neg (by omega)]) (e0 := e0) (e1 := e1)
      refine ⟨_, _, _, by simp [bindT], .inl r1, rfl, ls', _, r2, fun i j hi hj2 h1 => ?_⟩
      by_cases e : i = t + 1 + k
      · subst e
        rw [if_pos rfl, if_pos (by omega)]
      · rw [if_neg e, q3 i j hi hj2 h1]
        by_cases c : i < t + 1 + k
        · rw [if_pos c, if_pos (by omega)]
        · rw [if_neg c, if_neg (by omega)])
  refine ⟨μ', ls', g', ?_, q2, fun i j hi hj h1 => ?_⟩
  · unfold p_law_squares_2_b
    rw [v_forget, seq_nx s0, seq_nx s1, seq_nx s2, seq_nx s3]
    show (p_law_squares_2_b_4 _ _).bind _ = _
    unfold p_law_squares_2_b_4
    rw [q1]
    rfl
  · rw [q3 i j hi hj h1, List.length_map, List.length_range, if_pos (by omega)]
end
end P55

set_option Elab.async false
set_option linter.all false
set_option maxRecDepth 100000
set_option maxHeartbeats 1000000
/-! _law_squares told. -/
namespace P55
open PySem PySem.Spec PyProof.Rows L2 Zd
section
variable {n : Nat} {a : Nat → Nat → Rat}
theorem lsq_loop_pos (M : Mx n a) {e0 e1 : Option D} : ∀ (k t : Nat) (μ : Store) (ls : List Nat) (g : Nat → Nat → Rat) (fd : List PyData), t + k = n → AllPos n a → LS n fd g μ ls → (∀ i j, i < n → j < n → t ≤ i → g i j = el a t i j) → fd.length ≤ t →
    ∃ μ' ls' g', loopD [] (.nm 7) p_law_squares_2_b (itemsF t k) [e0, e1, some (.pd (.int (n : Int))), some (.ref 0), some (.ref 1), none, none, none, none, none, none, none, none, none] μ =
      .ok ((.nx, [e0, e1, some (.pd (.int (n : Int))), some (.ref 0), some (.ref 1), none, none, none, none, none, none, none, none, none]), μ') ∧ LS n (fd ++ (List.range k).map fun j => sqI n a (t + j)) g' μ' ls'
  | 0, t, μ, ls, g, fd, hn, hp, L, hg, hl => by
    refine ⟨μ, ls, g, ?_, by simpa using L⟩
    show loopD [] (.nm 7) p_law_squares_2_b [] _ _ = _
    unfold loopD
    rw [if_pos held_nil]
  | k + 1, t, μ, ls, g, fd, hn, hp, L, hg, hl => by
    have n5 := M.n5
    obtain ⟨μ1, ls1, g1, q1, q2, q3⟩ := lsq_go M (show t < n by omega) (fun s hs => hp s (by omega)) (hp t (by omega)) L (by omega) hg (e0 := e0) (e1 := e1)
    obtain ⟨μ2, ls2, g2, r1, r2⟩ := lsq_loop_pos M (e0 := e0) (e1 := e1) k (t + 1) μ1 ls1 g1 _ (by omega) hp q2 q3 (by simp; omega)
    have hbind : bindT (.nm 7) (.pd (.int (t : Int))) [e0, e1, some (.pd (.int (n : Int))), some (.ref 0), some (.ref 1), none, none, none, none, none, none, none, none, none] = some [e0, e1, some (.pd (.int (n : Int))), some (.ref 0), some (.ref 1), none, none, some (.pd (.int (t : Int))), none, none, none, none, none, none] := by simp [bindT]
    refine ⟨μ2, ls2, g2, ?_, ?_⟩
    · rw [items_cons]
      unfold loopD
      rw [if_pos held_nil, hbind]
      dsimp only
      rw [q1, Out.ok_bind]
      exact r1
    · have e : (List.range (k + 1)).map (fun j => sqI n a (t + j)) = sqI n a t :: (List.range k).map fun j => sqI n a (t + 1 + j) := by
        rw [List.range_succ_eq_map]
        simp only [List.map_cons, List.map_map, Nat.add_zero, List.cons.injEq, true_and]
        apply List.map_congr_left
        intro j _
        simp only [Function.comp_def]
        congr 1
        omega
      rw [e]
      simpa using r2
theorem lsq_loop_stop (M : Mx n a) {u : Nat} (h : Stops n a u) {e0 e1 : Option D} : ∀ (k t : Nat) (μ : Store) (ls : List Nat) (g : Nat → Nat → Rat) (fd : List PyData), t + k = n → t ≤ u → LS n fd g μ ls → (∀ i j, i < n → j < n → t ≤ i → g i j = el a t i j) → fd.length ≤ t →
    ∃ μ' env', loopD [] (.nm 7) p_law_squares_2_b (itemsF t k) [e0, e1, some (.pd (.int (n : Int))), some (.ref 0), some (.ref 1), none, none, none, none, none, none, none, none, none] μ = .ok ((.rt (.pd .none), env'), μ')
  | 0, t, μ, ls, g, fd, hn, hu, L, hg, hl => by
    have := h.lt
    omega
  | k + 1, t, μ, ls, g, fd, hn, hu, L, hg, hl => by
    have n5 := M.n5
    have hbind : bindT (.nm 7) (.pd (.int (t : Int))) [e0, e1, some (.pd (.int (n : Int))), some (.ref 0), some (.ref 1), none, none, none, none, none, none, none, none, none] = some [e0, e1, some (.pd (.int (n : Int))), some (.ref 0), some (.ref 1), none, none, some (.pd (.int (t : Int))), none, none, none, none, none, none] := by simp [bindT]
    by_cases e : t = u
    · subst e
      obtain ⟨env', q1⟩ := lsq_stop M h.lt h.here L (hg t t h.lt h.lt (Nat.le_refl _)) (e0 := e0) (e1 := e1)
      refine ⟨μ, env', ?_⟩
      rw [items_cons]
      unfold loopD
      rw [if_pos held_nil, hbind]
      dsimp only
      rw [q1, Out.ok_bind]
    · obtain ⟨μ1, ls1, g1, q1, q2, q3⟩ := lsq_go M (show t < n by omega) (fun s hs => h.before s (by omega)) (h.before t (by omega)) L (by omega) hg (e0 := e0) (e1 := e1)
      obtain ⟨μ2, env', r1⟩ := lsq_loop_stop M h (e0 := e0) (e1 := e1) k (t + 1) μ1 ls1 g1 _ (by omega) (by omega) q2 q3 (by simp; omega)
      refine ⟨μ2, env', ?_⟩
      rw [items_cons]
      unfold loopD
      rw [if_pos held_nil, hbind]
      dsimp only
      rw [q1, Out.ok_bind]
      exact r1
end
section
variable {n : Nat} {told : Nat → Rat} {f : Nat → Nat → Rat} {p : Nat → Rat}
theorem lsq_start (E : Ebd n f p) : ∃ μ ls, sCons p_law_squares_0 p_law_squares_1 [some (.pd (bk n told f)), some (.pd (scD n f)), none, none, none, none, none, none, none, none, none, none, none, none] [] =
    .ok ((.nx, [some (.pd (bk n told f)), some (.pd (scD n f)), some (.pd (.int (n : Int))), some (.ref 0), some (.ref 1), none, none, none, none, none, none, none, none, none]), μ) ∧ LS n [] (mat f n) μ ls := by
  have n5 := E.n5
  have s0 : p_law_squares_0 [some (.pd (bk n told f)), some (.pd (scD n f)), none, none, none, none, none, none, none, none, none, none, none, none] [] =
      .ok ((.nx, [some (.pd (bk n told f)), some (.pd (scD n f)), some (.pd (.int (n : Int))), some (.ref 0), some (.ref 1), none, none, none, none, none, none, none, none, none]), [.lst [], .lst []]) := by
    simp [p_law_squares_0, bindTs, bindT]
  obtain ⟨env', μ', h1, rfl, rfl⟩ := for_rel (T := .nm 5) (b := p_law_squares_1_b) (ei := iRg1 (eVar 2))
    (env := [some (.pd (bk n told f)), some (.pd (scD n f)), some (.pd (.int (n : Int))), some (.ref 0), some (.ref 1), none, none, none, none, none, none, none, none, none]) (μ := [.lst [], .lst []]) (μ1 := [.lst [], .lst []])
    (fun i env μ => env = [some (.pd (bk n told f)), some (.pd (scD n f)), some (.pd (.int (n : Int))), some (.ref 0), some (.ref 1), none, none, none, none, none, none, none, none, none] ∧ μ = .lst [] :: hd0 (refs2 i) :: rowCells n (mat f n) i)
    (rg1_ok (n := n) (by simp) (by omega)) ⟨rfl, rfl⟩ (fun _ _ _ _ => held_nil) (fun j d env μ hd hp => by
      obtain ⟨rfl, rfl⟩ := hp
      simp only [List.getElem?_map, Option.map_eq_some_iff] at hd
      obtain ⟨j', hj, rfl⟩ := hd
      obtain ⟨hj1, hj2⟩ := List.getElem?_eq_some_iff.mp hj
      simp at hj1 hj2
      subst hj2
      exact ⟨[some (.pd (bk n told f)), some (.pd (scD n f)), some (.pd (.int (n : Int))), some (.ref 0), some (.ref 1), some (.pd (.int (j : Int))), none, none, none, none, none, none, none, none], _, _, by simp [bindT], .inl (lsq_row (told := told) E hj1), rfl, rfl⟩)
  rw [List.length_map, List.length_range] at h1
  have hn1 := E.n1
  have hc : hd0 (refs2 n) = .lls (refs2 n) := by
    obtain ⟨m, rfl⟩ : ∃ m, n = m + 1 := ⟨n - 1, by omega⟩
    unfold refs2
    rw [List.range_succ_eq_map]
    rfl
  rw [hc] at h1
  refine ⟨_, refs2 n, (seq_nx s0).trans h1, rfl, rfl, by simp, fun i hi => ⟨i + 2, by simp [refs2, hi], by omega, by simp [rowCells, hi]⟩⟩
theorem parts_lsq : ev__law_squares = sCons p_law_squares_0 (sCons p_law_squares_1 (sCons p_law_squares_2 p_law_squares_3)) := parts_law_squares
theorem seq_assoc {s1 s2 s3 : EvS} {env env' : Zd.Env} {μ μ' : Store} (h : sCons s1 s2 env μ = .ok ((.nx, env'), μ')) : sCons s1 (sCons s2 s3) env μ = s3 env' μ' := by
  rw [v_cons] at h ⊢
  cases h1 : s1 env μ with
  | ok q =>
    rw [h1, Out.ok_bind] at h
    rw [Out.ok_bind]
    obtain ⟨⟨fl, e1⟩, m1⟩ := q
    cases fl with
    | nx =>
      dsimp only at h ⊢
      exact seq_nx h
    | _ => cases h
  | _ => rw [h1] at h; cases h
theorem law_squares_pos (E : Ebd n f p) (h : AllPos n (mat f n)) : F__law_squares [bk n told f, scD n f] = .ok (.tuple ((List.range n).map (sqI n (mat f n)))) := by
  have n5 := E.n5
  obtain ⟨μ, ls, h1, L⟩ := lsq_start (told := told) E
  obtain ⟨μ', ls', g', q1, q2⟩ := lsq_loop_pos E.mx (e0 := some (.pd (bk n told f))) (e1 := some (.pd (scD n f))) n 0 μ ls _ [] (by omega) h L (fun _ _ _ _ _ => rfl) (by simp)
  have hr := rg1_ok (n := n) (a := eVar 2) (env := [some (.pd (bk n told f)), some (.pd (scD n f)), some (.pd (.int (n : Int))), some (.ref 0), some (.ref 1), none, none, none, none, none, none, none, none, none]) (μ := μ) (μ1 := μ) (by simp) (by omega)
  have hit : ((List.range n).map fun (k : Nat) => D.pd (.int (k : Int))) = itemsF 0 n := by
    unfold itemsF
    simp
  have s2 : p_law_squares_2 [some (.pd (bk n told f)), some (.pd (scD n f)), some (.pd (.int (n : Int))), some (.ref 0), some (.ref 1), none, none, none, none, none, none, none, none, none] μ =
      .ok ((.nx, [some (.pd (bk n told f)), some (.pd (scD n f)), some (.pd (.int (n : Int))), some (.ref 0), some (.ref 1), none, none, none, none, none, none, none, none, none]), μ') := by
    unfold p_law_squares_2 sFor
    rw [hr, Out.ok_bind, hit]
    exact q1
  have e : ((List.range n).map fun j => sqI n (mat f n) (0 + j)) = (List.range n).map (sqI n (mat f n)) := by simp
  rw [List.nil_append, e] at q2
  have f0 := q2.f0
  have dr : derefs μ' [.ref 0] = some [.list ((List.range n).map (sqI n (mat f n)))] := by
    have := dreff _ _ _ f0
    simp [derefs, this]
  have s3 : p_law_squares_3 [some (.pd (bk n told f)), some (.pd (scD n f)), some (.pd (.int (n : Int))), some (.ref 0), some (.ref 1), none, none, none, none, none, none, none, none, none] μ' =
      .ok ((.rt (.pd (.tuple ((List.range n).map (sqI n (mat f n))))), [some (.pd (bk n told f)), some (.pd (scD n f)), some (.pd (.int (n : Int))), some (.ref 0), some (.ref 1), none, none, none, none, none, none, none, none, none]), μ') := by
    simp [p_law_squares_3, dr]
  exact fnP_run ((congrFun (congrFun parts_lsq _) _).trans ((seq_assoc h1).trans ((seq_nx s2).trans s3))) rfl rfl
theorem law_squares_stop (E : Ebd n f p) {u : Nat} (h : Stops n (mat f n) u) : F__law_squares [bk n told f, scD n f] = .ok .none := by
  have n5 := E.n5
  obtain ⟨μ, ls, h1, L⟩ := lsq_start (told := told) E
  obtain ⟨μ', env', q1⟩ := lsq_loop_stop E.mx h (e0 := some (.pd (bk n told f))) (e1 := some (.pd (scD n f))) n 0 μ ls _ [] (by omega) (by omega) L (fun _ _ _ _ _ => rfl) (by simp)
  have hr := rg1_ok (n := n) (a := eVar 2) (env := [some (.pd (bk n told f)), some (.pd (scD n f)), some (.pd (.int (n : Int))), some (.ref 0), some (.ref 1), none, none, none, none, none, none, none, none, none]) (μ := μ) (μ1 := μ) (by simp) (by omega)
  have hit : ((List.range n).map fun (k : Nat) => D.pd (.int (k : Int))) = itemsF 0 n := by
    unfold itemsF
    simp
  have s2 : p_law_squares_2 [some (.pd (bk n told f)), some (.pd (scD n f)), some (.pd (.int (n : Int))), some (.ref 0), some (.ref 1), none, none, none, none, none, none, none, none, none] μ = .ok ((.rt (.pd .none), env'), μ') := by
    unfold p_law_squares_2 sFor
    rw [hr, Out.ok_bind, hit]
    exact q1
  exact fnP_run ((congrFun (congrFun parts_lsq _) _).trans ((seq_assoc h1).trans (seq_rt s2))) rfl rfl
end
end P55

set_option Elab.async false
set_option linter.all false
set_option maxRecDepth 100000
set_option maxHeartbeats 1000000
/-! Sums, and the energy as a sum of squares: plain. -/
namespace P55
open PySem PySem.Spec PyProof.Rows L2 Zd
def tot (g : Nat → Rat) : Nat → Rat
  | 0 => 0
  | k + 1 => tot g k + g k
theorem tot_congr {g h : Nat → Rat} : ∀ k, (∀ j, j < k → g j = h j) → tot g k = tot h k
  | 0, _ => rfl
  | k + 1, e => by
    show tot g k + g k = tot h k + h k
    rw [tot_congr k fun j hj => e j (by omega), e k (by omega)]
theorem tot_sub (g h : Nat → Rat) : ∀ k, tot (fun j => g j - h j) k = tot g k - tot h k
  | 0 => by show (0 : Rat) = 0 - 0; grind
  | k + 1 => by
    show tot (fun j => g j - h j) k + (g k - h k) = (tot g k + g k) - (tot h k + h k)
    rw [tot_sub g h k]
    grind
theorem tot_mul (c : Rat) (g : Nat → Rat) : ∀ k, tot (fun j => c * g j) k = c * tot g k
  | 0 => by show (0 : Rat) = c * 0; grind
  | k + 1 => by
    show tot (fun j => c * g j) k + c * g k = c * (tot g k + g k)
    rw [tot_mul c g k]
    grind
theorem tot_mulr (c : Rat) (g : Nat → Rat) (k : Nat) : tot (fun j => g j * c) k = tot g k * c := by
  have := tot_mul c g k
  rw [Rat.mul_comm] at this
  rw [← this]
  exact tot_congr k fun j _ => Rat.mul_comm _ _
theorem tot_zero {g : Nat → Rat} : ∀ k, (∀ j, j < k → g j = 0) → tot g k = 0
  | 0, _ => rfl
  | k + 1, e => by
    show tot g k + g k = 0
    rw [tot_zero k fun j hj => e j (by omega), e k (by omega)]
    grind
theorem tot_split (g : Nat → Rat) (t : Nat) : ∀ m, tot g (t + m) = tot g t + tot (fun k => g (t + k)) m
  | 0 => by show tot g t = tot g t + 0; grind
  | m + 1 => by
    show tot g (t + m) + g (t + m) = tot g t + (tot (fun k => g (t + k)) m + g (t + m))
    rw [tot_split g t m]
    grind
theorem tot_at (g : Nat → Rat) {t n : Nat} (ht : t < n) : tot g n = tot g t + g t + tot (fun k => g (t + 1 + k)) (n - (t + 1)) := by
  have := tot_split g (t + 1) (n - (t + 1))
  rw [show t + 1 + (n - (t + 1)) = n from by omega] at this
  exact this
theorem el_zero {n : Nat} {a : Nat → Nat → Rat} : ∀ t, t ≤ n → (∀ s, s < t → 0 < el a s s s) → ∀ i j, (i < t ∨ j < t) → el a t i j = 0
  | 0, _, _, i, j, h => by omega
  | t + 1, ht, hp, i, j, h => by
    have ih := el_zero (n := n) t (by omega) (fun s hs => hp s (by omega))
    have p0 := hp t (by omega)
    have pn : el a t t t ≠ 0 := by grind
    show el a t i j - el a t i t * (el a t t j / el a t t t) = 0
    by_cases hi : i < t
    · rw [ih i j (.inl hi), ih i t (.inl hi)]
      grind
    · by_cases hj : j < t
      · rw [ih i j (.inr hj), ih t j (.inr hj), Rat.div_def]
        grind
      · by_cases e : i = t
        · rw [e]
          grind
        · have e2 : j = t := by omega
          rw [e2]
          grind
section
variable {n : Nat} {a : Nat → Nat → Rat} {x : Nat → Rat}
/-- the form behind t pivots -/
def form (n : Nat) (a : Nat → Nat → Rat) (x : Nat → Rat) : Rat := tot (fun i => tot (fun j => a i j * (x i * x j)) n) n
def brk (n : Nat) (a : Nat → Nat → Rat) (x : Nat → Rat) (t : Nat) : Rat := x t + tot (fun k => el a t t (t + 1 + k) / el a t t t * x (t + 1 + k)) (n - (t + 1))
theorem form_step (hs : ∀ i j, i < n → j < n → a i j = a j i) {t : Nat} (ht : t < n) (hp : ∀ s, s < t → 0 < el a s s s) (h0 : el a t t t ≠ 0) : form n (el a t) x = form n (el a (t + 1)) x + el a t t t * (brk n a x t * brk n a x t) := by
  have sym := el_sym hs t (by omega)
  have zz := el_zero (n := n) t (by omega) hp
  -- the bracket over all
  have hb : tot (fun j => el a t t j * x j) n = el a t t t * brk n a x t := by
    rw [tot_at _ ht, tot_zero t fun j hj => by rw [zz t j (.inr hj)]; grind]
    have e4 : tot (fun k => el a t t (t + 1 + k) * x (t + 1 + k)) (n - (t + 1)) = tot (fun k => el a t t t * (el a t t (t + 1 + k) / el a t t t * x (t + 1 + k))) (n - (t + 1)) := tot_congr _ fun k _ => by
      rw [Rat.div_def]
      have inv : (el a t t t)⁻¹ * el a t t t = 1 := by grind
      grind
    rw [e4, tot_mul]
    unfold brk
    grind
  have hc : tot (fun i => x i * el a t i t) n = el a t t t * brk n a x t := by
    rw [← hb]
    exact tot_congr n fun i hi => by rw [sym i t hi ht, Rat.mul_comm]
  have hi : ∀ i, i < n → tot (fun j => el a (t + 1) i j * (x i * x j)) n = tot (fun j => el a t i j * (x i * x j)) n - x i * el a t i t * brk n a x t := fun i hi => by
    have e : tot (fun j => el a (t + 1) i j * (x i * x j)) n = tot (fun j => el a t i j * (x i * x j) - (x i * el a t i t * (el a t t t)⁻¹) * (el a t t j * x j)) n := tot_congr n fun j hj => by
      show (el a t i j - el a t i t * (el a t t j / el a t t t)) * (x i * x j) = _
      rw [Rat.div_def]
      grind
    rw [e, tot_sub, tot_mul, hb]
    have inv : (el a t t t)⁻¹ * el a t t t = 1 := by grind
    grind
  have hf : form n (el a (t + 1)) x = form n (el a t) x - el a t t t * (brk n a x t * brk n a x t) := by
    unfold form
    rw [tot_congr n hi, tot_sub, tot_mulr, hc]
    grind
  rw [hf]
  grind
theorem form_sq (hs : ∀ i j, i < n → j < n → a i j = a j i) (hp : ∀ s, s < n → 0 < el a s s s) : ∀ t, t ≤ n → form n a x = form n (el a t) x + tot (fun t => el a t t t * (brk n a x t * brk n a x t)) t
  | 0, _ => by show form n a x = form n a x + 0; grind
  | t + 1, ht => by
    have p0 := hp t (by omega)
    rw [form_sq hs hp t (by omega), form_step hs (show t < n by omega) (fun s h => hp s (by omega)) (by grind)]
    show _ = _ + (tot (fun t => el a t t t * (brk n a x t * brk n a x t)) t + el a t t t * (brk n a x t * brk n a x t))
    grind
theorem form_squares (hs : ∀ i j, i < n → j < n → a i j = a j i) (hp : AllPos n a) : form n a x = tot (fun t => el a t t t * (brk n a x t * brk n a x t)) n := by
  rw [form_sq hs hp n (Nat.le_refl _)]
  have : form n (el a n) x = 0 := tot_zero n fun i hi => tot_zero n fun j hj => by
    rw [el_zero n (Nat.le_refl _) hp i j (.inl hi)]
    grind
  rw [this]
  grind
end
end P55

set_option Elab.async false
set_option linter.all false
set_option maxRecDepth 100000
set_option maxHeartbeats 1000000
/-! _law_total, energy told. -/
namespace P55
open PySem PySem.Spec PyProof.Rows L2 Zd
theorem Fx.tot {D N : Nat} {g : Nat → Rat} : ∀ k, (∀ j, j < k → Fx D N (g j)) → Fx D (k * N) (tot g k)
  | 0, _ => Fx.zero D _
  | k + 1, h => by
    have := (Fx.tot k fun j hj => h j (by omega)).add (h k (by omega))
    rw [Nat.succ_mul]
    exact this
theorem law_total_ok {k : Nat} {g : Nat → Rat} (hs : ∀ j, j < k → Sm (g j)) (ht : ∀ j, j ≤ k → Sm (tot g j)) : F__law_total [.list ((List.range k).map fun j => fr (g j))] = .ok (fr (tot g k)) := by
  have s0 : p_law_total_0 [some (.pd (.list ((List.range k).map fun j => fr (g j)))), none, none] [] = .ok ((.nx, [some (.pd (.list ((List.range k).map fun j => fr (g j)))), some (.pd (fr 0)), none]), []) := by
    have hz : PyData.tuple [.int 0, .int 1] = fr 0 := rfl
    simp [p_law_total_0, bindT, hz, sizeLine_ge]
  have i1 := lst_ok (a := eVar 0) (env := [some (.pd (.list ((List.range k).map fun j => fr (g j)))), some (.pd (fr 0)), none]) (μ := []) (μ1 := []) (ds := (List.range k).map fun j => fr (g j)) rfl
  rw [List.map_map] at i1
  obtain ⟨env', μ', q1, rfl, rfl⟩ := for_rel (T := .nm 2) (b := p_law_total_1_bx) (fun j env μ => env = [some (.pd (.list ((List.range k).map fun j => fr (g j)))), some (.pd (fr (tot g j))), none] ∧ μ = []) i1 ⟨rfl, rfl⟩ (fun _ _ _ _ => held_nil) (fun j d env μ hd hp => by
    obtain ⟨rfl, rfl⟩ := hp
    simp only [List.getElem?_map, Option.map_eq_some_iff] at hd
    obtain ⟨j', hj, rfl⟩ := hd
    obtain ⟨hj1, hj2⟩ := List.getElem?_eq_some_iff.mp hj
    simp at hj1 hj2
    subst hj2
    have e1 := L_plus_ok (ht j (by omega)) (hs j hj1)
    have e2 : tot g (j + 1) = tot g j + g j := rfl
    exact ⟨[some (.pd (.list ((List.range k).map fun j => fr (g j)))), some (.pd (fr (tot g j))), some (.pd (fr (g j)))], _, _, by simp [bindT], .inl (by simp [p_law_total_1_bx, p_law_total_1_b, e1, bindT, wipeE]; rfl), by rw [e2], rfl⟩)
  rw [List.length_map, List.length_range] at q1
  have s2 : p_law_total_2 [some (.pd (.list ((List.range k).map fun j => fr (g j)))), some (.pd (fr (tot g k))), none] [] = .ok ((.rt (.pd (fr (tot g k))), [some (.pd (.list ((List.range k).map fun j => fr (g j)))), some (.pd (fr (tot g k))), none]), []) := by
    simp [p_law_total_2]
  exact fnP_run ((congrFun (congrFun parts_law_total _) _).trans ((seq_nx s0).trans ((seq_nx q1).trans s2))) rfl rfl
end P55

set_option Elab.async false
set_option linter.all false
set_option maxRecDepth 100000
set_option maxHeartbeats 1000000
/-! energy told. -/
namespace P55
open PySem PySem.Spec PyProof.Rows L2 Zd
theorem Val.fx {q : Rat} (h : Val q) : Fx 2 10 q := by
  have h1 := h.1
  have h2 := h.2
  have hd : 0 < q.den := q.den_pos
  have e : q = (q.num : Rat) / (q.den : Rat) := by
    have := Rat.num_divInt_den q
    rw [Rat.divInt_eq_div] at this
    exact this.symm
  have hne := nat_ne hd
  have : q.den = 1 ∨ q.den = 2 := by omega
  rcases this with d | d
  · refine ⟨q.num * 2, ?_, by omega⟩
    rw [d] at e
    rw [Rat.intCast_mul]
    have h3 : ((1 : Nat) : Rat) = 1 := rfl
    have h4 : ((2 : Nat) : Rat) = 2 := rfl
    have h5 : ((2 : Int) : Rat) = 2 := rfl
    rw [h3] at e
    rw [h4, h5]
    grind
  · refine ⟨q.num, ?_, by omega⟩
    rw [d] at e
    have h4 : ((2 : Nat) : Rat) = 2 := rfl
    rw [h4] at e ⊢
    grind
section
variable {n : Nat} {told : Nat → Rat} {f : Nat → Nat → Rat} {p : Nat → Rat} {x : Nat → Rat}
/-- what has been added up behind i rows, j places -/
def upto (n : Nat) (a : Nat → Nat → Rat) (x : Nat → Rat) (i j : Nat) : Rat := tot (fun i => tot (fun j => a i j * (x i * x j)) n) i + tot (fun j => a i j * (x i * x j)) j
theorem term_fx (E : Ebd n f p) (hx : ∀ i, i < n → Fx 2 10 (x i)) {i j : Nat} (hi : i < n) (hj : j < n) : Fx (864 * (2 * 2)) (2 ^ 13 * (10 * 10)) (mat f n i j * (x i * x j)) := (E.mat_fx hi hj).mul ((hx i hi).mul (hx j hj))
theorem upto_fx (E : Ebd n f p) (hx : ∀ i, i < n → Fx 2 10 (x i)) {i j : Nat} (hi : i < n) (hj : j ≤ n) : Fx (864 * (2 * 2)) (2 ^ 30) (upto n (mat f n) x i j) := by
  have n5 := E.n5
  have h1 := Fx.tot (D := 864 * (2 * 2)) (N := n * (2 ^ 13 * (10 * 10))) (g := fun i => tot (fun j => mat f n i j * (x i * x j)) n) i (fun i' hi' => Fx.tot n fun j hj => term_fx E hx (by omega) hj)
  have h2 := Fx.tot (D := 864 * (2 * 2)) (N := 2 ^ 13 * (10 * 10)) (g := fun j => mat f n i j * (x i * x j)) j (fun j' hj' => term_fx E hx hi (by omega))
  refine (h1.add h2).mono ?_
  have a1 : i * (n * (2 ^ 13 * (10 * 10))) ≤ 5 * (5 * (2 ^ 13 * (10 * 10))) := Nat.mul_le_mul (by omega) (Nat.mul_le_mul n5 (Nat.le_refl _))
  have a2 : j * (2 ^ 13 * (10 * 10)) ≤ 5 * (2 ^ 13 * (10 * 10)) := Nat.mul_le_mul (by omega) (Nat.le_refl _)
  exact Nat.le_trans (Nat.add_le_add a1 a2) (by decide)
theorem form_fx (E : Ebd n f p) (hx : ∀ i, i < n → Fx 2 10 (x i)) : Fx (864 * (2 * 2)) (2 ^ 30) (form n (mat f n) x) := by
  have n5 := E.n5
  have h1 := Fx.tot (D := 864 * (2 * 2)) (N := n * (2 ^ 13 * (10 * 10))) (g := fun i => tot (fun j => mat f n i j * (x i * x j)) n) n (fun i' hi' => Fx.tot n fun j hj => term_fx E hx (by omega) hj)
  refine h1.mono ?_
  have a1 : n * (n * (2 ^ 13 * (10 * 10))) ≤ 5 * (5 * (2 ^ 13 * (10 * 10))) := Nat.mul_le_mul (by omega) (Nat.mul_le_mul n5 (Nat.le_refl _))
  exact Nat.le_trans a1 (by decide)
theorem upto_end (a : Nat → Nat → Rat) (i : Nat) : upto n a x i n = upto n a x (i + 1) 0 := by
  unfold upto
  show tot _ i + tot _ n = (tot _ i + tot _ n) + 0
  grind
theorem energy_ok (E : Ebd n f p) (hx : ∀ i, i < n → Fx 2 10 (x i)) : F_energy [bk n told f, .tuple (vecD n x)] = .ok (fr (form n (mat f n) x)) := by
  have n5 := E.n5
  have er := energy_rows_ok (told := told) E
  have d4 : (864 * (2 * 2) : Nat) ≤ 2 ^ 200 := Nat.le_trans (by decide : 864 * (2 * 2) ≤ 2 ^ 20) (Nat.pow_le_pow_right (by decide) (by decide))
  have s2 : ∀ {q : Rat}, Fx (864 * (2 * 2)) (2 ^ 30) q → Sm q := fun h => (h.bd (by decide)).sm (two400 (Nat.pow_le_pow_right (by decide) (by decide))) (two400 d4)
  have b20 : (2 ^ 13 * (10 * 10) : Nat) ≤ 2 ^ 30 := by decide
  have sx : ∀ i, i < n → Sm (x i) := fun i hi => ((hx i hi).bd (by decide)).sm (two400 (Nat.le_trans (by decide : 10 ≤ 2 ^ 10) (Nat.pow_le_pow_right (by decide) (by decide)))) (two400 (Nat.le_trans (by decide : 2 ≤ 2 ^ 10) (Nat.pow_le_pow_right (by decide) (by decide))))
  have sm : ∀ i j, i < n → j < n → Sm (mat f n i j) := fun i j hi hj => ((E.mat_fx hi hj).bd (by decide)).sm (two400 (Nat.pow_le_pow_right (by decide) (by decide))) (two400 (Nat.le_trans (by decide : 864 ≤ 2 ^ 10) (Nat.pow_le_pow_right (by decide) (by decide))))
  have sxx : ∀ i j, i < n → j < n → Sm (x i * x j) := fun i j hi hj => (((hx i hi).mul (hx j hj)).bd (by decide)).sm (two400 (Nat.le_trans (by decide : 10 * 10 ≤ 2 ^ 10) (Nat.pow_le_pow_right (by decide) (by decide)))) (two400 (Nat.le_trans (by decide : 2 * 2 ≤ 2 ^ 10) (Nat.pow_le_pow_right (by decide) (by decide))))
  have s0 : p_energy_0 [some (.pd (bk n told f)), some (.pd (.tuple (vecD n x))), none, none, none, none, none] [] = .ok ((.nx, [some (.pd (bk n told f)), some (.pd (.tuple (vecD n x))), some (.pd (fr 0)), none, none, none, none]), []) := by
    simp [p_energy_0, bindT, zero_fr]
  have i1 : iZp (eCallP F_energy_rows (aCons (eVar 0) aNil)) (eVar 1) [some (.pd (bk n told f)), some (.pd (.tuple (vecD n x))), some (.pd (fr 0)), none, none, none, none] [] =
      .ok ((((List.range n).map fun i => D.pd (.tuple [.list (vecD n (mat f n i)), fr (x i)])), [] ++ []), []) := by
    have z := zip_range n (fun i => .list (vecD n (mat f n i))) (fun i => fr (x i))
    simp [iZp, er, matD, srcA, srcL, vecD] at z ⊢
  have inner : ∀ i, i < n → ∃ env', p_energy_1_b [some (.pd (bk n told f)), some (.pd (.tuple (vecD n x))), some (.pd (fr (upto n (mat f n) x i 0))), some (.pd (.list (vecD n (mat f n i)))), some (.pd (fr (x i))), none, none] [] =
      .ok ((.nx, env'), []) ∧ env' = [some (.pd (bk n told f)), some (.pd (.tuple (vecD n x))), some (.pd (fr (upto n (mat f n) x i n))), some (.pd (.list (vecD n (mat f n i)))), some (.pd (fr (x i))), none, none] := fun i hi => by
    have i2 : iZp (eVar 3) (eVar 1) [some (.pd (bk n told f)), some (.pd (.tuple (vecD n x))), some (.pd (fr (upto n (mat f n) x i 0))), some (.pd (.list (vecD n (mat f n i)))), some (.pd (fr (x i))), none, none] [] =
        .ok ((((List.range n).map fun j => D.pd (.tuple [fr (mat f n i j), fr (x j)])), [] ++ []), []) := by
      have z := zip_range n (fun j => fr (mat f n i j)) (fun j => fr (x j))
      simp [iZp, srcA, srcL, vecD] at z ⊢
    obtain ⟨env', μ', q1, rfl, rfl⟩ := for_rel (T := .tp [(.nm 5), (.nm 6)]) (b := p_energy_1_b_bx) (fun j env μ => env = [some (.pd (bk n told f)), some (.pd (.tuple (vecD n x))), some (.pd (fr (upto n (mat f n) x i j))), some (.pd (.list (vecD n (mat f n i)))), some (.pd (fr (x i))), none, none] ∧ μ = []) i2 ⟨rfl, rfl⟩ (fun _ _ _ _ => held_nil) (fun j d env μ hd hp => by
      obtain ⟨rfl, rfl⟩ := hp
      simp only [List.getElem?_map, Option.map_eq_some_iff] at hd
      obtain ⟨j', hj, rfl⟩ := hd
      obtain ⟨hj1, hj2⟩ := List.getElem?_eq_some_iff.mp hj
      simp at hj1 hj2
      subst hj2
      have e1 := F_times_ok (sxx i j hi hj1 |> fun _ => sx i hi) (sx j hj1)
      have e2 := F_times_ok (sm i j hi hj1) (sxx i j hi hj1)
      have e3 := F_plus_ok (s2 (upto_fx E hx hi (show j ≤ n by omega))) (s2 ((term_fx E hx hi hj1).mono b20))
      have e4 : upto n (mat f n) x i (j + 1) = upto n (mat f n) x i j + mat f n i j * (x i * x j) := by
        unfold upto
        show _ + (tot _ j + _) = _
        grind
      refine ⟨[some (.pd (bk n told f)), some (.pd (.tuple (vecD n x))), some (.pd (fr (upto n (mat f n) x i j))), some (.pd (.list (vecD n (mat f n i)))), some (.pd (fr (x i))), some (.pd (fr (mat f n i j))), some (.pd (fr (x j)))], _, _, by simp [bindT, bindTs], .inl (by simp [p_energy_1_b_bx, p_energy_1_b_b, e1, e2, e3, bindT, wipeE]; rfl), by rw [e4], rfl⟩)
    rw [List.length_map, List.length_range] at q1
    exact ⟨_, q1, rfl⟩
  obtain ⟨env', μ', q1, rfl, rfl⟩ := for_rel (T := .tp [(.nm 3), (.nm 4)]) (b := p_energy_1_bx) (fun i env μ => env = [some (.pd (bk n told f)), some (.pd (.tuple (vecD n x))), some (.pd (fr (upto n (mat f n) x i 0))), none, none, none, none] ∧ μ = []) i1 ⟨by
      have : upto n (mat f n) x 0 0 = 0 := by
        unfold upto
        show (0 : Rat) + 0 = 0
        grind
      rw [this], rfl⟩ (fun _ _ _ _ => held_nil) (fun i d env μ hd hp => by
    obtain ⟨rfl, rfl⟩ := hp
    simp only [List.getElem?_map, Option.map_eq_some_iff] at hd
    obtain ⟨j', hj, rfl⟩ := hd
    obtain ⟨hj1, hj2⟩ := List.getElem?_eq_some_iff.mp hj
    simp at hj1 hj2
    subst hj2
    obtain ⟨env', r1, rfl⟩ := inner i hj1
    refine ⟨[some (.pd (bk n told f)), some (.pd (.tuple (vecD n x))), some (.pd (fr (upto n (mat f n) x i 0))), some (.pd (.list (vecD n (mat f n i)))), some (.pd (fr (x i))), none, none], [some (.pd (bk n told f)), some (.pd (.tuple (vecD n x))), some (.pd (fr (upto n (mat f n) x i n))), none, none, none, none], [], by simp [bindT, bindTs], .inl ?_, by rw [upto_end], rfl⟩
    unfold p_energy_1_bx
    rw [v_forget, r1]
    rfl)
  rw [List.length_map, List.length_range] at q1
  have e : upto n (mat f n) x n 0 = form n (mat f n) x := by
    unfold upto form
    show _ + 0 = _
    grind
  rw [e] at q1
  have s3 : p_energy_2 [some (.pd (bk n told f)), some (.pd (.tuple (vecD n x))), some (.pd (fr (form n (mat f n) x))), none, none, none, none] [] = .ok ((.rt (.pd (fr (form n (mat f n) x))), [some (.pd (bk n told f)), some (.pd (.tuple (vecD n x))), some (.pd (fr (form n (mat f n) x))), none, none, none, none]), []) := by
    simp [p_energy_2]
  exact fnP_run ((congrFun (congrFun parts_energy _) _).trans ((seq_nx s0).trans ((seq_nx q1).trans s3))) rfl rfl
end
end P55

set_option Elab.async false
set_option linter.all false
set_option maxRecDepth 100000
set_option maxHeartbeats 1000000
/-! sizes of the brackets and the squares. -/
namespace P55
open PySem PySem.Spec PyProof.Rows L2 Zd
theorem tot_cons (q : Rat) (h : Nat → Rat) : ∀ k, tot (fun j => match j with | 0 => q | j + 1 => h j) (k + 1) = q + tot h k
  | 0 => by show (0 : Rat) + q = q + 0; grind
  | k + 1 => by
    show tot _ (k + 1) + h k = q + (tot h k + h k)
    rw [tot_cons q h k]
    grind
theorem Bd.plus {a b : Rat} {N D M E : Nat} (ha : Bd N D a) (hb : Bd M E b) : Bd (N * E + M * D) (D * E) (a + b) := by
  have e : a + b = Rat.divInt (a.num * (b.den : Int) + b.num * (a.den : Int)) ((a.den : Int) * (b.den : Int)) := by
    rw [Rat.divInt_eq_div, Rat.intCast_add, Rat.intCast_mul, Rat.intCast_mul, Rat.intCast_mul]
    have ea : (a.num : Rat) = a * ((a.den : Int) : Rat) := by
      have := Rat.num_divInt_den a
      rw [Rat.divInt_eq_div] at this
      have h0 : ((a.den : Int) : Rat) ≠ 0 := nat_ne a.den_pos
      grind
    have eb : (b.num : Rat) = b * ((b.den : Int) : Rat) := by
      have := Rat.num_divInt_den b
      rw [Rat.divInt_eq_div] at this
      have h0 : ((b.den : Int) : Rat) ≠ 0 := nat_ne b.den_pos
      grind
    have h1 : ((a.den : Int) : Rat) ≠ 0 := nat_ne a.den_pos
    have h2 : ((b.den : Int) : Rat) ≠ 0 := nat_ne b.den_pos
    rw [ea, eb]
    grind
  rw [e]
  refine Bd.of_divInt (den_mul_ne a b) ?_ ?_
  · refine Nat.le_trans (Int.natAbs_add_le _ _) (Nat.add_le_add ?_ ?_)
    · rw [Int.natAbs_mul, Int.natAbs_natCast]
      exact Nat.mul_le_mul ha.1 hb.2
    · rw [Int.natAbs_mul, Int.natAbs_natCast]
      exact Nat.mul_le_mul hb.1 ha.2
  · rw [Int.natAbs_mul, Int.natAbs_natCast, Int.natAbs_natCast]
    exact Nat.mul_le_mul ha.2 hb.2
theorem tot_bd {c : Nat} {g : Nat → Rat} : ∀ k, (∀ j, j < k → Bd (2 ^ c) (2 ^ c) (g j)) → Bd (2 ^ ((c + 1) * k)) (2 ^ ((c + 1) * k)) (tot g k)
  | 0, _ => ⟨Nat.zero_le _, by show 1 ≤ 2 ^ ((c + 1) * 0); rw [Nat.mul_zero]; exact Nat.le_refl _⟩
  | k + 1, h => by
    have := (tot_bd k fun j hj => h j (by omega)).plus (h k (by omega))
    refine this.mono ?_ ?_
    · rw [pw_mul, pw_mul, Nat.mul_succ]
      have e1 : c + (c + 1) * k = (c + 1) * k + c := Nat.add_comm _ _
      have e2 : (c + 1) * k + (c + 1) = ((c + 1) * k + c) + 1 := by omega
      rw [e1, e2, Nat.pow_succ, Nat.mul_two]
      exact Nat.le_refl _
    · rw [pw_mul, Nat.mul_succ]
      exact Nat.pow_le_pow_right (by decide) (by omega)
section
variable {n t : Nat} {a : Nat → Nat → Rat} {x : Nat → Rat}
theorem Mx.sh (M : Mx n a) (ht : t < n) (hp : ∀ s, s < t → 0 < el a s s s) (h0 : 0 < el a t t t) : ∃ m, 0 < m ∧ m ≤ 2 ^ 230 ∧ ∀ j, j < n → Fx m (2 ^ 230) (el a t t j / el a t t t) := by
  obtain ⟨D0, d1, d2, d3⟩ := M.fx
  obtain ⟨D, e1, e2, e3⟩ := el_fx d1 d2 d3 t (by omega) hp
  have n5 := M.n5
  obtain ⟨q1, q2⟩ := nB_le t (by omega)
  obtain ⟨m, e, hm⟩ := e3 t t ht ht
  have dp : (0 : Rat) < (D : Rat) := Rat.natCast_pos.mpr e1
  have mp : 0 < m := by
    have := Rat.mul_pos h0 dp
    rw [e] at this
    exact Rat.intCast_pos.mp this
  have em : ((m.natAbs : Nat) : Rat) = (m : Rat) := by
    have : ((m.natAbs : Nat) : Int) = m := by omega
    rw [← this]
    rfl
  refine ⟨m.natAbs, by omega, Nat.le_trans hm q1, fun j hj => ?_⟩
  obtain ⟨z, ez, hz⟩ := e3 t j ht hj
  refine ⟨z, ?_, Nat.le_trans hz q1⟩
  rw [em, ← e, ← ez, Rat.div_def]
  have inv : (el a t t t)⁻¹ * el a t t t = 1 := by grind
  grind
/-- the bracket's items -/
def brI (n : Nat) (a : Nat → Nat → Rat) (x : Nat → Rat) (t : Nat) : Nat → Rat := fun j => match j with
  | 0 => x t
  | j + 1 => el a t t (t + 1 + j) / el a t t t * x (t + 1 + j)
theorem brk_tot (ht : t < n) : tot (brI n a x t) (n - t) = brk n a x t := by
  have e : n - t = (n - (t + 1)) + 1 := by omega
  rw [e]
  exact tot_cons (x t) _ _
theorem br_fx (M : Mx n a) (ht : t < n) (hp : ∀ s, s < t → 0 < el a s s s) (h0 : 0 < el a t t t) (hx : ∀ i, i < n → Fx 2 10 (x i)) : ∃ m, 0 < m ∧ m ≤ 2 ^ 231 ∧ (∀ j, j < n - t → Fx m (2 ^ 234) (brI n a x t j)) ∧ ∀ j, j ≤ n - t → Fx m (2 ^ 237) (tot (brI n a x t) j) := by
  obtain ⟨m, m1, m2, m3⟩ := M.sh ht hp h0
  have n5 := M.n5
  have c10 : 2 ^ 230 * 10 ≤ 2 ^ 234 := by
    rw [show 234 = 230 + 4 from rfl, Nat.pow_add]
    exact Nat.mul_le_mul (Nat.le_refl _) (by decide)
  have one : ∀ j, j < n - t → Fx (m * 2) (2 ^ 234) (brI n a x t j) := fun j hj => by
    cases j with
    | zero =>
      have := (hx t ht).lift m
      rw [Nat.mul_comm 2 m] at this
      refine this.mono ?_
      rw [Nat.mul_comm]
      exact Nat.le_trans (Nat.mul_le_mul m2 (Nat.le_refl _)) c10
    | succ j => exact ((m3 (t + 1 + j) (by omega)).mul (hx (t + 1 + j) (by omega))).mono c10
  refine ⟨m * 2, by omega, ?_, one, fun j hj => ?_⟩
  · rw [show 231 = 230 + 1 from rfl, Nat.pow_succ]
    exact Nat.mul_le_mul m2 (Nat.le_refl _)
  · refine (Fx.tot j fun i hi => one i (by omega)).mono ?_
    rw [show 237 = 234 + 3 from rfl, Nat.pow_add, Nat.mul_comm]
    exact Nat.mul_le_mul (Nat.le_refl _) (by have : j ≤ 5 := by omega
                                             exact Nat.le_trans this (by decide))
theorem sqt_bd (M : Mx n a) (ht : t < n) (hp : ∀ s, s < t → 0 < el a s s s) (h0 : 0 < el a t t t) (hx : ∀ i, i < n → Fx 2 10 (x i)) : Bd (2 ^ 237) (2 ^ 237) (brk n a x t) ∧ Bd (2 ^ 474) (2 ^ 474) (brk n a x t * brk n a x t) ∧ Bd (2 ^ 704) (2 ^ 704) (el a t t t * (brk n a x t * brk n a x t)) := by
  obtain ⟨m, m1, m2, m3, m4⟩ := br_fx M ht hp h0 hx
  have h1 := (m4 (n - t) (Nat.le_refl _)).bd m1
  rw [brk_tot ht] at h1
  have h2 : Bd (2 ^ 237) (2 ^ 237) (brk n a x t) := h1.mono (Nat.le_refl _) (Nat.le_trans m2 (Nat.pow_le_pow_right (by decide) (by decide)))
  have h3 := h2.mul h2
  rw [pw_mul] at h3
  have h4 := (M.pv ht hp ht ht).mul h3
  rw [pw_mul] at h4
  exact ⟨h2, h3, h4⟩
end
end P55

set_option Elab.async false
set_option linter.all false
set_option maxRecDepth 100000
set_option maxHeartbeats 1000000
/-! _law_by_squares told. -/
namespace P55
open PySem PySem.Spec PyProof.Rows L2 Zd
theorem zip_rangeT (n : Nat) (g h : Nat → PyData) : (List.zipWith (fun d e => D.pd (.tuple [d, e])) ((List.range n).map g) ((List.range n).map h)) = (List.range n).map fun k => D.pd (.tuple [g k, h k]) := zip_range n g h
section
variable {n t : Nat} {a : Nat → Nat → Rat} {x : Nat → Rat}
theorem bi_list (ht : t < n) : ((List.range (n - t)).map fun j => fr (brI n a x t j)) = fr (x t) :: (List.range (n - (t + 1))).map fun k => fr (el a t t (t + 1 + k) / el a t t t * x (t + 1 + k)) := by
  have e : n - t = (n - (t + 1)) + 1 := by omega
  rw [e, List.range_succ_eq_map, List.map_cons, List.map_map]
  rfl
def sqsD (n : Nat) (a : Nat → Nat → Rat) : PyData := .tuple ((List.range n).map (sqI n a))
theorem bs_step (M : Mx n a) (ht : t < n) (hp : ∀ s, s < n → 0 < el a s s s) (hx : ∀ i, i < n → Fx 2 10 (x i)) {fd : List PyData} (hl : fd.length ≤ 10) :
    p_law_by_squares_1_b [some (.pd (sqsD n a)), some (.pd (.tuple (vecD n x))), some (.ref 0), some (.pd (.int (t : Int))), some (.pd (sqI n a t)), none, none, none] [.lst fd] =
      .ok ((.nx, [some (.pd (sqsD n a)), some (.pd (.tuple (vecD n x))), some (.ref 0), none, none, none, none, none]), [.lst (fd ++ [fr (el a t t t * (brk n a x t * brk n a x t))])]) := by
  have n5 := M.n5
  have h0 := hp t ht
  have hp' : ∀ s, s < t → 0 < el a s s s := fun s h => hp s (by omega)
  obtain ⟨b1, b2, b3⟩ := sqt_bd M ht hp' h0 hx
  obtain ⟨m, m1, m2, m3, m4⟩ := br_fx M ht hp' h0 hx
  obtain ⟨ms, ms1, ms2, ms3⟩ := M.sh ht hp' h0
  have big : ∀ k, k ≤ 3000 → 2 ^ k ≤ 2 ^ 3000 := fun k hk => Nat.pow_le_pow_right (by decide) hk
  have sk : ∀ k, k < n - (t + 1) → Sm (el a t t (t + 1 + k) / el a t t t) ∧ Sm (x (t + 1 + k)) := fun k hk => ⟨Sm.of1 ((ms3 (t + 1 + k) (by omega)).bd ms1) (big _ (by decide)) (Nat.le_trans ms2 (big _ (by decide))), Sm.of1 ((hx (t + 1 + k) (by omega)).bd (by decide)) (Nat.le_trans (by decide : 10 ≤ 2 ^ 10) (big _ (by decide))) (Nat.le_trans (by decide : 2 ≤ 2 ^ 10) (big _ (by decide)))⟩
  have tl := law_total_ok (k := n - t) (g := brI n a x t) (fun j hj => Sm.of1 ((m3 j hj).bd m1) (big _ (by decide)) (Nat.le_trans m2 (big _ (by decide)))) (fun j hj => Sm.of1 ((m4 j hj).bd m1) (big _ (by decide)) (Nat.le_trans m2 (big _ (by decide))))
  rw [brk_tot ht, bi_list ht] at tl
  have c1 := comp_mapA (g := []) (T := .tp [.nm 6, .nm 7]) (μ := [.lst fd]) (elt := eCallP F__law_by (aCons (eVar 6) (aCons (eVar 7) aNil)))
    (env := wipeE [some (.pd (sqsD n a)), some (.pd (.tuple (vecD n x))), some (.ref 0), some (.pd (.int (t : Int))), some (.pd (sqI n a t)), none, none, none] [6, 7]) held_nil (fun k => D.pd (.tuple [fr (el a t t (t + 1 + k) / el a t t t), fr (x (t + 1 + k))])) (fun k => D.pd (fr (el a t t (t + 1 + k) / el a t t t * x (t + 1 + k)))) (List.range (n - (t + 1))) (fun k hk => by
      simp at hk
      obtain ⟨s1, s2⟩ := sk k (by omega)
      have e1 := L_by_ok s1 s2
      exact ⟨[some (.pd (sqsD n a)), some (.pd (.tuple (vecD n x))), some (.ref 0), some (.pd (.int (t : Int))), some (.pd (sqI n a t)), none, some (.pd (fr (el a t t (t + 1 + k) / el a t t t))), some (.pd (fr (x (t + 1 + k))))], by simp [bindT, bindTs, wipeE], by simp [e1]⟩)
  have hcut : Zd.cutD (vecD n x) (some ((t : Int) + 1)) none = (List.range (n - (t + 1))).map fun k => fr (x (t + 1 + k)) := by
    have := cut_drop (vecD n x) (t + 1)
    rw [vec_drop] at this
    simpa using this
  have i1 : iZp (eIx (eVar 4) (eC (.int 1))) (eSlT (eVar 1) (oSome (eAdd (eVar 3) (eC (.int 1)))) oNone) [some (.pd (sqsD n a)), some (.pd (.tuple (vecD n x))), some (.ref 0), some (.pd (.int (t : Int))), some (.pd (sqI n a t)), none, none, none] [.lst fd] =
      .ok ((((List.range (n - (t + 1))).map fun k => D.pd (.tuple [fr (el a t t (t + 1 + k) / el a t t t), fr (x (t + 1 + k))])), [] ++ []), [.lst fd]) := by
    have z := zip_range (n - (t + 1)) (fun k => fr (el a t t (t + 1 + k) / el a t t t)) (fun k => fr (x (t + 1 + k)))
    simp [iZp, srcA, srcL, sqI, pairD, shE, hcut] at z ⊢
    try exact z
  have l1 := lcD_eq (vs := [6, 7]) i1 (by rw [List.length_map, List.length_range]; exact sizeLine_ge (by omega)) c1
  have hxt : atI (vecD n x) (t : Int) = some (fr (x t)) := at_vec ht
  have hz : 1 + (n - (t + 1)) ≤ sizeLine := sizeLine_ge (by omega)
  have s0 : p_law_by_squares_1_b_0 [some (.pd (sqsD n a)), some (.pd (.tuple (vecD n x))), some (.ref 0), some (.pd (.int (t : Int))), some (.pd (sqI n a t)), none, none, none] [.lst fd] =
      .ok ((.nx, [some (.pd (sqsD n a)), some (.pd (.tuple (vecD n x))), some (.ref 0), some (.pd (.int (t : Int))), some (.pd (sqI n a t)), some (.pd (fr (brk n a x t))), none, none]), [.lst fd]) := by
    simp [p_law_by_squares_1_b_0, hxt, l1, hz, sizeLine_ge, bindT, tl]
  have e1 := L_by_ok (Sm.of1 b1 (big _ (by decide)) (big _ (by decide))) (Sm.of1 b1 (big _ (by decide)) (big _ (by decide)))
  have e2 := L_by_ok (Sm.of1 (M.pv ht hp' ht ht) (big _ (by decide)) (big _ (by decide))) (Sm.of1 b2 (big _ (by decide)) (big _ (by decide)))
  have hz2 : fd.length < sizeLine := small1000 (by omega)
  have s1 : p_law_by_squares_1_b_1 [some (.pd (sqsD n a)), some (.pd (.tuple (vecD n x))), some (.ref 0), some (.pd (.int (t : Int))), some (.pd (sqI n a t)), some (.pd (fr (brk n a x t))), none, none] [.lst fd] =
      .ok ((.nx, [some (.pd (sqsD n a)), some (.pd (.tuple (vecD n x))), some (.ref 0), some (.pd (.int (t : Int))), some (.pd (sqI n a t)), some (.pd (fr (brk n a x t))), none, none]), [.lst (fd ++ [fr (el a t t t * (brk n a x t * brk n a x t))])]) := by
    simp [p_law_by_squares_1_b_1, sqI, pairD, e1, e2, hz2]
  unfold p_law_by_squares_1_b
  rw [v_forget, seq_nx s0, s1]
  rfl
end
end P55

set_option Elab.async false
set_option linter.all false
set_option maxRecDepth 100000
set_option maxHeartbeats 1000000
/-! _law_by_squares, whole. -/
namespace P55
open PySem PySem.Spec PyProof.Rows L2 Zd
section
variable {n : Nat} {a : Nat → Nat → Rat} {x : Nat → Rat}
def sqT (n : Nat) (a : Nat → Nat → Rat) (x : Nat → Rat) (t : Nat) : Rat := el a t t t * (brk n a x t * brk n a x t)
theorem bs_ok (M : Mx n a) (hp : AllPos n a) (hx : ∀ i, i < n → Fx 2 10 (x i)) : F__law_by_squares [sqsD n a, .tuple (vecD n x)] = .ok (fr (tot (sqT n a x) n)) := by
  have n5 := M.n5
  have big : ∀ k, k < 4000 → 2 ^ k < 2 ^ 4000 := fun k hk => Nat.pow_lt_pow_right (by decide) hk
  have bd : ∀ t, t < n → Bd (2 ^ 704) (2 ^ 704) (sqT n a x t) := fun t ht => (sqt_bd M ht (fun s h => hp s (by omega)) (hp t ht) hx).2.2
  have tl := law_total_ok (k := n) (g := sqT n a x) (fun j hj => (bd j hj).sm (big _ (by decide)) (big _ (by decide))) (fun j hj => (tot_bd j fun i hi => bd i (by omega)).sm (big _ (by omega)) (big _ (by omega)))
  have s0 : p_law_by_squares_0 [some (.pd (sqsD n a)), some (.pd (.tuple (vecD n x))), none, none, none, none, none, none] [] = .ok ((.nx, [some (.pd (sqsD n a)), some (.pd (.tuple (vecD n x))), some (.ref 0), none, none, none, none, none]), [.lst []]) := by
    simp [p_law_by_squares_0, bindT]
  obtain ⟨env', μ', q1, rfl, rfl⟩ := for_rel (T := .tp [(.nm 3), (.nm 4)]) (b := p_law_by_squares_1_b) (ei := iEn (eVar 0)) (env := [some (.pd (sqsD n a)), some (.pd (.tuple (vecD n x))), some (.ref 0), none, none, none, none, none]) (μ := [.lst []]) (μ1 := [.lst []])
    (fun t env μ => env = [some (.pd (sqsD n a)), some (.pd (.tuple (vecD n x))), some (.ref 0), none, none, none, none, none] ∧ μ = [.lst ((List.range t).map fun j => fr (sqT n a x j))])
    (en_ok (α := Nat) (n := n) (fun i => sqI n a i) (by simp [sqsD])) ⟨rfl, rfl⟩ (fun _ _ _ _ => held_nil) (fun j d env μ hd hP => by
      obtain ⟨rfl, rfl⟩ := hP
      simp only [List.getElem?_map, Option.map_eq_some_iff] at hd
      obtain ⟨j', hj, rfl⟩ := hd
      obtain ⟨hj1, hj2⟩ := List.getElem?_eq_some_iff.mp hj
      simp at hj1 hj2
      subst hj2
      have st := bs_step M hj1 hp hx (fd := (List.range j).map fun j => fr (sqT n a x j)) (by simp; omega)
      have e : (List.range (j + 1)).map (fun j => fr (sqT n a x j)) = ((List.range j).map fun j => fr (sqT n a x j)) ++ [fr (el a j j j * (brk n a x j * brk n a x j))] := by
        rw [List.range_succ, List.map_append]
        rfl
      exact ⟨[some (.pd (sqsD n a)), some (.pd (.tuple (vecD n x))), some (.ref 0), some (.pd (.int (j : Int))), some (.pd (sqI n a j)), none, none, none], _, _, by simp [bindT, bindTs], .inl st, rfl, by rw [e]⟩)
  rw [List.length_map, List.length_range] at q1
  have s2 : p_law_by_squares_2 [some (.pd (sqsD n a)), some (.pd (.tuple (vecD n x))), some (.ref 0), none, none, none, none, none] [.lst ((List.range n).map fun j => fr (sqT n a x j))] = .ok ((.rt (.pd (fr (tot (sqT n a x) n))), [some (.pd (sqsD n a)), some (.pd (.tuple (vecD n x))), some (.ref 0), none, none, none, none, none]), [.lst ((List.range n).map fun j => fr (sqT n a x j))]) := by
    simp [p_law_by_squares_2, tl, derefs, deref]
  exact fnP_run ((congrFun (congrFun parts_law_by_squares _) _).trans ((seq_nx s0).trans ((seq_nx q1).trans s2))) rfl rfl
end
section
variable {n : Nat} {told : Nat → Rat} {f : Nat → Nat → Rat} {p : Nat → Rat} {x : Nat → Rat}
/-- the energy is the sum of the squares -/
theorem by_squares_ok (E : Ebd n f p) (hp : AllPos n (mat f n)) (hx : ∀ i, i < n → Fx 2 10 (x i)) : F__law_by_squares [.tuple ((List.range n).map (sqI n (mat f n))), .tuple (vecD n x)] = .ok (fr (form n (mat f n) x)) := by
  rw [form_squares (fun i j hi hj => E.mat_sym hi hj) hp]
  exact bs_ok E.mx hp hx
end
end P55

set_option Elab.async false
set_option linter.all false
set_option maxRecDepth 100000
set_option maxHeartbeats 1000000
/-! low values, plain. -/
namespace P55
open PySem PySem.Spec PyProof.Rows L2 Zd
section
variable {n t : Nat} {a : Nat → Nat → Rat}
/-- the places from c on are told, those below are 0: one place more -/
def loS (n : Nat) (a : Nat → Nat → Rat) (c : Nat) (x : Nat → Rat) : Nat → Rat := fun j => if j = c then 0 - tot (fun k => el a c c (c + 1 + k) / el a c c c * x (c + 1 + k)) (n - (c + 1)) else x j
/-- k places told below t -/
def lo (n : Nat) (a : Nat → Nat → Rat) (t : Nat) : Nat → Nat → Rat
  | 0 => fun j => if j = t then 1 else 0
  | k + 1 => loS n a (t - 1 - k) (lo n a t k)
theorem lo_above : ∀ k j, t - k ≤ j → k ≤ t → ∀ m, lo n a t (k + m) j = lo n a t k j ∨ t < k + m
  | k, j, h, hk, 0 => .inl rfl
  | k, j, h, hk, m + 1 => by
    by_cases hm : t < k + (m + 1)
    · exact .inr hm
    · rcases lo_above k j h hk m with e | e
      · refine .inl ?_
        show loS n a (t - 1 - (k + m)) (lo n a t (k + m)) j = _
        unfold loS
        rw [if_neg (by omega), e]
      · omega
theorem lo_keep {k j : Nat} (hk : k ≤ t) (h : t - k ≤ j) : lo n a t t j = lo n a t k j := by
  rcases lo_above (n := n) (a := a) k j h hk (t - k) with e | e
  · rw [← e]
    congr 1
    omega
  · omega
theorem lo_t : lo n a t t t = 1 := by
  rw [lo_keep (k := 0) (by omega) (by omega)]
  show (if t = t then (1 : Rat) else 0) = 1
  rw [if_pos rfl]
theorem lo_gt {j : Nat} (h : t < j) : lo n a t t j = 0 := by
  rw [lo_keep (k := 0) (by omega) (by omega)]
  show (if j = t then (1 : Rat) else 0) = 0
  rw [if_neg (by omega)]
theorem lo_low : ∀ k j, j < t - k → lo n a t k j = 0
  | 0, j, h => by
    show (if j = t then (1 : Rat) else 0) = 0
    rw [if_neg (by omega)]
  | k + 1, j, h => by
    show loS n a (t - 1 - k) (lo n a t k) j = 0
    unfold loS
    rw [if_neg (by omega)]
    exact lo_low k j (by omega)
theorem lo_brk {c : Nat} (hc : c < t) : brk n a (lo n a t t) c = 0 := by
  unfold brk
  have hk : lo n a t t c = lo n a t (t - 1 - c + 1) c := lo_keep (by omega) (by omega)
  have e1 : lo n a t (t - 1 - c + 1) c = 0 - tot (fun k => el a c c (c + 1 + k) / el a c c c * lo n a t (t - 1 - c) (c + 1 + k)) (n - (c + 1)) := by
    show loS n a (t - 1 - (t - 1 - c)) (lo n a t (t - 1 - c)) c = _
    unfold loS
    have e : t - 1 - (t - 1 - c) = c := by omega
    rw [e, if_pos rfl]
  have e2 : tot (fun k => el a c c (c + 1 + k) / el a c c c * lo n a t t (c + 1 + k)) (n - (c + 1)) = tot (fun k => el a c c (c + 1 + k) / el a c c c * lo n a t (t - 1 - c) (c + 1 + k)) (n - (c + 1)) := tot_congr _ fun k _ => by
    rw [lo_keep (k := t - 1 - c) (by omega) (by omega)]
  rw [hk, e1, e2]
  grind
theorem form_sq2 {x : Nat → Rat} (hs : ∀ i j, i < n → j < n → a i j = a j i) : ∀ t, t ≤ n → (∀ s, s < t → 0 < el a s s s) → form n a x = form n (el a t) x + tot (fun t => el a t t t * (brk n a x t * brk n a x t)) t
  | 0, _, _ => by show form n a x = form n a x + 0; grind
  | t + 1, ht, hp => by
    have p0 := hp t (by omega)
    rw [form_sq2 hs t (by omega) (fun s h => hp s (by omega)), form_step hs (show t < n by omega) (fun s h => hp s (by omega)) (by grind)]
    show _ = _ + (tot (fun t => el a t t t * (brk n a x t * brk n a x t)) t + el a t t t * (brk n a x t * brk n a x t))
    grind
/-- the energy of the low values is the first part that is not above 0 -/
theorem lo_form (hs : ∀ i j, i < n → j < n → a i j = a j i) (S : Stops n a t) : form n a (lo n a t t) = el a t t t := by
  have ht := S.lt
  rw [form_sq2 hs t (by omega) S.before]
  have e1 : tot (fun s => el a s s s * (brk n a (lo n a t t) s * brk n a (lo n a t t) s)) t = 0 := tot_zero t fun s h => by
    rw [lo_brk h]
    grind
  have zz := el_zero (n := n) t (by omega) S.before
  have hrow : ∀ i, i < n → tot (fun j => el a t i j * (lo n a t t i * lo n a t t j)) n = el a t i t * lo n a t t i := fun i hi => by
    rw [tot_at _ ht, tot_zero t fun j hj => by rw [zz i j (.inr hj)]; grind]
    rw [tot_zero (n - (t + 1)) fun k hk => by rw [lo_gt (show t < t + 1 + k by omega)]; grind]
    rw [lo_t]
    grind
  have e2 : form n (el a t) (lo n a t t) = el a t t t := by
    unfold form
    rw [tot_congr n hrow, tot_at _ ht, tot_zero t fun j hj => by rw [zz j t (.inl hj)]; grind]
    rw [tot_zero (n - (t + 1)) fun k hk => by rw [lo_gt (show t < t + 1 + k by omega)]; grind]
    rw [lo_t]
    grind
  rw [e1, e2]
  grind
/-- their sizes -/
theorem lo_fx (M : Mx n a) (ht : t < n) (hp : ∀ s, s < t → 0 < el a s s s) : ∀ k, k ≤ t → ∃ D, 0 < D ∧ D ≤ 2 ^ (230 * k) ∧ ∀ j, Fx D (2 ^ (233 * k)) (lo n a t k j)
  | 0, _ => ⟨1, by decide, by decide, fun j => by
    show Fx 1 (2 ^ (233 * 0)) (if j = t then (1 : Rat) else 0)
    split
    · exact Fx.one 1
    · exact Fx.zero 1 _⟩
  | k + 1, hk => by
    obtain ⟨D, d1, d2, d3⟩ := lo_fx M ht hp k (by omega)
    have n5 := M.n5
    have hc : t - 1 - k < n := by omega
    obtain ⟨m, m1, m2, m3⟩ := M.sh hc (fun s hs => hp s (by omega)) (hp _ (by omega))
    refine ⟨m * D, Nat.mul_pos m1 d1, ?_, fun j => ?_⟩
    · rw [Nat.mul_succ, Nat.add_comm, Nat.pow_add]
      exact Nat.mul_le_mul m2 d2
    · have big : 4 * (2 ^ 230 * 2 ^ (233 * k)) ≤ 2 ^ (233 * (k + 1)) := by
        rw [Nat.mul_succ, Nat.add_comm (233 * k), Nat.pow_add, ← Nat.mul_assoc]
        exact Nat.mul_le_mul (Nat.le_trans (by rw [show 232 = 2 + 230 from rfl, Nat.pow_add]; exact Nat.le_refl _) (Nat.pow_le_pow_right (by decide) (by decide) : 2 ^ 232 ≤ 2 ^ 233)) (Nat.le_refl _)
      show Fx (m * D) _ (loS n a (t - 1 - k) (lo n a t k) j)
      unfold loS
      split
      · have := Fx.tot (D := m * D) (N := 2 ^ 230 * 2 ^ (233 * k)) (g := fun i => el a (t - 1 - k) (t - 1 - k) (t - 1 - k + 1 + i) / el a (t - 1 - k) (t - 1 - k) (t - 1 - k) * lo n a t k (t - 1 - k + 1 + i)) (n - (t - 1 - k + 1)) fun i hi => (m3 _ (by omega)).mul (d3 _)
        have e := (Fx.zero (m * D) 0).sub this
        rw [Nat.zero_add] at e
        exact e.mono (Nat.le_trans (Nat.mul_le_mul (by omega) (Nat.le_refl _)) big)
      · have := (d3 j).lift m
        rw [Nat.mul_comm D m] at this
        refine this.mono (Nat.le_trans ?_ big)
        rw [Nat.mul_comm (2 ^ (233 * k)) m]
        exact Nat.le_trans (Nat.mul_le_mul m2 (Nat.le_refl _)) (Nat.le_mul_of_pos_left _ (by decide))
end
end P55

set_option Elab.async false
set_option linter.all false
set_option maxRecDepth 100000
set_option maxHeartbeats 1000000
/-! low_values told. -/
namespace P55
open PySem PySem.Spec PyProof.Rows L2 Zd
section
variable {n t : Nat} {told : Nat → Rat} {f : Nat → Nat → Rat} {p : Nat → Rat} {a : Nat → Nat → Rat}
theorem pw63 : (2 : Int) ^ 63 = 9223372036854775808 := by rfl
theorem in63 {n : Nat} (h : n ≤ 1000) : -(2 ^ 63) ≤ (n : Int) ∧ (n : Int) < 2 ^ 63 := by
  rw [pw63]
  omega
theorem rep_flat (d : PyData) : ∀ n : Nat, (List.replicate n [d]).flatten = List.replicate n d
  | 0 => rfl
  | n + 1 => by
    rw [List.replicate_succ, List.flatten_cons, rep_flat d n]
    rfl
theorem gMul_at (d : PyData) (k : Int) : gMul (.list [d]) (.int k) = if -(2 ^ 63) ≤ k ∧ k < 2 ^ 63 ∧ 1 * k.toNat ≤ sizeLine then some (List.replicate k.toNat [d]).flatten else none := rfl
theorem gMul_ok {d : PyData} {n : Nat} (h : n ≤ 1000) : gMul (.list [d]) (.int (n : Int)) = some (List.replicate n d) := by
  have hs : 1 * (n : Int).toNat ≤ sizeLine := by
    rw [Int.toNat_natCast, Nat.one_mul]
    exact sizeLine_ge h
  refine (gMul_at d n).trans ((if_pos ⟨(in63 h).1, (in63 h).2, hs⟩).trans ?_)
  rw [Int.toNat_natCast, rep_flat]
theorem new2_ok {f : G2} {a b : EvE} {env : Zd.Env} {μ μ1 μ2 : Store} {x y : PyData} {z : List PyData} (ha : a env μ = .ok (.pd x, μ1)) (hb : b env μ1 = .ok (.pd y, μ2)) (h : f x y = some z) : eNew2 f a b env μ = .ok (z, μ2) := by
  rw [v_new2, ha, Out.ok_bind, hb]
  simp [h]
theorem low_none (E : Ebd n f p) (h : AllPos n (mat f n)) : F_low_values [bk n told f] = .ok .none := by
  have e1 := energy_rows_ok (told := told) E
  have e2 := E.until
  have n1 := E.n1
  have sm := E.mx.el_sm (show n - 1 < n by omega) fun s hs => h s (by omega)
  have e4 := F_compare_ok sm sm0
  have sg : sgn (el (mat f n) (n - 1) (n - 1) (n - 1)) 0 = 1 := by
    unfold sgn
    have := h (n - 1) (by omega)
    rw [if_pos this, if_neg (by grind)]
    rfl
  rw [sg] at e4
  have s0 : p_low_values_0 [some (.pd (bk n told f)), none, none, none, none, none, none] [] = .ok ((.nx, [some (.pd (bk n told f)), some (.pd (.list (sqR n (mat f n) n 0))), none, none, none, none, none]), []) := by
    simp [p_low_values_0, e1, e2, bindT]
  have hl : atI (sqR n (mat f n) n 0) (-1) = some (sqI n (mat f n) (n - 1)) := by
    rw [sq_pos h, pos_last n1]
    exact atI_last _ _
  have s1 : p_low_values_1 [some (.pd (bk n told f)), some (.pd (.list (sqR n (mat f n) n 0))), none, none, none, none, none] [] = .ok ((.rt (.pd .none), [some (.pd (bk n told f)), some (.pd (.list (sqR n (mat f n) n 0))), none, none, none, none, none]), []) := by
    simp [p_low_values_1, p_low_values_1t, hl, sqI, pairD, zero_fr, e4]
  exact fnP_run ((congrFun (congrFun parts_low_values _) _).trans ((seq_nx s0).trans (seq_rt s1))) rfl rfl
theorem rgD_ok {x y : EvE} {env : Zd.Env} {μ : Store} {t : Nat} (h : x env μ = .ok (.pd (.int ((t : Int) - 1)), μ)) (h2 : y env μ = .ok (.pd (.int (-1)), μ)) (ht : t ≤ 1000) :
    iRgD x y env μ = .ok (((List.range t).map fun (k : Nat) => D.pd (.int ((t : Int) - 1 - (k : Int))), []), μ) := by
  have key : iRgD x y env μ = if -(2 ^ 62) ≤ ((t : Int) - 1) ∧ ((t : Int) - 1) < 2 ^ 62 ∧ -(2 ^ 62) ≤ (-1 : Int) ∧ (-1 : Int) < 2 ^ 62 then .ok (((List.range ((t : Int) - 1 - -1).toNat).map fun (k : Nat) => .pd (.int ((t : Int) - 1 - (k : Int))), []), μ) else .stuck := by
    unfold iRgD
    rw [h]
    dsimp only [Out.bind]
    rw [h2]
    rfl
  rw [key, if_pos (by rw [pw62]; omega)]
  have e : ((t : Int) - 1 - -1).toNat = t := by omega
  rw [e]
theorem found_at (S : Stops n a t) {c : Nat} (hc : c < t) : atI (sqR n a n 0) (c : Int) = some (sqI n a c) := by
  rw [sq_stop S, at_nat, List.getElem?_append_left (by simpa using hc)]
  simp [hc]
def loW (n : Nat) (a : Nat → Nat → Rat) (c : Nat) (v : Nat → Rat) (j : Nat) : Nat → Rat := fun i => if i = c then 0 - tot (fun k => el a c c (c + 1 + k) / el a c c c * v (c + 1 + k)) j else v i
theorem low_inner (M : Mx n a) (S : Stops n a t) {c : Nat} (hc : c < t) {v : Nat → Rat} {Dn k : Nat} (d1 : 0 < Dn) (d2 : Dn ≤ 2 ^ (230 * k)) (d3 : ∀ j, Fx Dn (2 ^ (233 * k)) (v j)) (hk : k ≤ 4) (hv : v c = 0) {e0 e3 : Option D} :
    p_low_values_5_bx [e0, some (.pd (.list (sqR n a n 0))), some (.ref 0), e3, some (.pd (.int (c : Int))), none, none] [.lst (vecD n v)] =
      .ok ((.nx, [e0, some (.pd (.list (sqR n a n 0))), some (.ref 0), e3, none, none, none]), [.lst (vecD n (loS n a c v))]) := by
  have n5 := M.n5
  have tn := S.lt
  have hp' : ∀ s, s < c → 0 < el a s s s := fun s h => S.before s (by omega)
  have h0 := S.before c hc
  obtain ⟨m, m1, m2, m3⟩ := M.sh (show c < n by omega) hp' h0
  have big : ∀ k, k ≤ 3000 → 2 ^ k ≤ 2 ^ 3000 := fun k hk => Nat.pow_le_pow_right (by decide) hk
  have sv : ∀ j, Sm (v j) := fun j => Sm.of1 ((d3 j).bd d1) (big _ (by omega)) (Nat.le_trans d2 (big _ (by omega)))
  have ss : ∀ k, k < n - (c + 1) → Sm (el a c c (c + 1 + k) / el a c c c) := fun k hk => Sm.of1 ((m3 (c + 1 + k) (by omega)).bd m1) (big _ (by decide)) (Nat.le_trans m2 (big _ (by decide)))
  have fg : ∀ i, i < n - (c + 1) → Fx (m * Dn) (2 ^ 230 * 2 ^ (233 * k)) (el a c c (c + 1 + i) / el a c c c * v (c + 1 + i)) := fun i hi => (m3 _ (by omega)).mul (d3 _)
  have dm : m * Dn ≤ 2 ^ 3000 := Nat.le_trans (Nat.mul_le_mul m2 d2) (by rw [pw_mul]; exact big _ (by omega))
  have dp : 0 < m * Dn := Nat.mul_pos m1 d1
  have b1 : 2 ^ 230 * 2 ^ (233 * k) ≤ 2 ^ 3000 := by rw [pw_mul]; exact big _ (by omega)
  have b2 : ∀ j, j ≤ 4 → 0 + j * (2 ^ 230 * 2 ^ (233 * k)) ≤ 2 ^ 3000 := fun j hj => by
    rw [pw_mul, Nat.zero_add]
    exact Nat.le_trans (Nat.mul_le_mul (show j ≤ 2 ^ 2 by omega) (Nat.le_refl _)) (by rw [pw_mul]; exact big _ (by omega))
  have sg : ∀ i, i < n - (c + 1) → Sm (el a c c (c + 1 + i) / el a c c c * v (c + 1 + i)) := fun i hi => Sm.of1 ((fg i hi).bd dp) b1 dm
  have st : ∀ j, j ≤ n - (c + 1) → Sm (0 - tot (fun k => el a c c (c + 1 + k) / el a c c c * v (c + 1 + k)) j) := fun j hj => Sm.of1 (((Fx.zero (m * Dn) 0).sub (Fx.tot j fun i hi => fg i (by omega))).bd dp) (b2 j (by omega)) dm
  have hcut : Zd.cutD (vecD n v) (some ((c : Int) + 1)) none = (List.range (n - (c + 1))).map fun k => fr (v (c + 1 + k)) := by
    have := cut_drop (vecD n v) (c + 1)
    rw [vec_drop] at this
    simpa using this
  have i1 : iZp (eIx (eIx (eVar 1) (eVar 4)) (eC (.int 1))) (eFrz (eSlL (eVar 2) (oSome (eAdd (eVar 4) (eC (.int 1)))) oNone)) [e0, some (.pd (.list (sqR n a n 0))), some (.ref 0), e3, some (.pd (.int (c : Int))), none, none] [.lst (vecD n v)] =
      .ok ((((List.range (n - (c + 1))).map fun k => D.pd (.tuple [fr (el a c c (c + 1 + k) / el a c c c), fr (v (c + 1 + k))])), [] ++ []), [.lst (vecD n v)]) := by
    have z := zip_range (n - (c + 1)) (fun k => fr (el a c c (c + 1 + k) / el a c c c)) (fun k => fr (v (c + 1 + k)))
    simp [iZp, srcA, srcL, sqI, pairD, shE, hcut, found_at S hc] at z ⊢
    try exact z
  obtain ⟨env', μ', q1, rfl, rfl⟩ := for_rel (T := .tp [(.nm 5), (.nm 6)]) (b := p_low_values_5_b_bx) (fun j env μ => env = [e0, some (.pd (.list (sqR n a n 0))), some (.ref 0), e3, some (.pd (.int (c : Int))), none, none] ∧ μ = [.lst (vecD n (loW n a c v j))]) i1 ⟨rfl, by
      congr 1
      congr 1
      congr 1
      funext i
      unfold loW
      split
      · rename_i h
        rw [h, hv]
        show (0 : Rat) = 0 - 0
        grind
      · rfl⟩ (fun _ _ _ _ => held_nil) (fun j d env μ hd hP => by
    obtain ⟨rfl, rfl⟩ := hP
    simp only [List.getElem?_map, Option.map_eq_some_iff] at hd
    obtain ⟨j', hj, rfl⟩ := hd
    obtain ⟨hj1, hj2⟩ := List.getElem?_eq_some_iff.mp hj
    simp at hj1 hj2
    subst hj2
    have e1 := F_times_ok (ss j hj1) (sv (c + 1 + j))
    have e2 := F_less_ok (st j (by omega)) (sg j hj1)
    have hat : atI (vecD n (loW n a c v j)) (c : Int) = some (fr (0 - tot (fun k => el a c c (c + 1 + k) / el a c c c * v (c + 1 + k)) j)) := by
      rw [at_vec (by omega)]
      unfold loW
      rw [if_pos rfl]
    have hset : (vecD n (loW n a c v j)).set c (fr (0 - tot (fun k => el a c c (c + 1 + k) / el a c c c * v (c + 1 + k)) j - el a c c (c + 1 + j) / el a c c c * v (c + 1 + j))) = vecD n (loW n a c v (j + 1)) := by
      rw [vecD_set (by omega)]
      congr 1
      funext i
      unfold loW
      split
      · show _ = 0 - (tot _ j + _)
        grind
      · rfl
    refine ⟨[e0, some (.pd (.list (sqR n a n 0))), some (.ref 0), e3, some (.pd (.int (c : Int))), some (.pd (fr (el a c c (c + 1 + j) / el a c c c))), some (.pd (fr (v (c + 1 + j))))], _, _, by simp [bindT, bindTs], .inl ?_, rfl, rfl⟩
    unfold p_low_values_5_b_bx
    rw [v_forget]
    have : p_low_values_5_b_b [e0, some (.pd (.list (sqR n a n 0))), some (.ref 0), e3, some (.pd (.int (c : Int))), some (.pd (fr (el a c c (c + 1 + j) / el a c c c))), some (.pd (fr (v (c + 1 + j))))] [.lst (vecD n (loW n a c v j))] =
        .ok ((.nx, [e0, some (.pd (.list (sqR n a n 0))), some (.ref 0), e3, some (.pd (.int (c : Int))), some (.pd (fr (el a c c (c + 1 + j) / el a c c c))), some (.pd (fr (v (c + 1 + j))))]), [.lst (vecD n (loW n a c v (j + 1)))]) := by
      simp [p_low_values_5_b_b, e1, hat, e2, ixN_nat' (show c < n by omega), hset]
    rw [this]
    rfl)
  rw [List.length_map, List.length_range] at q1
  unfold p_low_values_5_bx
  rw [v_forget]
  unfold p_low_values_5_b
  rw [q1]
  rfl
theorem low_start (n5 : n ≤ 5) {e1 : Option D} : p_low_values_2 [some (.pd (bk n told f)), e1, none, none, none, none, none] [] = .ok ((.nx, [some (.pd (bk n told f)), e1, some (.ref 0), none, none, none, none]), [.lst (vecD n fun _ => 0)]) := by
  have hz : List.replicate n ZEROd = vecD n (fun _ => 0) := by
    rw [zero_fr]
    unfold vecD
    apply List.ext_getElem <;> simp
  have hm := gMul_ok (d := ZEROd) (n := n) (by omega)
  rw [hz] at hm
  have h1 : eFrz (eLst (aCons (eC ZEROd) aNil)) [some (.pd (bk n told f)), e1, none, none, none, none, none] [] = .ok (.pd (.list [ZEROd]), []) := by
    simp [sizeLine_ge]
  have h2 : eCall fLen (aCons (eVar 0) aNil) [some (.pd (bk n told f)), e1, none, none, none, none, none] [] = .ok (.pd (.int (n : Int)), []) := by
    simp
  have h3 := new2_ok h1 h2 hm
  unfold p_low_values_2
  rw [v_set, v_own, h3]
  rfl
theorem low_ok (E : Ebd n f p) (S : Stops n (mat f n) t) : F_low_values [bk n told f] = .ok (.tuple (vecD n (lo n (mat f n) t t))) := by
  have e1 := energy_rows_ok (told := told) E
  have e2 := E.until
  have n1 := E.n1
  have n5 := E.n5
  have tn := S.lt
  have sm := E.mx.el_sm S.lt S.before
  have e4 := F_compare_ok sm sm0
  have sg : sgn (el (mat f n) t t t) 0 ≤ 0 := by
    unfold sgn
    rw [if_neg S.here]
    split <;> decide
  have sg2 : ¬ 0 < sgn (el (mat f n) t t t) 0 := by omega
  have s0 : p_low_values_0 [some (.pd (bk n told f)), none, none, none, none, none, none] [] = .ok ((.nx, [some (.pd (bk n told f)), some (.pd (.list (sqR n (mat f n) n 0))), none, none, none, none, none]), []) := by
    simp [p_low_values_0, e1, e2, bindT]
  have hl : atI (sqR n (mat f n) n 0) (-1) = some (pairD (el (mat f n) t t t) []) := by
    rw [sq_stop S]
    exact atI_last _ _
  have s1 : p_low_values_1 [some (.pd (bk n told f)), some (.pd (.list (sqR n (mat f n) n 0))), none, none, none, none, none] [] = .ok ((.nx, [some (.pd (bk n told f)), some (.pd (.list (sqR n (mat f n) n 0))), none, none, none, none, none]), []) := by
    simp [p_low_values_1, p_low_values_1t, hl, pairD, zero_fr, e4, sg, sg2]
  have s2 := low_start (told := told) (f := f) E.n5 (e1 := some (.pd (.list (sqR n (mat f n) n 0))))
  have hlen : (sqR n (mat f n) n 0).length = t + 1 := by
    rw [sq_stop S]
    simp
  have s3 : p_low_values_3 [some (.pd (bk n told f)), some (.pd (.list (sqR n (mat f n) n 0))), some (.ref 0), none, none, none, none] [.lst (vecD n fun _ => 0)] = .ok ((.nx, [some (.pd (bk n told f)), some (.pd (.list (sqR n (mat f n) n 0))), some (.ref 0), some (.pd (.int (t : Int))), none, none, none]), [.lst (vecD n fun _ => 0)]) := by
    have : ((t : Int) + 1 - 1) = t := by omega
    simp [p_low_values_3, bindT, hlen, this]
  have s4 : p_low_values_4 [some (.pd (bk n told f)), some (.pd (.list (sqR n (mat f n) n 0))), some (.ref 0), some (.pd (.int (t : Int))), none, none, none] [.lst (vecD n fun _ => 0)] = .ok ((.nx, [some (.pd (bk n told f)), some (.pd (.list (sqR n (mat f n) n 0))), some (.ref 0), some (.pd (.int (t : Int))), none, none, none]), [.lst (vecD n (lo n (mat f n) t 0))]) := by
    have := vecD_set (g := fun _ => 0) (q := 1) tn
    simp [p_low_values_4, ixN_nat' tn, one_fr, this]
    rfl
  obtain ⟨env', μ', q1, rfl, rfl⟩ := for_rel (T := .nm 4) (b := p_low_values_5_bx) (ei := iRgD (eSub (eVar 3) (eC (.int 1))) (eNeg (eC (.int 1)))) (env := [some (.pd (bk n told f)), some (.pd (.list (sqR n (mat f n) n 0))), some (.ref 0), some (.pd (.int (t : Int))), none, none, none]) (μ := [.lst (vecD n (lo n (mat f n) t 0))])
    (fun k env μ => env = [some (.pd (bk n told f)), some (.pd (.list (sqR n (mat f n) n 0))), some (.ref 0), some (.pd (.int (t : Int))), none, none, none] ∧ μ = [.lst (vecD n (lo n (mat f n) t k))]) (rgD_ok (t := t) (by simp) (by simp) (by omega)) ⟨rfl, rfl⟩ (fun _ _ _ _ => held_nil) (fun k d env μ hd hP => by
    obtain ⟨rfl, rfl⟩ := hP
    simp only [List.getElem?_map, Option.map_eq_some_iff] at hd
    obtain ⟨j', hj, rfl⟩ := hd
    obtain ⟨hj1, hj2⟩ := List.getElem?_eq_some_iff.mp hj
    simp at hj1 hj2
    subst hj2
    obtain ⟨Dn, d1, d2, d3⟩ := lo_fx E.mx S.lt S.before k (by omega)
    have st := low_inner E.mx S (show t - 1 - k < t by omega) d1 d2 d3 (by omega) (lo_low k _ (by omega)) (e0 := some (.pd (bk n told f))) (e3 := some (.pd (.int (t : Int))))
    have e : (t : Int) - 1 - (k : Int) = ((t - 1 - k : Nat) : Int) := by omega
    rw [e]
    exact ⟨[some (.pd (bk n told f)), some (.pd (.list (sqR n (mat f n) n 0))), some (.ref 0), some (.pd (.int (t : Int))), some (.pd (.int ((t - 1 - k : Nat) : Int))), none, none], _, _, by simp [bindT], .inl st, rfl, rfl⟩)
  rw [List.length_map, List.length_range] at q1
  have s6 : p_low_values_6 [some (.pd (bk n told f)), some (.pd (.list (sqR n (mat f n) n 0))), some (.ref 0), some (.pd (.int (t : Int))), none, none, none] [.lst (vecD n (lo n (mat f n) t t))] = .ok ((.rt (.pd (.tuple (vecD n (lo n (mat f n) t t)))), [some (.pd (bk n told f)), some (.pd (.list (sqR n (mat f n) n 0))), some (.ref 0), some (.pd (.int (t : Int))), none, none, none]), [.lst (vecD n (lo n (mat f n) t t))]) := by
    simp [p_low_values_6, derefs, deref]
  exact fnP_run ((congrFun (congrFun parts_low_values _) _).trans ((seq_nx s0).trans ((seq_nx s1).trans ((seq_nx s2).trans ((seq_nx s3).trans ((seq_nx s4).trans ((seq_nx q1).trans s6))))))) rfl rfl
end
end P55

set_option Elab.async false
set_option linter.all false
set_option maxRecDepth 100000
set_option maxHeartbeats 1000000
/-! _law_value, _law_energy told. -/
namespace P55
open PySem PySem.Spec PyProof.Rows L2 Zd
def lsu : List Rat → Rat
  | [] => 0
  | q :: r => q + lsu r
theorem lsu_app : ∀ (l m : List Rat), lsu (l ++ m) = lsu l + lsu m
  | [], m => by show lsu m = 0 + lsu m; grind
  | q :: r, m => by
    show q + lsu (r ++ m) = q + lsu r + lsu m
    rw [lsu_app r m]
    grind
theorem lsu_tot : ∀ l : List Rat, tot (fun j => l.getD j 0) l.length = lsu l
  | [] => rfl
  | q :: r => by
    have h := tot_cons q (fun j => r.getD j 0) r.length
    rw [lsu_tot r] at h
    show tot (fun j => (q :: r).getD j 0) (r.length + 1) = q + lsu r
    rw [← h]
    exact tot_congr _ fun j _ => by cases j <;> rfl
theorem lsu_filter {g : Nat → Rat} {p : Nat → Bool} : ∀ n, (∀ k, k < n → p k = false → g k = 0) → lsu (((List.range n).filter p).map g) = tot g n
  | 0, _ => rfl
  | n + 1, h => by
    rw [List.range_succ, List.filter_append, List.map_append, lsu_app, lsu_filter n fun k hk => h k (by omega)]
    show _ = tot g n + g n
    congr 1
    by_cases hp : p n = true
    · rw [List.filter_cons_of_pos hp]
      show g n + lsu [] = g n
      show g n + 0 = g n
      grind
    · rw [List.filter_cons_of_neg (by simpa using hp), h n (by omega) (by simpa using hp)]
      rfl
theorem fx_sm {D N : Nat} {q : Rat} (h : Fx D N q) (d1 : 0 < D) (d2 : D ≤ 2 ^ 3000) (d3 : N ≤ 2 ^ 3000) : Sm q := Sm.of1 (h.bd d1) d3 d2
theorem law_total_list {l : List Rat} {D N : Nat} (d1 : 0 < D) (d2 : D ≤ 2 ^ 3000) (d3 : 8 * N ≤ 2 ^ 3000) (hl : l.length ≤ 8) (h : ∀ q ∈ l, Fx D N q) : F__law_total [.list (l.map fr)] = .ok (fr (lsu l)) := by
  have hg : ∀ j, j < l.length → Fx D N (l.getD j 0) := fun j hj => by
    rw [List.getD_eq_getElem?_getD, List.getElem?_eq_getElem hj]
    exact h _ (List.getElem_mem hj)
  have ht := law_total_ok (k := l.length) (g := fun j => l.getD j 0) (fun j hj => fx_sm (hg j hj) d1 d2 (by omega)) (fun j hj => fx_sm (Fx.tot j fun i hi => hg i (by omega)) d1 d2 (Nat.le_trans (Nat.mul_le_mul (show j ≤ 8 by omega) (Nat.le_refl _)) d3))
  rw [lsu_tot] at ht
  rw [← ht]
  congr 3
  apply List.ext_getElem
  · simp
  · intro i h1 h2
    simp at h1
    simp [h1]
section
variable {n : Nat} {told : Nat → Rat} {f : Nat → Nat → Rat} {p : Nat → Rat} {x : Nat → Rat} {D N : Nat}
/-- what a cell reads -/
def rd (n : Nat) (f : Nat → Nat → Rat) (x : Nat → Rat) (i : Nat) : Rat := tot (fun k => f i k * x k) n
theorem rd_fx (E : Ebd n f p) (hx : ∀ i, i < n → Fx D N (x i)) {i : Nat} (hi : i < n) : Fx (72 * D) (5 * (144 * N)) (rd n f x i) := by
  have n5 := E.n5
  have := Fx.tot (D := 72 * D) (N := 144 * N) (g := fun k => f i k * x k) n fun k hk => (E.ff i k hi hk).mul (hx k hk)
  exact this.mono (Nat.mul_le_mul n5 (Nat.le_refl _))
theorem p11 : (2048 : Nat) = 2 ^ 11 := by decide
theorem value_ok (E : Ebd n f p) (hx : ∀ i, i < n → Fx D N (x i)) (d1 : 0 < D) (d2 : D ≤ 2 ^ 1500) (d3 : N ≤ 2 ^ 1500) {i : Nat} (hi : i < n) : F__law_value [.tuple [.tuple [.int 0, .int 1], rowD n f i], .tuple (vecD n x)] = .ok (fr (rd n f x i)) := by
  have n5 := E.n5
  have b0 : 2 ^ 1500 * 2 ^ 11 ≤ 2 ^ 3000 := by rw [pw_mul]; exact Nat.pow_le_pow_right (by decide) (by decide)
  have bD : 72 * D ≤ 2 ^ 3000 := Nat.le_trans (by rw [Nat.mul_comm]; exact Nat.mul_le_mul d2 (by decide : 72 ≤ 2 ^ 11)) b0
  have bN : 8 * (144 * N) ≤ 2 ^ 3000 := Nat.le_trans (by rw [← Nat.mul_assoc, Nat.mul_comm]; exact Nat.mul_le_mul d3 (by decide : 8 * 144 ≤ 2 ^ 11)) b0
  have fk : ∀ k, k < n → Fx (72 * D) (144 * N) (f i k * x k) := fun k hk => (E.ff i k hi hk).mul (hx k hk)
  have sx : ∀ k, k < n → Sm (x k) := fun k hk => fx_sm (hx k hk) d1 (Nat.le_trans d2 (Nat.pow_le_pow_right (by decide) (by decide))) (Nat.le_trans d3 (Nat.pow_le_pow_right (by decide) (by decide)))
  have sf : ∀ k, k < n → Sm (f i k) := fun k hk => fx_sm (E.ff i k hi hk) (by decide) (Nat.le_trans (by decide : 72 ≤ 2 ^ 10) (Nat.pow_le_pow_right (by decide) (by decide))) (Nat.le_trans (by decide : 144 ≤ 2 ^ 10) (Nat.pow_le_pow_right (by decide) (by decide)))
  have tl := law_total_list (l := 0 :: ((List.range n).filter fun k => !decide (f i k = 0)).map fun k => f i k * x k) (D := 72 * D) (N := 144 * N) (by omega) bD bN (by
    have := List.length_filter_le (fun k => !decide (f i k = 0)) (List.range n)
    simp at this ⊢
    omega) (fun q hq => by
      rcases List.mem_cons.mp hq with rfl | hq
      · exact Fx.zero _ _
      · obtain ⟨k, hk, rfl⟩ := List.mem_map.mp hq
        simp at hk
        exact fk k hk.1)
  have es : lsu (0 :: ((List.range n).filter fun k => !decide (f i k = 0)).map fun k => f i k * x k) = rd n f x i := by
    show 0 + lsu _ = _
    rw [lsu_filter n fun k hk hz => by
      have : f i k = 0 := by
        simp at hz
        exact hz
      rw [this]
      grind]
    unfold rd
    grind
  rw [es] at tl
  have c1 := comp_filA (g := []) (T := .tp [.nm 2, .nm 3]) (μ := []) (tst := eTst (eOp2 fNe (eIx (eVar 2) (eC (.int 0))) (eC (.int 0)))) (elt := eCallP F__law_by (aCons (eVar 2) (aCons (eVar 3) aNil)))
    (env := wipeE [some (.pd (.tuple [.tuple [.int 0, .int 1], rowD n f i])), some (.pd (.tuple (vecD n x))), none, none] [2, 3]) held_nil (fun k => Zd.D.pd (.tuple [fr (f i k), fr (x k)])) (fun k => Zd.D.pd (fr (f i k * x k))) (fun k => !decide (f i k = 0)) (List.range n) (fun k hk => by
      simp at hk
      have e1 := L_by_ok (sf k hk) (sx k hk)
      exact ⟨[some (.pd (.tuple [.tuple [.int 0, .int 1], rowD n f i])), some (.pd (.tuple (vecD n x))), some (.pd (fr (f i k))), some (.pd (fr (x k)))], by simp [bindT, bindTs, wipeE], by simp, fun _ => by simp [e1]⟩)
  have i1 : iZp (eIx (eVar 0) (eC (.int 1))) (eVar 1) [some (.pd (.tuple [.tuple [.int 0, .int 1], rowD n f i])), some (.pd (.tuple (vecD n x))), none, none] [] =
      .ok ((((List.range n).map fun k => Zd.D.pd (.tuple [fr (f i k), fr (x k)])), [] ++ []), []) := by
    have z := zip_range n (fun k => fr (f i k)) (fun k => fr (x k))
    simp [iZp, srcA, srcL, vecD, rowD] at z ⊢
  have l1 := lcD_eq (vs := [2, 3]) i1 (by rw [List.length_map, List.length_range]; exact sizeLine_ge (by omega)) c1
  have hz : 1 + ((List.range n).filter fun k => !decide (f i k = 0)).length ≤ sizeLine := by
    have := List.length_filter_le (fun k => !decide (f i k = 0)) (List.range n)
    simp only [List.length_range] at this
    exact sizeLine_ge (by omega)
  have hm : (0 :: ((List.range n).filter fun k => !decide (f i k = 0)).map fun k => f i k * x k).map fr = PyData.tuple [.int 0, .int 1] :: ((List.range n).filter fun k => !decide (f i k = 0)).map fun k => fr (f i k * x k) := by
    rw [List.map_cons, List.map_map]
    rfl
  rw [hm] at tl
  have s0 : p_law_value [some (.pd (.tuple [.tuple [.int 0, .int 1], rowD n f i])), some (.pd (.tuple (vecD n x))), none, none] [] = .ok ((.rt (.pd (fr (rd n f x i))), [some (.pd (.tuple [.tuple [.int 0, .int 1], rowD n f i])), some (.pd (.tuple (vecD n x))), none, none]), []) := by
    simp [p_law_value, l1, sizeLine_ge, hz, tl, noL]
  exact fnP_run ((congrFun (congrFun parts_law_value _) _).trans s0) rfl rfl
/-- a cell's share of the energy -/
def enI (n : Nat) (f : Nat → Nat → Rat) (x : Nat → Rat) (c : Nat) : Rat := sca f n c * x c * (x c - rd n f x c)
theorem en_form (E : Ebd n f p) : tot (enI n f x) n = form n (mat f n) x := by
  unfold form
  refine tot_congr n fun i hi => ?_
  have e1 : tot (fun j => mat f n i j * (x i * x j)) n = tot (fun j => (sca f n i * x i) * ((if j = i then x i else 0) - f i j * x j)) n := tot_congr n fun j hj => by
    unfold mat
    by_cases h : i = j
    · subst h
      rw [if_pos rfl, if_pos rfl, E.pot.diag i hi]
      grind
    · rw [if_neg h, if_neg (Ne.symm h)]
      grind
  have e2 : tot (fun j => if j = i then x i else 0) n = x i := by
    rw [tot_at _ hi, tot_zero i fun j hj => if_neg (by omega), tot_zero (n - (i + 1)) fun k hk => if_neg (by omega), if_pos rfl]
    grind
  rw [e1, tot_mul, tot_sub, e2]
  rfl
theorem sca_bnd (E : Ebd n f p) {i : Nat} (hi : i < n) : Fx 12 48 (sca f n i) := E.sca_fx hi
theorem law_energy_ok (E : Ebd n f p) (hx : ∀ i, i < n → Fx D N (x i)) (d1 : 0 < D) (d2 : D ≤ 2 ^ 1400) (d3 : N ≤ 2 ^ 1400) : F__law_energy [bk n told f, scD n f, .tuple (vecD n x)] = .ok (fr (form n (mat f n) x)) := by
  have n5 := E.n5
  have up : ∀ k, k ≤ 3000 → 2 ^ k ≤ 2 ^ 3000 := fun k hk => Nat.pow_le_pow_right (by decide) hk
  have d2' : D ≤ 2 ^ 1500 := Nat.le_trans d2 (Nat.pow_le_pow_right (by decide) (by decide))
  have d3' : N ≤ 2 ^ 1500 := Nat.le_trans d3 (Nat.pow_le_pow_right (by decide) (by decide))
  have sx : ∀ k, k < n → Sm (x k) := fun k hk => fx_sm (hx k hk) d1 (Nat.le_trans d2 (up _ (by decide))) (Nat.le_trans d3 (up _ (by decide)))
  have ssc : ∀ k, k < n → Sm (sca f n k) := fun k hk => fx_sm (E.sca_fx hk) (by decide) (Nat.le_trans (by decide : 12 ≤ 2 ^ 10) (up _ (by decide))) (Nat.le_trans (by decide : 48 ≤ 2 ^ 10) (up _ (by decide)))
  have f1 : ∀ k, k < n → Fx (12 * D) (48 * N) (sca f n k * x k) := fun k hk => (E.sca_fx hk).mul (hx k hk)
  have f2 : ∀ k, k < n → Fx (72 * D) (5 * (144 * N)) (rd n f x k) := fun k hk => rd_fx E hx hk
  have f3 : ∀ k, k < n → Fx (72 * D) (N * 72 + 5 * (144 * N)) (x k - rd n f x k) := fun k hk => by
    have := (hx k hk).lift 72
    rw [Nat.mul_comm D 72] at this
    exact this.sub (f2 k hk)
  have f4 : ∀ k, k < n → Fx (12 * D * (72 * D)) (48 * N * (N * 72 + 5 * (144 * N))) (enI n f x k) := fun k hk => (f1 k hk).mul (f3 k hk)
  have bD : ∀ c, c ≤ 2 ^ 10 → c * D ≤ 2 ^ 1410 := fun c hc => by
    rw [show 1410 = 10 + 1400 from rfl, Nat.pow_add]
    exact Nat.mul_le_mul hc d2
  have bN : ∀ c, c ≤ 2 ^ 10 → c * N ≤ 2 ^ 1410 := fun c hc => by
    rw [show 1410 = 10 + 1400 from rfl, Nat.pow_add]
    exact Nat.mul_le_mul hc d3
  have b3 : N * 72 + 5 * (144 * N) ≤ 2 ^ 1410 := by
    have := bN 792 (by decide)
    have e : N * 72 + 5 * (144 * N) = 792 * N := by omega
    omega
  have b4 : 48 * N * (N * 72 + 5 * (144 * N)) ≤ 2 ^ 2820 := by
    rw [show 2820 = 1410 + 1410 from rfl, Nat.pow_add]
    exact Nat.mul_le_mul (bN 48 (by decide)) b3
  have b5 : 12 * D * (72 * D) ≤ 2 ^ 2820 := by
    rw [show 2820 = 1410 + 1410 from rfl, Nat.pow_add]
    exact Nat.mul_le_mul (bD 12 (by decide)) (bD 72 (by decide))
  have s1 : ∀ k, k < n → Sm (sca f n k * x k) := fun k hk => fx_sm (f1 k hk) (by omega) (Nat.le_trans (bD 12 (by decide)) (up _ (by decide))) (Nat.le_trans (bN 48 (by decide)) (up _ (by decide)))
  have s2 : ∀ k, k < n → Sm (rd n f x k) := fun k hk => fx_sm (f2 k hk) (by omega) (Nat.le_trans (bD 72 (by decide)) (up _ (by decide))) (Nat.le_trans (by rw [← Nat.mul_assoc]; exact bN (5 * 144) (by decide)) (up _ (by decide)))
  have s3 : ∀ k, k < n → Sm (x k - rd n f x k) := fun k hk => fx_sm (f3 k hk) (by omega) (Nat.le_trans (bD 72 (by decide)) (up _ (by decide))) (Nat.le_trans b3 (up _ (by decide)))
  have dd : 0 < 12 * D * (72 * D) := Nat.mul_pos (by omega) (by omega)
  have tl := law_total_ok (k := n) (g := enI n f x) (fun j hj => fx_sm (f4 j hj) dd (Nat.le_trans b5 (up _ (by decide))) (Nat.le_trans b4 (up _ (by decide)))) (fun j hj => fx_sm (Fx.tot j fun i hi => f4 i (by omega)) dd (Nat.le_trans b5 (up _ (by decide))) (Nat.le_trans (Nat.mul_le_mul (show j ≤ 2 ^ 3 by omega) b4) (by rw [pw_mul]; exact up _ (by decide))))
  rw [en_form E] at tl
  have st0 : p_law_energy_0 [some (.pd (bk n told f)), some (.pd (scD n f)), some (.pd (.tuple (vecD n x))), none, none, none, none] [] = .ok ((.nx, [some (.pd (bk n told f)), some (.pd (scD n f)), some (.pd (.tuple (vecD n x))), some (.ref 0), none, none, none]), [.lst []]) := by
    simp [p_law_energy_0, bindT]
  have hb : bk n told f = .tuple ((List.range n).map (cellB n told f)) := bk_cells n told f
  obtain ⟨env', μ', q1, rfl, rfl⟩ := for_rel (T := .tp [(.nm 4), (.nm 5)]) (b := p_law_energy_1_b) (ei := iEn (eVar 0)) (env := [some (.pd (bk n told f)), some (.pd (scD n f)), some (.pd (.tuple (vecD n x))), some (.ref 0), none, none, none]) (μ := [.lst []]) (μ1 := [.lst []])
    (fun t env μ => env = [some (.pd (bk n told f)), some (.pd (scD n f)), some (.pd (.tuple (vecD n x))), some (.ref 0), none, none, none] ∧ μ = [.lst ((List.range t).map fun j => fr (enI n f x j))])
    (en_ok (α := Nat) (n := n) (cellB n told f) (by simp [hb])) ⟨rfl, rfl⟩ (fun _ _ _ _ => held_nil) (fun j d env μ hd hP => by
      obtain ⟨rfl, rfl⟩ := hP
      simp only [List.getElem?_map, Option.map_eq_some_iff] at hd
      obtain ⟨j', hj, rfl⟩ := hd
      obtain ⟨hj1, hj2⟩ := List.getElem?_eq_some_iff.mp hj
      simp at hj1 hj2
      subst hj2
      have v1 := value_ok E hx d1 d2' d3' hj1
      have e1 := L_by_ok (ssc j hj1) (sx j hj1)
      have e2 := L_minus_ok (sx j hj1) (s2 j hj1)
      have e3 := L_by_ok (s1 j hj1) (s3 j hj1)
      have hz2 : j < sizeLine := small1000 (by omega)
      have a0 : p_law_energy_1_b_0 [some (.pd (bk n told f)), some (.pd (scD n f)), some (.pd (.tuple (vecD n x))), some (.ref 0), some (.pd (.int (j : Int))), some (.pd (cellB n told f j)), none] [.lst ((List.range j).map fun j => fr (enI n f x j))] =
          .ok ((.nx, [some (.pd (bk n told f)), some (.pd (scD n f)), some (.pd (.tuple (vecD n x))), some (.ref 0), some (.pd (.int (j : Int))), some (.pd (cellB n told f j)), some (.pd (fr (rd n f x j)))]), [.lst ((List.range j).map fun j => fr (enI n f x j))]) := by
        simp [p_law_energy_1_b_0, cellB, sizeLine_ge, v1, bindT]
      have a1 : p_law_energy_1_b_1 [some (.pd (bk n told f)), some (.pd (scD n f)), some (.pd (.tuple (vecD n x))), some (.ref 0), some (.pd (.int (j : Int))), some (.pd (cellB n told f j)), some (.pd (fr (rd n f x j)))] [.lst ((List.range j).map fun j => fr (enI n f x j))] =
          .ok ((.nx, [some (.pd (bk n told f)), some (.pd (scD n f)), some (.pd (.tuple (vecD n x))), some (.ref 0), some (.pd (.int (j : Int))), some (.pd (cellB n told f j)), some (.pd (fr (rd n f x j)))]), [.lst (((List.range j).map fun j => fr (enI n f x j)) ++ [fr (enI n f x j)])]) := by
        simp [p_law_energy_1_b_1, scD, at_vec hj1, e1, e2, e3, hz2, enI]
      have e : (List.range (j + 1)).map (fun j => fr (enI n f x j)) = ((List.range j).map fun j => fr (enI n f x j)) ++ [fr (enI n f x j)] := by
        rw [List.range_succ, List.map_append]
        rfl
      refine ⟨[some (.pd (bk n told f)), some (.pd (scD n f)), some (.pd (.tuple (vecD n x))), some (.ref 0), some (.pd (.int (j : Int))), some (.pd (cellB n told f j)), none], _, _, by simp [bindT, bindTs], .inl ?_, rfl, rfl⟩
      unfold p_law_energy_1_b
      rw [v_forget, seq_nx a0, a1, e]
      rfl)
  rw [List.length_map, List.length_range] at q1
  have st2 : p_law_energy_2 [some (.pd (bk n told f)), some (.pd (scD n f)), some (.pd (.tuple (vecD n x))), some (.ref 0), none, none, none] [.lst ((List.range n).map fun j => fr (enI n f x j))] = .ok ((.rt (.pd (fr (form n (mat f n) x))), [some (.pd (bk n told f)), some (.pd (scD n f)), some (.pd (.tuple (vecD n x))), some (.ref 0), none, none, none]), [.lst ((List.range n).map fun j => fr (enI n f x j))]) := by
    simp [p_law_energy_2, tl, derefs, deref]
  exact fnP_run ((congrFun (congrFun parts_law_energy _) _).trans ((seq_nx st0).trans ((seq_nx q1).trans st2))) rfl rfl
end
end P55

set_option Elab.async false
set_option linter.all false
set_option maxRecDepth 100000
set_option maxHeartbeats 1000000
/-! Values that can be shown and compared; _law_alike, _law_is_fraction told. -/
namespace P55
open PySem PySem.Spec PyProof.Rows L2 Zd
structure Nc (L k : Nat) (d : PyData) : Prop where
  lay : d.canLay0 = true
  show_ : d.showable = true
  dp : d.depth ≤ k
  ln : d.shown.length ≤ L
theorem Nc.mono {L k L' k' : Nat} {d : PyData} (h : Nc L k d) (h1 : L ≤ L') (h2 : k ≤ k') : Nc L' k' d := ⟨h.lay, h.show_, Nat.le_trans h.dp h2, Nat.le_trans h.ln h1⟩
theorem Nc.int {i : Int} (h : i.natAbs < 2 ^ 1900) : Nc 2000 0 (.int i) := by
  have hl : i.natAbs.log2 < 1900 := log_lt (by decide) h
  refine ⟨by simp [PyData.canLay0], by simp [PyData.showable]; omega, by simp [PyData.depth], ?_⟩
  have := int_text_length_le (k := 1900) (by decide) hl
  show (Str.ofString (toString i)).length ≤ 2000
  rw [PySem.ofString_length]
  omega
theorem Nc.none : Nc 4 0 .none := ⟨rfl, rfl, by simp [PyData.depth], by decide +kernel⟩
theorem all_lay : ∀ {ds : List PyData}, (∀ d ∈ ds, d.canLay0 = true) → PyData.canLayAll0 ds = true
  | [], _ => rfl
  | d :: r, h => by
    have h1 := h d (by simp)
    have h2 := all_lay (ds := r) fun e he => h e (by simp [he])
    simp only [PyData.canLayAll0, h1, h2, Bool.and_self]
theorem all_show : ∀ {ds : List PyData}, (∀ d ∈ ds, d.showable = true) → PyData.showableAll ds = true
  | [], _ => rfl
  | d :: r, h => by
    have h1 := h d (by simp)
    have h2 := all_show (ds := r) fun e he => h e (by simp [he])
    simp only [PyData.showableAll, h1, h2, Bool.and_self]
theorem all_depth {k : Nat} : ∀ {ds : List PyData}, (∀ d ∈ ds, d.depth ≤ k) → PyData.depthAll ds ≤ k
  | [], _ => Nat.zero_le _
  | d :: r, h => by
    have h1 := h d (by simp)
    have h2 := all_depth (ds := r) fun e he => h e (by simp [he])
    simp only [PyData.depthAll]
    omega
theorem all_piled {L : Nat} : ∀ {ds : List PyData}, (∀ d ∈ ds, d.shown.length ≤ L) → piled (PyData.shownAll ds) ≤ (L + 2) * ds.length
  | [], _ => Nat.zero_le _
  | d :: r, h => by
    have h1 := h d (by simp)
    have h2 := all_piled (ds := r) fun e he => h e (by simp [he])
    rw [PyData.shownAll, piled_cons, List.length_cons, Nat.mul_succ]
    omega
theorem join_le (ts : List Str) : (Str.join ", " ts).length ≤ piled ts := by
  cases ts with
  | nil => exact Nat.le_of_eq (by rfl)
  | cons t r =>
    have := join_length_add (t :: r) (by simp)
    omega
theorem Nc.tup {L k : Nat} {ds : List PyData} (h : ∀ d ∈ ds, Nc L k d) : Nc ((L + 2) * ds.length + 3) (k + 1) (.tuple ds) := by
  refine ⟨by simpa [PyData.canLay0] using all_lay fun d hd => (h d hd).lay, by simpa [PyData.showable] using all_show fun d hd => (h d hd).show_, ?_, ?_⟩
  · have := all_depth fun d hd => (h d hd).dp
    simp only [PyData.depth]
    omega
  · have h1 := all_piled fun d hd => (h d hd).ln
    have h2 := join_le (PyData.shownAll ds)
    simp only [PyData.shown, tupleText]
    rw [strLen_append, strLen_append]
    have e1 : ((("(" : String) : Str)).length = 1 := rfl
    have e3 : (((if (PyData.shownAll ds).length == 1 then ",)" else ")" : String) : Str)).length ≤ 2 := by split <;> decide
    rw [e1]
    omega
theorem Nc.lst {L k : Nat} {ds : List PyData} (h : ∀ d ∈ ds, Nc L k d) : Nc ((L + 2) * ds.length + 3) (k + 1) (.list ds) := by
  refine ⟨by simpa [PyData.canLay0] using all_lay fun d hd => (h d hd).lay, by simpa [PyData.showable] using all_show fun d hd => (h d hd).show_, ?_, ?_⟩
  · have := all_depth fun d hd => (h d hd).dp
    simp only [PyData.depth]
    omega
  · have h1 := all_piled fun d hd => (h d hd).ln
    have h2 := join_le (PyData.shownAll ds)
    simp only [PyData.shown, listText_eq_join]
    rw [strLen_append, strLen_append]
    have e1 : ((("[" : String) : Str)).length = 1 := rfl
    have e3 : ((("]" : String) : Str)).length = 1 := rfl
    rw [e1, e3]
    omega
/-- a small fraction -/
def Sn (q : Rat) : Prop := q.num.natAbs < 2 ^ 1900 ∧ q.den < 2 ^ 1900
theorem Nc.fr {q : Rat} (h : Sn q) : Nc 4100 1 (fr q) := by
  refine (Nc.tup (ds := [.int q.num, .int (q.den : Int)]) (L := 2000) (k := 0) fun d hd => ?_).mono (by show 2002 * 2 + 3 ≤ 4100; decide) (by decide)
  simp only [List.mem_cons, List.not_mem_nil, or_false] at hd
  rcases hd with rfl | rfl
  · exact Nc.int h.1
  · exact Nc.int (by rw [Int.natAbs_natCast]; exact h.2)
theorem szl : sizeLine = 16777216 := by rfl
theorem repr_ok {L k : Nat} {d : PyData} (h : Nc L k d) (hL : L ≤ 16000000) (hk : k ≤ 60) : fRepr [d] = some (.str d.shown) := by
  unfold fRepr
  refine if_pos ⟨h.show_, PyData.hasDict_of_canLay d h.lay, ?_, Nat.le_trans h.dp hk⟩
  have := h.ln
  rw [szl]
  omega
theorem eq_same {L k : Nat} {d : PyData} (h : Nc L k d) (hk : k ≤ 60) : fEq d d = some (.bool true) := by
  have hs : SeqAt.shaped d = true := by
    unfold SeqAt.shaped
    have := h.dp
    rw [h.lay, decide_eq_true (by omega)]
    rfl
  have e1 : fEqD d d = some (.bool true) := by
    unfold fEqD
    rw [if_pos ⟨hs, hs⟩, SeqAt.eqv_refl d h.lay]
  unfold fEq
  cases d <;> first | (rw [e1]; rfl) | (simp [fEqS, e1])
theorem eq_str (x : Str) : fEq (.str x) (.str x) = some (.bool true) := by
  simp [fEq, fEqS]
theorem ne_str (x : Str) : fNe (.str x) (.str x) = some (.bool false) := by
  simp [fNe, fNeS]
theorem alike_ok {L k : Nat} {d : PyData} (h : Nc L k d) (hL : L ≤ 16000000) (hk : k ≤ 60) : F__law_alike [d, d] = .ok (.bool true) := by
  have e1 := eq_same h hk
  have e2 := repr_ok h hL hk
  have s0 : ev__law_alike [some (.pd d), some (.pd d)] [] = .ok ((.rt (.pd (.bool true)), [some (.pd d), some (.pd d)]), []) := by
    unfold ev__law_alike
    simp [e1, e2, eq_str]
  exact fnP_run s0 rfl rfl
@[simp] theorem v_isi (T : String) (a : EvE) (env : Zd.Env) (μ : Store) : eIsi T a env μ = (a env μ).bind fun p => match isInst T p.1 with
  | some b => .ok (.pd (.bool b), p.2)
  | none => .stuck := rfl
theorem is_int_ok (i : Int) : F__law_is_int [.int i] = .ok (.bool true) := by
  have s0 : ev__law_is_int [some (.pd (.int i))] [] = .ok ((.rt (.pd (.bool true)), [some (.pd (.int i))]), []) := by
    unfold ev__law_is_int
    simp [isInst]
  exact fnP_run s0 rfl rfl
theorem isInst_fr (q : Rat) : isInst "tuple" (.pd (fr q)) = some true := rfl
theorem len_fr (q : Rat) : fLen [fr q] = some (.int 2) := rfl
theorem ne_nil0 : fNe (.list []) (.list []) = some (.bool false) := ne_nil []
theorem is_fraction_ok {q : Rat} (h : Sm q) : F__law_is_fraction [fr q] = .ok (.bool true) := by
  have e1 := is_int_ok q.num
  have e2 := is_int_ok (q.den : Int)
  have e3 := F_gcd_ok (small9 h.num) (small9 h.den)
  have e4 : Nat.gcd q.num.natAbs (q.den : Int).natAbs = 1 := by
    rw [Int.natAbs_natCast]
    exact q.reduced
  rw [e4] at e3
  have c1 : eLcD [1] (.nm 1) (iTp (eVar 0)) (eNotT (eTst (eCallP F__law_is_int (aCons (eVar 1) aNil)))) (eC (.int 1)) [some (.pd (fr q)), none] [] = .ok ([], []) := by
    refine lcD_eq (items := [.pd (.int q.num), .pd (.int (q.den : Int))]) (tp_ok (ds := [.int q.num, .int (q.den : Int)]) rfl) (sizeLine_ge (by show 2 ≤ 1000; decide)) ?_
    simp [compD, held_nil, bindT, wipeE, e1, e2, noL]
  have s0 : p_law_is_fraction_0 [some (.pd (fr q)), none] [] = .ok ((.nx, [some (.pd (fr q)), none]), []) := by
    simp [p_law_is_fraction_0, c1, isInst_fr, len_fr, sizeLine_ge, ne_nil0]
  have hd : (1 : Int) ≤ (q.den : Int) := by
    have := q.den_pos
    omega
  have s1 : p_law_is_fraction_1 [some (.pd (fr q)), none] [] = .ok ((.rt (.pd (.bool true)), [some (.pd (fr q)), none]), []) := by
    simp [p_law_is_fraction_1, e3, hd, noL]
  exact fnP_run ((congrFun (congrFun parts_law_is_fraction _) _).trans ((seq_nx s0).trans s1)) rfl rfl
end P55

set_option Elab.async false
set_option linter.all false
set_option maxRecDepth 100000
set_option maxHeartbeats 1000000
/-! One turn of the law. -/
namespace P55
open PySem PySem.Spec PyProof.Rows L2 Zd
theorem Sn.of {q : Rat} {N D : Nat} (h : Bd N D q) (hN : N ≤ 2 ^ 1000) (hD : D ≤ 2 ^ 1000) : Sn q :=
  ⟨Nat.lt_of_le_of_lt (Nat.le_trans h.1 hN) (Nat.pow_lt_pow_right (by decide) (by decide)), Nat.lt_of_le_of_lt (Nat.le_trans h.2 hD) (Nat.pow_lt_pow_right (by decide) (by decide))⟩
theorem p10 {N : Nat} (h : N ≤ 2 ^ 10) : N ≤ 2 ^ 1000 := Nat.le_trans h (Nat.pow_le_pow_right (by decide) (by decide))
theorem Nc.frs {ds : List PyData} {qs : List Rat} (e : ds = qs.map P55.fr) (h : ∀ q ∈ qs, Sn q) : ∀ d ∈ ds, Nc 4100 1 d := fun d hd => by
  subst e
  obtain ⟨q, hq, rfl⟩ := List.mem_map.mp hd
  exact Nc.fr (h q hq)
theorem Nc.vec {n : Nat} {g : Nat → Rat} (h : ∀ j, j < n → Sn (g j)) : ∀ d ∈ vecD n g, Nc 4100 1 d := fun d hd => by
  obtain ⟨j, hj, rfl⟩ := List.mem_map.mp hd
  exact Nc.fr (h j (by simpa using hj))
theorem Nc.tupL {L k : Nat} {ds : List PyData} (m : Nat) (h : ∀ d ∈ ds, Nc L k d) (hm : ds.length ≤ m) : Nc ((L + 2) * m + 3) (k + 1) (.tuple ds) := (Nc.tup h).mono (Nat.add_le_add_right (Nat.mul_le_mul_left _ hm) _) (Nat.le_refl _)
theorem Nc.pair {L k : Nat} {a b : PyData} (ha : Nc L k a) (hb : Nc L k b) : Nc ((L + 2) * 2 + 3) (k + 1) (.tuple [a, b]) := Nc.tup (ds := [a, b]) fun d hd => by
  simp only [List.mem_cons, List.not_mem_nil, or_false] at hd
  rcases hd with rfl | rfl
  · exact ha
  · exact hb
theorem callS_ok {G : FnS} {ea : EvA} {env : Zd.Env} {μ μ1 μ2 : Store} {ds : List D} {d : D} (ha : ea env μ = .ok (ds, μ1)) (h : G ds μ1 = .ok (d, μ2)) : eCallS G ea env μ = .ok (d, μ2) := by
  rw [v_callS, ha]
  exact h
theorem set_ok {i : Nat} {a : EvE} {env : Zd.Env} {μ μ1 : Store} {d : D} (ha : a env μ = .ok (d, μ1)) (h : i < env.length) : sSet (.nm i) a env μ = .ok ((.nx, env.set i (some d)), μ1) := by
  rw [v_set, ha]
  simp [bindT, h]
theorem isVal_map (ds : List PyData) : (ds.map D.pd).all isVal = true := by
  induction ds with
  | nil => rfl
  | cons d r ih => simp [ih]
theorem derefs_map (μ : Store) (ds : List PyData) : derefs μ (ds.map D.pd) = some ds := by
  induction ds with
  | nil => rfl
  | cons d r ih => simp [ih]
theorem callP_ok {F : FnP} {ea : EvA} {env : Zd.Env} {μ μ1 : Store} {ds : List PyData} {r : PyData} (ha : ea env μ = .ok (ds.map .pd, μ1)) (h : F ds = .ok r) : eCallP F ea env μ = .ok (.pd r, μ1) := by
  rw [v_callP, ha]
  simp only [Out.ok_bind, derefs_map, h, isVal_map, Bool.true_or, if_true]
theorem call1 {F : FnP} {i : Nat} {env : Zd.Env} {μ : Store} {d r : PyData} (h : F [d] = .ok r) (he : env[i]? = some (some (.pd d))) : eCallP F (aCons (eVar i) aNil) env μ = .ok (.pd r, μ) := callP_ok (ds := [d]) (by simp [he]) h
theorem call2 {F : FnP} {i j : Nat} {env : Zd.Env} {μ : Store} {d e r : PyData} (h : F [d, e] = .ok r) (he : env[i]? = some (some (.pd d))) (hf : env[j]? = some (some (.pd e))) : eCallP F (aCons (eVar i) (aCons (eVar j) aNil)) env μ = .ok (.pd r, μ) := callP_ok (ds := [d, e]) (by simp [he, hf]) h
theorem call3 {F : FnP} {i j k : Nat} {env : Zd.Env} {μ : Store} {d e g r : PyData} (h : F [d, e, g] = .ok r) (he : env[i]? = some (some (.pd d))) (hf : env[j]? = some (some (.pd e))) (hg : env[k]? = some (some (.pd g))) : eCallP F (aCons (eVar i) (aCons (eVar j) (aCons (eVar k) aNil))) env μ = .ok (.pd r, μ) := callP_ok (ds := [d, e, g]) (by simp [he, hf, hg]) h
theorem call2e {F : FnP} {a b : EvE} {env : Zd.Env} {μ : Store} {d e r : PyData} (ha : a env μ = .ok (.pd d, μ)) (hb : b env μ = .ok (.pd e, μ)) (h : F [d, e] = .ok r) : eCallP F (aCons a (aCons b aNil)) env μ = .ok (.pd r, μ) := callP_ok (ds := [d, e]) (by simp [ha, hb]) h
theorem tst_ok {a : EvE} {env : Zd.Env} {μ μ1 : Store} {b : Bool} (h : a env μ = .ok (.pd (.bool b), μ1)) : eTst a env μ = .ok (b, μ1) := by
  rw [v_tst, h]
  rfl
theorem if_f {c : EvT} {a b : EvS} {env : Zd.Env} {μ μ1 : Store} {o : Out ((Fl × Zd.Env) × Store)} (h : c env μ = .ok (false, μ1)) (hb : b env μ1 = o) : sIf c a b env μ = o := by
  rw [v_sif, h]
  exact hb
theorem if_t {c : EvT} {a b : EvS} {env : Zd.Env} {μ μ1 : Store} {o : Out ((Fl × Zd.Env) × Store)} (h : c env μ = .ok (true, μ1)) (hb : a env μ1 = o) : sIf c a b env μ = o := by
  rw [v_sif, h]
  exact hb
theorem orT_f {a b : EvT} {env : Zd.Env} {μ μ1 : Store} {o : Out (Bool × Store)} (h : a env μ = .ok (false, μ1)) (hb : b env μ1 = o) : eOrT a b env μ = o := by
  rw [v_orT, h]
  exact hb
theorem andT_t {a b : EvT} {env : Zd.Env} {μ μ1 : Store} {o : Out (Bool × Store)} (h : a env μ = .ok (true, μ1)) (hb : b env μ1 = o) : eAndT a b env μ = o := by
  rw [v_andT, h]
  exact hb
theorem andT_f {a b : EvT} {env : Zd.Env} {μ μ1 : Store} (h : a env μ = .ok (false, μ1)) : eAndT a b env μ = .ok (false, μ1) := by
  rw [v_andT, h]
  rfl
theorem not_ok {a : EvT} {env : Zd.Env} {μ μ1 : Store} {b : Bool} (h : a env μ = .ok (b, μ1)) : eNotT a env μ = .ok (!b, μ1) := by
  rw [v_notT, h]
  rfl
theorem op2_ok {f : F2} {a b : EvE} {env : Zd.Env} {μ μ1 μ2 : Store} {x y z : PyData} (ha : a env μ = .ok (.pd x, μ1)) (hb : b env μ1 = .ok (.pd y, μ2)) (h : f x y = some z) : eOp2 f a b env μ = .ok (.pd z, μ2) := by
  rw [v_op2, ha, Out.ok_bind, hb]
  simp [h]
theorem var_ok {i : Nat} {env : Zd.Env} {μ : Store} {d : D} (h : env[i]? = some (some d)) : eVar i env μ = .ok (d, μ) := v_var i h
theorem lit_ok {d : PyData} {env : Zd.Env} {μ : Store} : eC d env μ = .ok (.pd d, μ) := rfl
theorem ix_ok {a b : EvE} {env : Zd.Env} {μ μ1 μ2 : Store} {d z : PyData} {i : Int} (ha : a env μ = .ok (.pd d, μ1)) (hb : b env μ1 = .ok (.pd (.int i), μ2)) (h : fIx d (.int i) = some z) : eIx a b env μ = .ok (.pd z, μ2) := by
  rw [v_ix, ha, Out.ok_bind, hb]
  simp [h]
theorem isN_ok {a : EvE} {env : Zd.Env} {μ μ1 : Store} {d : PyData} (h : a env μ = .ok (.pd d, μ1)) : eIsN a env μ = .ok (.pd (.bool (isNoneB d)), μ1) := by
  rw [v_isN, h]
  rfl
theorem notN_ok {a : EvE} {env : Zd.Env} {μ μ1 : Store} {d : PyData} (h : a env μ = .ok (.pd d, μ1)) : eNotN a env μ = .ok (.pd (.bool (!isNoneB d)), μ1) := by
  rw [v_notN, h]
  rfl
section
variable {n t : Nat} {told : Nat → Rat} {f : Nat → Nat → Rat} {p : Nat → Rat} {x : Nat → Rat}
theorem bk_nc (E : Ebd n f p) (ht : ∀ i, Told (told i)) : Nc 500000 10 (bk n told f) := by
  have n5 := E.n5
  have row : ∀ i, i < n → Nc 25000 2 (rowD n f i) := fun i hi => ((Nc.vec (n := n) (g := f i) fun j hj => Sn.of (E.fb i j hi hj) (p10 (by decide)) (p10 (by decide))) |> fun h => Nc.tupL 5 h (by simp; exact n5)).mono (by decide) (by decide)
  have cell : ∀ i, i < n → Nc 60000 4 (cellB n told f i) := fun i hi => by
    have h1 : Nc 25000 2 (fr (told i)) := (Nc.fr (Sn.of (ht i) (p10 (by decide)) (p10 (by decide)))).mono (by decide) (by decide)
    exact (Nc.tup (ds := [.tuple [fr (told i), rowD n f i]]) (L := 50007) (k := 3) fun d hd => by
      simp only [List.mem_cons, List.not_mem_nil, or_false] at hd
      subst hd
      exact Nc.pair h1 (row i hi)).mono (by show 50009 * 1 + 3 ≤ 60000; decide) (by decide)
  rw [bk_cells]
  refine (Nc.tupL (ds := (List.range n).map (cellB n told f)) (L := 60000) (k := 4) 5 (fun d hd => ?_) (by simp; exact n5)).mono (by decide) (by decide)
  obtain ⟨i, hi, rfl⟩ := List.mem_map.mp hd
  exact cell i (by simpa using hi)
theorem sqs_nc (E : Ebd n f p) (h : AllPos n (mat f n)) : Nc 500000 10 (.tuple ((List.range n).map (sqI n (mat f n)))) := by
  have n5 := E.n5
  have M := E.mx
  have up : ∀ k, k ≤ 1000 → 2 ^ k ≤ 2 ^ 1000 := fun k hk => Nat.pow_le_pow_right (by decide) hk
  have item : ∀ t, t < n → Nc 60000 4 (sqI n (mat f n) t) := fun t ht => by
    have hp : ∀ s, s < t → 0 < el (mat f n) s s s := fun s hs => h s (by omega)
    have P := M.piv ht hp (b := el (mat f n) t) fun _ _ _ _ _ _ => rfl
    have h1 : Nc 25000 2 (fr (el (mat f n) t t t)) := (Nc.fr (Sn.of (M.pv ht hp ht ht) (up _ (by decide)) (up _ (by decide)))).mono (by decide) (by decide)
    have h2 : Nc 25000 2 (.tuple (shE n (mat f n) t)) := (Nc.tupL (ds := shE n (mat f n) t) (L := 4100) (k := 1) 5 (fun d hd => by
      obtain ⟨k, hk, rfl⟩ := List.mem_map.mp hd
      have hk' : k < n - (t + 1) := by simpa using hk
      exact Nc.fr (Sn.of (P.share (by have := h t ht; grind) (show t + 1 + k < n by omega) (by omega)) (up _ (by decide)) (up _ (by decide)))) (by simp [shE]; omega)).mono (by decide) (by decide)
    exact (Nc.pair h1 h2).mono (by decide) (by decide)
  refine (Nc.tupL (L := 60000) (k := 4) 5 (fun d hd => ?_) (by simp; exact n5)).mono (by decide) (by decide)
  obtain ⟨i, hi, rfl⟩ := List.mem_map.mp hd
  exact item i (by simpa using hi)
theorem lo_bd (E : Ebd n f p) (S : Stops n (mat f n) t) : ∃ D, 0 < D ∧ D ≤ 2 ^ 920 ∧ ∀ j, Fx D (2 ^ 932) (lo n (mat f n) t t j) := by
  have n5 := E.n5
  have tn := S.lt
  obtain ⟨D, d1, d2, d3⟩ := lo_fx E.mx S.lt S.before t (Nat.le_refl _)
  exact ⟨D, d1, Nat.le_trans d2 (Nat.pow_le_pow_right (by decide) (by omega)), fun j => (d3 j).mono (Nat.pow_le_pow_right (by decide) (by omega))⟩
theorem lo_nc (E : Ebd n f p) (S : Stops n (mat f n) t) : Nc 500000 10 (.tuple (vecD n (lo n (mat f n) t t))) := by
  have n5 := E.n5
  obtain ⟨D, d1, d2, d3⟩ := lo_bd E S
  exact (Nc.tupL (L := 4100) (k := 1) 5 (Nc.vec fun j hj => Sn.of ((d3 j).bd d1) (Nat.pow_le_pow_right (by decide) (by decide)) (Nat.le_trans d2 (Nat.pow_le_pow_right (by decide) (by decide)))) (by simp; exact n5)).mono (by decide) (by decide)
theorem vals_vec {vs : List Rat} (h : vs.length = n) : vs.map fr = vecD n (fun j => vs.getD j 0) := by
  apply List.ext_getElem
  · simp [h]
  · intro i h1 h2
    simp at h1
    simp [vecD, h1]
theorem neB (a b : Bool) : fNe (.bool a) (.bool b) = some (.bool (a != b)) := by
  cases a <;> cases b <;> rfl
theorem eq_nil_ne {L k : Nat} {d : PyData} {r : List PyData} (h : ∀ e ∈ d :: r, Nc L k e) (hk : k ≤ 59) : fEq (.list (d :: r)) (.list []) = some (.bool false) := by
  have c := Nc.lst h
  have hs : SeqAt.shaped (.list (d :: r)) = true := by
    unfold SeqAt.shaped
    have := c.dp
    rw [c.lay, decide_eq_true (by omega)]
    rfl
  have hs2 : SeqAt.shaped (.list []) = true := rfl
  have e1 : fEqD (.list (d :: r)) (.list []) = some (.bool false) := by
    unfold fEqD
    rw [if_pos ⟨hs, hs2⟩]
    rfl
  have e0 : fEqS (.list (d :: r)) (.list []) = none := rfl
  unfold fEq
  rw [e0, e1]
  rfl
/-- the turn's env, by its places -/
abbrev V (ns : List Int) (e2 e3 e4 e5 e6 e7 e8 : Option D) : Zd.Env := [some (.scr ns), some (.ref 0), e2, e3, e4, e5, e6, e7, e8, none]
theorem turn_head (E : Ebd n f p) (ht : ∀ i, Told (told i)) {ns : List Int} {e2 : Option D} {μ : Store} :
    p_law_1_b_1 (V ns e2 (some (.pd (bk n told f))) none none none none none) μ = .ok ((.nx, V ns e2 (some (.pd (bk n told f))) (some (.pd (scD n f))) (some (.pd (.str (bk n told f).shown))) none none none), μ) := by
  have e1 : F__law_scales [bk n told f] = .ok (scD n f) := law_scales_ok E.toEbk
  have e2 := repr_ok (bk_nc E ht) (by decide) (by decide)
  simp [p_law_1_b_1, e1, e2, bindT, bindTs, noL, scD]
theorem turn_end (E : Ebd n f p) (ht : ∀ i, Told (told i)) {ns : List Int} {e2 e4 e6 e7 e8 : Option D} {μ : Store} :
    p_law_1_b_8 (V ns e2 (some (.pd (bk n told f))) e4 (some (.pd (.str (bk n told f).shown))) e6 e7 e8) μ = .ok ((.nx, V ns e2 (some (.pd (bk n told f))) e4 (some (.pd (.str (bk n told f).shown))) e6 e7 e8), μ) := by
  have e1 := repr_ok (bk_nc E ht) (by decide) (by decide)
  generalize (bk n told f).shown = s at *
  generalize bk n told f = b at *
  simp [p_law_1_b_8, p_law_1_b_8t, e1, ne_str]
theorem turn_vals (E : Ebd n f p) {k : Nat} {c : Cell} (hb : Bg k c) (hk : k ≤ 99900) {ns : List Int} {e2 e4 e5 e6 e7 : Option D} :
    ∃ c' x, p_law_1_b_6 (V ns e2 (some (.pd (bk n told f))) e4 e5 e6 e7 none) [c] = .ok ((.nx, V ns e2 (some (.pd (bk n told f))) e4 e5 e6 e7 (some (.pd (.tuple (vecD n x))))), [c']) ∧ Bg (k + 5) c' ∧ ∀ i, i < n → Fx 2 10 (x i) := by
  obtain ⟨c', vs, h1, h2, h3, h4⟩ := vals_ok (n := n) (r := []) hb NL.nil hk E.n5
  refine ⟨c', fun j => vs.getD j 0, ?_, h2, fun i hi => ?_⟩
  · rw [vals_vec h3] at h1
    refine set_ok (callS_ok ?_ h1) (by decide : 8 < 10)
    simp
  · show Fx 2 10 (vs.getD i 0)
    rw [List.getD_eq_getElem?_getD, List.getElem?_eq_getElem (by omega)]
    exact (h4 _ (List.getElem_mem _)).fx
theorem form_sn (E : Ebd n f p) (hx : ∀ i, i < n → Fx 2 10 (x i)) : Sn (form n (mat f n) x) :=
  Sn.of ((form_fx E hx).bd (by decide)) (Nat.pow_le_pow_right (by decide) (by decide)) (Nat.le_trans (by decide : 864 * (2 * 2) ≤ 2 ^ 20) (Nat.pow_le_pow_right (by decide) (by decide)))
theorem turn_pos (E : Ebd n f p) (ht : ∀ i, Told (told i)) (h : AllPos n (mat f n)) {k : Nat} {c : Cell} (hb : Bg k c) (hk : k ≤ 99900) {ns : List Int} {e2 : Option D} :
    ∃ c' env', sCons p_law_1_b_1 (sCons p_law_1_b_2 (sCons p_law_1_b_3 (sCons p_law_1_b_4 (sCons p_law_1_b_5 (sCons p_law_1_b_6 (sCons p_law_1_b_7 p_law_1_b_8)))))) (V ns e2 (some (.pd (bk n told f))) none none none none none) [c] = .ok ((.nx, V ns e2 (some (.pd (bk n told f))) (some (.pd (scD n f))) (some (.pd (.str (bk n told f).shown))) (some (.pd (.tuple ((List.range n).map (sqI n (mat f n)))))) (some (.pd .none)) env'), [c']) ∧ Bg (k + 5) c' := by
  obtain ⟨c', x, v1, v2, v3⟩ := turn_vals (told := told) E hb hk (ns := ns) (e2 := e2) (e4 := some (.pd (scD n f))) (e5 := some (.pd (.str (bk n told f).shown))) (e6 := some (.pd (.tuple ((List.range n).map (sqI n (mat f n)))))) (e7 := some (.pd .none))
  refine ⟨c', some (.pd (.tuple (vecD n x))), ?_, v2⟩
  have a2 := law_squares_pos (told := told) E h
  have a3 := low_none (told := told) E h
  have a4 := squares_of_pos (told := told) E h
  have k1 := alike_ok (sqs_nc E h) (by decide) (by decide)
  have k2 := alike_ok Nc.none (by decide) (by decide)
  have k3 := alike_ok (Nc.fr (form_sn E v3)) (by decide) (by decide)
  have en := energy_ok (told := told) E v3
  have bs := by_squares_ok E h v3
  refine (seq_nx (turn_head E ht)).trans ?_
  refine (seq_nx (set_ok (call2 a2 rfl rfl) (by decide : 6 < 10))).trans ?_
  refine (seq_nx (set_ok (call1 a3 rfl) (by decide : 7 < 10))).trans ?_
  refine (seq_nx (if_f (orT_f (not_ok (tst_ok (call2e (call1 a4 rfl) (var_ok rfl) k1))) (orT_f (tst_ok (op2_ok (isN_ok (var_ok rfl)) (notN_ok (var_ok rfl)) (neB _ _))) (not_ok (tst_ok (call2e (call1 a3 rfl) (var_ok rfl) k2))))) rfl)).trans ?_
  refine (seq_nx (if_f (tst_ok (b := false) (notN_ok (d := .none) (var_ok rfl))) rfl)).trans ?_
  refine (seq_nx v1).trans ?_
  refine (seq_nx (if_f (andT_t (tst_ok (b := true) (notN_ok (d := .tuple ((List.range n).map (sqI n (mat f n)))) (var_ok rfl))) (not_ok (tst_ok (call2e (call2 en rfl rfl) (call2 bs rfl rfl) k3)))) rfl)).trans ?_
  exact turn_end E ht
theorem num_ne0 {q : Rat} (h : q = 1) : q.num ≠ 0 := by
  subst h
  decide
theorem turn_low (E : Ebd n f p) (S : Stops n (mat f n) t) {ns : List Int} {e2 e5 e6 : Option D} {μ : Store} :
    p_law_1_b_5 (V ns e2 (some (.pd (bk n told f))) (some (.pd (scD n f))) e5 e6 (some (.pd (.tuple (vecD n (lo n (mat f n) t t))))) none) μ = .ok ((.nx, V ns e2 (some (.pd (bk n told f))) (some (.pd (scD n f))) e5 e6 (some (.pd (.tuple (vecD n (lo n (mat f n) t t))))) none), μ) := by
  have n5 := E.n5
  have tn := S.lt
  obtain ⟨D', d1, d2, d3⟩ := lo_bd E S
  have up : ∀ k, k ≤ 3000 → 2 ^ k ≤ 2 ^ 3000 := fun k hk => Nat.pow_le_pow_right (by decide) hk
  have sx : ∀ j, Sm (lo n (mat f n) t t j) := fun j => fx_sm (d3 j) d1 (Nat.le_trans d2 (up _ (by decide))) (up _ (by decide))
  have en := law_energy_ok (told := told) E (x := lo n (mat f n) t t) (fun i _ => d3 i) d1 (Nat.le_trans d2 (Nat.pow_le_pow_right (by decide) (by decide))) (Nat.pow_le_pow_right (by decide) (by decide))
  rw [lo_form (fun i j hi hj => E.mat_sym hi hj) S] at en
  have it := tp_ok (a := eVar 7) (env := V ns e2 (some (.pd (bk n told f))) (some (.pd (scD n f))) e5 e6 (some (.pd (.tuple (vecD n (lo n (mat f n) t t))))) none) (μ := μ) (μ1 := μ) (ds := vecD n (lo n (mat f n) t t)) (by simp)
  have hv : (vecD n (lo n (mat f n) t t)).map D.pd = (List.range n).map (D.pd ∘ fun j => fr (lo n (mat f n) t t j)) := by
    unfold vecD
    rw [List.map_map]
  rw [hv] at it
  have c1 := comp_filA (g := []) (T := .nm 9) (μ := μ) (tst := eNotT (eTst (eCallP F__law_is_fraction (aCons (eVar 9) aNil)))) (elt := eVar 9)
    (env := wipeE (V ns e2 (some (.pd (bk n told f))) (some (.pd (scD n f))) e5 e6 (some (.pd (.tuple (vecD n (lo n (mat f n) t t))))) none) [9]) held_nil (D.pd ∘ fun j => fr (lo n (mat f n) t t j)) (fun _ => D.pd .none) (fun _ => false) (List.range n) (fun k hk => by
      exact ⟨V ns e2 (some (.pd (bk n told f))) (some (.pd (scD n f))) e5 e6 (some (.pd (.tuple (vecD n (lo n (mat f n) t t))))) none |>.set 9 (some (.pd (fr (lo n (mat f n) t t k)))), by simp [bindT, wipeE], by simp [is_fraction_ok (sx k)], fun z => by cases z⟩)
  have l1 := lcD_eq (vs := [9]) it (by rw [List.length_map, List.length_range]; exact sizeLine_ge (by omega)) c1
  rw [show (List.range n).filter (fun _ => false) = [] by simp, List.map_nil] at l1
  have c2 := comp_filA (g := []) (T := .nm 9) (μ := μ) (tst := eTst (eOp2 fNe (eIx (eVar 9) (eC (.int 0))) (eC (.int 0)))) (elt := eVar 9)
    (env := wipeE (V ns e2 (some (.pd (bk n told f))) (some (.pd (scD n f))) e5 e6 (some (.pd (.tuple (vecD n (lo n (mat f n) t t))))) none) [9]) held_nil (D.pd ∘ fun j => fr (lo n (mat f n) t t j)) (fun j => D.pd (fr (lo n (mat f n) t t j))) (fun j => !decide (lo n (mat f n) t t j = 0)) (List.range n) (fun k hk => by
      exact ⟨V ns e2 (some (.pd (bk n told f))) (some (.pd (scD n f))) e5 e6 (some (.pd (.tuple (vecD n (lo n (mat f n) t t))))) none |>.set 9 (some (.pd (fr (lo n (mat f n) t t k)))), by simp [bindT, wipeE], by simp, fun _ => by simp⟩)
  have l2 := lcD_eq (vs := [9]) it (by rw [List.length_map, List.length_range]; exact sizeLine_ge (by omega)) c2
  obtain ⟨d, r, hdr⟩ : ∃ d r, ((List.range n).filter fun j => !decide (lo n (mat f n) t t j = 0)) = d :: r := by
    cases hh : ((List.range n).filter fun j => !decide (lo n (mat f n) t t j = 0)) with
    | nil =>
      have : t ∈ ((List.range n).filter fun j => !decide (lo n (mat f n) t t j = 0)) := by
        simp only [List.mem_filter, List.mem_range]
        exact ⟨tn, by simpa using (show lo n (mat f n) t t t ≠ 0 by rw [lo_t]; decide)⟩
      rw [hh] at this
      cases this
    | cons d r => exact ⟨d, r, rfl⟩
  rw [hdr, List.map_cons] at l2
  have ne : fEq (.list (fr (lo n (mat f n) t t d) :: r.map fun j => fr (lo n (mat f n) t t j))) (.list []) = some (.bool false) := eq_nil_ne (L := 4100) (k := 1) (fun e he => by
    have : ∃ j, e = fr (lo n (mat f n) t t j) := by
      rcases List.mem_cons.mp he with rfl | he
      · exact ⟨_, rfl⟩
      · obtain ⟨j, _, rfl⟩ := List.mem_map.mp he
        exact ⟨_, rfl⟩
    obtain ⟨j, rfl⟩ := this
    exact Nc.fr (Sn.of ((d3 j).bd d1) (Nat.pow_le_pow_right (by decide) (by decide)) (Nat.le_trans d2 (Nat.pow_le_pow_right (by decide) (by decide))))) (by decide)
  have b0 : p_law_1_b_5t_0 (V ns e2 (some (.pd (bk n told f))) (some (.pd (scD n f))) e5 e6 (some (.pd (.tuple (vecD n (lo n (mat f n) t t))))) none) μ = .ok ((.nx, V ns e2 (some (.pd (bk n told f))) (some (.pd (scD n f))) e5 e6 (some (.pd (.tuple (vecD n (lo n (mat f n) t t))))) none), μ) := by
    simp [p_law_1_b_5t_0, p_law_1_b_5t_0t, isInst, l1, l2, ne_nil0, ne, sizeLine_ge]
  have b1 : p_law_1_b_5t_1 (V ns e2 (some (.pd (bk n told f))) (some (.pd (scD n f))) e5 e6 (some (.pd (.tuple (vecD n (lo n (mat f n) t t))))) none) μ = .ok ((.nx, V ns e2 (some (.pd (bk n told f))) (some (.pd (scD n f))) e5 e6 (some (.pd (.tuple (vecD n (lo n (mat f n) t t))))) none), μ) := by
    have := num_le S.here
    have h2 : ¬ 0 < (el (mat f n) t t t).num := by omega
    simp [p_law_1_b_5t_1, p_law_1_b_5t_1t, en, h2]
  have b : sCons p_law_1_b_5t_0 p_law_1_b_5t_1 (V ns e2 (some (.pd (bk n told f))) (some (.pd (scD n f))) e5 e6 (some (.pd (.tuple (vecD n (lo n (mat f n) t t))))) none) μ = .ok ((.nx, V ns e2 (some (.pd (bk n told f))) (some (.pd (scD n f))) e5 e6 (some (.pd (.tuple (vecD n (lo n (mat f n) t t))))) none), μ) := (seq_nx b0).trans b1
  unfold p_law_1_b_5
  rw [v_sif]
  simp [isNoneB]
  simpa using b
theorem turn_stop (E : Ebd n f p) (ht : ∀ i, Told (told i)) (S : Stops n (mat f n) t) {k : Nat} {c : Cell} (hb : Bg k c) (hk : k ≤ 99900) {ns : List Int} {e2 : Option D} :
    ∃ c' env', sCons p_law_1_b_1 (sCons p_law_1_b_2 (sCons p_law_1_b_3 (sCons p_law_1_b_4 (sCons p_law_1_b_5 (sCons p_law_1_b_6 (sCons p_law_1_b_7 p_law_1_b_8)))))) (V ns e2 (some (.pd (bk n told f))) none none none none none) [c] = .ok ((.nx, V ns e2 (some (.pd (bk n told f))) (some (.pd (scD n f))) (some (.pd (.str (bk n told f).shown))) (some (.pd .none)) (some (.pd (.tuple (vecD n (lo n (mat f n) t t))))) env'), [c']) ∧ Bg (k + 5) c' := by
  obtain ⟨c', x, v1, v2, v3⟩ := turn_vals (told := told) E hb hk (ns := ns) (e2 := e2) (e4 := some (.pd (scD n f))) (e5 := some (.pd (.str (bk n told f).shown))) (e6 := some (.pd .none)) (e7 := some (.pd (.tuple (vecD n (lo n (mat f n) t t)))))
  refine ⟨c', some (.pd (.tuple (vecD n x))), ?_, v2⟩
  have a2 := law_squares_stop (told := told) E S
  have a3 := low_ok (told := told) E S
  have a4 := squares_of_stop (told := told) E S
  have k1 := alike_ok (lo_nc E S) (by decide) (by decide)
  have k2 := alike_ok Nc.none (by decide) (by decide)
  refine (seq_nx (turn_head E ht)).trans ?_
  refine (seq_nx (set_ok (call2 a2 rfl rfl) (by decide : 6 < 10))).trans ?_
  refine (seq_nx (set_ok (call1 a3 rfl) (by decide : 7 < 10))).trans ?_
  refine (seq_nx (if_f (orT_f (not_ok (tst_ok (call2e (call1 a4 rfl) (var_ok rfl) k2))) (orT_f (tst_ok (op2_ok (isN_ok (var_ok rfl)) (notN_ok (var_ok rfl)) (neB _ _))) (not_ok (tst_ok (call2e (call1 a3 rfl) (var_ok rfl) k1))))) rfl)).trans ?_
  refine (seq_nx (turn_low E S)).trans ?_
  refine (seq_nx v1).trans ?_
  refine (seq_nx (if_f (andT_f (tst_ok (b := false) (notN_ok (d := .none) (var_ok rfl)))) rfl)).trans ?_
  exact turn_end E ht
end
/-- one turn -/
theorem turn_ok {j : Nat} (hj : j < 6) {k : Nat} {c : Cell} (hb : Bg k c) (hk : k ≤ 50000) {ns : List Int} :
    ∃ c', p_law_1_b (V ns (some (.pd (.int (j : Int)))) none none none none none none) [c] = .ok ((.nx, V ns none none none none none none none), [c']) ∧ Bg (k + 105) c' := by
  have hd : ∃ c1 n told f, p_law_1_b_0 (V ns (some (.pd (.int (j : Int)))) none none none none none none) [c] = .ok ((.nx, V ns (some (.pd (.int (j : Int)))) (some (.pd (bk n told f))) none none none none none), [c1]) ∧ Bg (k + 100) c1 ∧ Even n f ∧ ∀ i, Told (told i) := by
    by_cases h5 : j < 5
    · obtain ⟨c1, n, told, f, x, h1, h2, h3, h4⟩ := even_ok (r := []) hb NL.nil (by omega)
      refine ⟨c1, n, told, f, ?_, h2, h3, h4⟩
      have : (j : Int) < 5 := by omega
      simp [p_law_1_b_0, this, h1, bindT]
    · obtain ⟨c1, n, told, f, h1, h2, h3, h4⟩ := just_ok (r := []) hb NL.nil (by omega)
      refine ⟨c1, n, told, f, ?_, h2, h3, h4⟩
      have : ¬ (j : Int) < 5 := by omega
      simp [p_law_1_b_0, this, h1, bindT]
  obtain ⟨c1, n, told, f, h1, h2, h3, h4⟩ := hd
  obtain ⟨p, E⟩ := h3.ebd
  rcases pos_or n (mat f n) with hp | ⟨t, S⟩
  · obtain ⟨c', env', q1, q2⟩ := turn_pos E h4 hp h2 (by omega) (ns := ns) (e2 := some (.pd (.int (j : Int))))
    refine ⟨c', ?_, q2.mono (by omega)⟩
    unfold p_law_1_b
    rw [v_forget, seq_nx h1, q1]
    rfl
  · obtain ⟨c', env', q1, q2⟩ := turn_stop E h4 S h2 (by omega) (ns := ns) (e2 := some (.pd (.int (j : Int))))
    refine ⟨c', ?_, q2.mono (by omega)⟩
    unfold p_law_1_b
    rw [v_forget, seq_nx h1, q1]
    rfl
theorem law_true (ns : List Int) (h : ns.length ≤ 63) : ∃ μ, F_law [.scr ns] [] = .ok (.pd (.bool true), μ) := by
  obtain ⟨c, b1, b2⟩ := bag_ok h
  have s0 : p_law_0 [some (.scr ns), none, none, none, none, none, none, none, none, none] [] = .ok ((.nx, V ns none none none none none none none), [c]) := by
    simp [p_law_0, b1, bindT]
  obtain ⟨env', μ', q1, q2, c', q3, q4⟩ := for_rel (T := .nm 2) (b := p_law_1_b) (ei := iRg1 (eC (.int 6))) (env := V ns none none none none none none none) (μ := [c]) (fun j env μ => env = V ns none none none none none none none ∧ ∃ c, μ = [c] ∧ Bg (105 * j) c) (rg1_ok (n := 6) rfl (by decide)) ⟨rfl, c, rfl, b2⟩ (fun _ _ _ _ => held_nil) (fun j d env μ hd hP => by
    obtain ⟨rfl, c, rfl, hc⟩ := hP
    obtain ⟨hj, rfl⟩ := range_item hd
    obtain ⟨c', q1, q2⟩ := turn_ok hj hc (by omega) (ns := ns)
    exact ⟨_, _, _, by simp [bindT], .inl q1, rfl, c', rfl, by rw [Nat.mul_succ]; exact q2⟩)
  subst q2
  refine ⟨μ', fnL_run (n := 1) ((congrFun (congrFun parts_law _) _).trans ((seq_nx s0).trans ((seq_nx q1).trans (by simp [p_law_2]; rfl)))) rfl⟩
end P55

set_option Elab.async false
set_option maxRecDepth 100000
open PySem PySem.W PyProof.Rows
set_option maxHeartbeats 0 in
theorem PySem.Challenge.cw_onelate_k55_squares_or_low_values_holds : PySem.Challenge.rw_onelate_k55_squares_or_low_values.Holds := by
  w_on; o_law; k_head; (case hw => w_witness2)
  k_fill
  refine Zd.walk_val (l := PySem.Challenge.rw_onelate_k55_squares_or_low_values) (n := 63) (k := 8) (x := "_law_script") (G := P55.F_law) rfl (by decide) rfl ⟨⟨rfl, by decide, by decide⟩, rfl⟩ (fun w h Y => PySem.W.kIn_of Y) ?F (fun ns h1 _ => P55.law_true ns h1)
  case F =>
    intro w mg fa h KX G hmg
    refine' P55.all_mk KX G hmg ?a0 ?l0 ?c0 ?k0 ?a1 ?l1 ?c1 ?k1 ?a2 ?l2 ?c2 ?k2 ?a3 ?l3 ?c3 ?k3 ?a4 ?l4 ?c4 ?k4 ?a5 ?l5 ?c5 ?k5 ?a6 ?l6 ?c6 ?k6 ?a7 ?l7 ?c7 ?k7 ?a8 ?l8 ?c8 ?k8 ?a9 ?l9 ?c9 ?k9 ?a10 ?l10 ?c10 ?k10 ?a11 ?l11 ?c11 ?k11 ?a12 ?l12 ?c12 ?k12 ?a13 ?l13 ?c13 ?k13 ?a14 ?l14 ?c14 ?k14 ?a15 ?l15 ?c15 ?k15 ?a16 ?l16 ?c16 ?k16 ?a17 ?l17 ?c17 ?k17 ?a18 ?l18 ?c18 ?k18 ?a19 ?l19 ?c19 ?k19 ?a20 ?l20 ?c20 ?k20 ?a21 ?l21 ?c21 ?k21 ?a22 ?l22 ?c22 ?k22 ?a23 ?l23 ?c23 ?k23 ?a24 ?l24 ?c24 ?k24 ?a25 ?l25 ?c25 ?k25 ?a26 ?l26 ?c26 ?k26 ?a27 ?l27 ?c27 ?k27 ?a28 ?l28 ?c28 ?k28 ?a29 ?l29 ?c29 ?k29 ?a30 ?l30 ?c30 ?k30 ?a31 ?l31 ?c31 ?k31 ?a32 ?l32 ?c32 ?k32 ?a33 ?l33 ?c33 ?k33 ?a34 ?l34 ?c34 ?k34 ?a35 ?l35 ?c35 ?k35 ?a36 ?l36 ?c36 ?k36 ?a37 ?l37 ?c37 ?k37 ?zcONE ?zlONE ?ziONE ?zcZERO ?zlZERO ?ziZERO ?zg ?zabs ?zany ?zbool ?zenumerate ?zint ?zisinstance ?zlen ?zlist ?zrange ?zrepr ?ztuple ?zzip
    (case a0 => k_is)
    (case l0 => k_is)
    (case c0 => k_is)
    (case k0 => k_is)
    (case a1 => k_is)
    (case l1 => k_is)
    (case c1 => k_is)
    (case k1 => k_is)
    (case a2 => k_is)
    (case l2 => k_is)
    (case c2 => k_is)
    (case k2 => k_is)
    (case a3 => k_is)
    (case l3 => k_is)
    (case c3 => k_is)
    (case k3 => k_is)
    (case a4 => k_is)
    (case l4 => k_is)
    (case c4 => k_is)
    (case k4 => k_is)
    (case a5 => k_is)
    (case l5 => k_is)
    (case c5 => k_is)
    (case k5 => k_is)
    (case a6 => k_is)
    (case l6 => k_is)
    (case c6 => k_is)
    (case k6 => k_is)
    (case a7 => k_is)
    (case l7 => k_is)
    (case c7 => k_is)
    (case k7 => k_is)
    (case a8 => k_is)
    (case l8 => k_is)
    (case c8 => k_is)
    (case k8 => k_is)
    (case a9 => k_is)
    (case l9 => k_is)
    (case c9 => k_is)
    (case k9 => k_is)
    (case a10 => k_is)
    (case l10 => k_is)
    (case c10 => k_is)
    (case k10 => k_is)
    (case a11 => k_is)
    (case l11 => k_is)
    (case c11 => k_is)
    (case k11 => k_is)
    (case a12 => k_is)
    (case l12 => k_is)
    (case c12 => k_is)
    (case k12 => k_is)
    (case a13 => k_is)
    (case l13 => k_is)
    (case c13 => k_is)
    (case k13 => k_is)
    (case a14 => k_is)
    (case l14 => k_is)
    (case c14 => k_is)
    (case k14 => k_is)
    (case a15 => k_is)
    (case l15 => k_is)
    (case c15 => k_is)
    (case k15 => k_is)
    (case a16 => k_is)
    (case l16 => k_is)
    (case c16 => k_is)
    (case k16 => k_is)
    (case a17 => k_is)
    (case l17 => k_is)
    (case c17 => k_is)
    (case k17 => k_is)
    (case a18 => k_is)
    (case l18 => k_is)
    (case c18 => k_is)
    (case k18 => k_is)
    (case a19 => k_is)
    (case l19 => k_is)
    (case c19 => k_is)
    (case k19 => k_is)
    (case a20 => k_is)
    (case l20 => k_is)
    (case c20 => k_is)
    (case k20 => k_is)
    (case a21 => k_is)
    (case l21 => k_is)
    (case c21 => k_is)
    (case k21 => k_is)
    (case a22 => k_is)
    (case l22 => k_is)
    (case c22 => k_is)
    (case k22 => k_is)
    (case a23 => k_is)
    (case l23 => k_is)
    (case c23 => k_is)
    (case k23 => k_is)
    (case a24 => k_is)
    (case l24 => k_is)
    (case c24 => k_is)
    (case k24 => k_is)
    (case a25 => k_is)
    (case l25 => k_is)
    (case c25 => k_is)
    (case k25 => k_is)
    (case a26 => k_is)
    (case l26 => k_is)
    (case c26 => k_is)
    (case k26 => k_is)
    (case a27 => k_is)
    (case l27 => k_is)
    (case c27 => k_is)
    (case k27 => k_is)
    (case a28 => k_is)
    (case l28 => k_is)
    (case c28 => k_is)
    (case k28 => k_is)
    (case a29 => k_is)
    (case l29 => k_is)
    (case c29 => k_is)
    (case k29 => k_is)
    (case a30 => k_is)
    (case l30 => k_is)
    (case c30 => k_is)
    (case k30 => k_is)
    (case a31 => k_is)
    (case l31 => k_is)
    (case c31 => k_is)
    (case k31 => k_is)
    (case a32 => k_is)
    (case l32 => k_is)
    (case c32 => k_is)
    (case k32 => k_is)
    (case a33 => k_is)
    (case l33 => k_is)
    (case c33 => k_is)
    (case k33 => k_is)
    (case a34 => k_is)
    (case l34 => k_is)
    (case c34 => k_is)
    (case k34 => k_is)
    (case a35 => k_is)
    (case l35 => k_is)
    (case c35 => k_is)
    (case k35 => k_is)
    (case a36 => k_is)
    (case l36 => k_is)
    (case c36 => k_is)
    (case k36 => k_is)
    (case a37 => k_is)
    (case l37 => k_is)
    (case c37 => k_is)
    (case k37 => k_is)
    (case zcONE => k_is)
    (case zlONE => k_is)
    (case ziONE => rfl)
    (case zcZERO => k_is)
    (case zlZERO => k_is)
    (case ziZERO => rfl)
    (case zg => k_is)
    (case zabs => k_is)
    (case zany => k_is)
    (case zbool => k_is)
    (case zenumerate => k_is)
    (case zint => k_is)
    (case zisinstance => k_is)
    (case zlen => k_is)
    (case zlist => k_is)
    (case zrange => k_is)
    (case zrepr => k_is)
    (case ztuple => k_is)
    (case zzip => k_is)
